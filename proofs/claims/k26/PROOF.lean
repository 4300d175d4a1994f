import PyProof.Rows.All
import Wide.All
import OpenK.AllK
import Wide.FinOn
import KE.KStateDown
import HandS.ForMost
import HandS.ForExc
import HandS.Defaults
import HandS.Wide
import HandS.Walk
import HandS.Zip
import HandS.Rev
import HandS.TupAny
import HandS.TupMul
import HandS.IsInst
import HandS.Deep
import HandS.DeepEq
import HandS.NoneIn
import HandS.Flow
import HandS.Style
import HandS.TupLe
import HandS.Head0
import HandS.Head1
import HandS.Head2
import HandS.HeadEnd
import HandS.HeadHook1
import HandS.HeadHook2
import KE.SortData
import KE.SortKeyed
import PySem.Challenge.RW_paidnomore_k26_papers_in_form
set_option Elab.async false
set_option linter.all false
set_option maxRecDepth 100000
set_option maxHeartbeats 4000000
/-! DL: a layer of plain data over the hand layer: values are trees, what can change is a small store. -/
namespace DL
open PySem PySem.Spec L2

/-- plain data -/
inductive D where
  | non | bl (b : Bool) | int (i : Int) | str (x : Str) | tup (ds : List D) | ref (a : Addr)

mutual
inductive Dat (H : Hp) : V → D → Prop
  | non : Dat H .non .non
  | bl (b : Bool) : Dat H (.bl b) (.bl b)
  | int (i : Int) : Dat H (.int i) (.int i)
  | str (x : Str) : Dat H (.str x) (.str x)
  | ref (a : Addr) : Dat H (.ref a) (.ref a)
  | tup {p : Addr} {vs : List V} {ds : List D} (h : H p = some (.tup vs)) (r : Dats H vs ds) : Dat H (.ref p) (.tup ds)
inductive Dats (H : Hp) : List V → List D → Prop
  | nil : Dats H [] []
  | cons {v : V} {d : D} {vs : List V} {ds : List D} (h : Dat H v d) (r : Dats H vs ds) : Dats H (v :: vs) (d :: ds)
end

/-- what is never changed -/
def Fix : HO → Prop
  | .tup _ => True
  | .frz _ (.lst _) => True
  | .frz _ (.tup _) => True
  | _ => False
def Kp (H H' : Hp) : Prop := ∀ p o, Fix o → H p = some o → H' p = some o
theorem Kp.refl (H : Hp) : Kp H H := fun _ _ _ h => h
theorem Kp.trans {H H1 H2 : Hp} (a : Kp H H1) (b : Kp H1 H2) : Kp H H2 := fun p o f h => b p o f (a p o f h)
theorem Kp.alloc {H : Hp} {p : Addr} {o : HO} (h : H p = none) : Kp H (upd H p o) := fun q u _ e => by
  rw [upd_ne (ne_of_none e h)]; exact e
theorem Kp.write {H : Hp} {p : Addr} {o u : HO} (h : H p = some u) (f : ¬ Fix u) : Kp H (upd H p o) := fun q w g e => by
  have : q ≠ p := fun z => by subst z; rw [h] at e; cases e; exact f g
  rw [upd_ne this]; exact e

mutual
theorem Dat.mono {H H' : Hp} (k : Kp H H') : ∀ {v : V} {d : D}, Dat H v d → Dat H' v d
  | _, _, .non => .non
  | _, _, .bl b => .bl b
  | _, _, .int i => .int i
  | _, _, .str x => .str x
  | _, _, .ref a => .ref a
  | _, _, .tup h r => .tup (k _ _ trivial h) (Dats.mono k r)
theorem Dats.mono {H H' : Hp} (k : Kp H H') : ∀ {vs : List V} {ds : List D}, Dats H vs ds → Dats H' vs ds
  | _, _, .nil => .nil
  | _, _, .cons h r => .cons (Dat.mono k h) (Dats.mono k r)
end
section
variable {H H' : Hp} {v : V} {d : D} {vs ws : List V} {ds es : List D}
theorem Dats.length : ∀ {vs : List V} {ds : List D}, Dats H vs ds → vs.length = ds.length
  | _, _, .nil => rfl
  | _, _, .cons _ r => congrArg Nat.succ (Dats.length r)
theorem Dats.get : ∀ {vs : List V} {ds : List D} {i : Nat} {d : D}, Dats H vs ds → ds[i]? = some d → ∃ v, vs[i]? = some v ∧ Dat H v d
  | _, _, _, _, .nil, e => by simp at e
  | _, _, 0, _, .cons h _, e => by simp at e; subst e; exact ⟨_, rfl, h⟩
  | _, _, i + 1, d, .cons _ r, e => by
    obtain ⟨v, h1, h2⟩ := Dats.get (i := i) (d := d) r (by simpa using e)
    exact ⟨v, by simpa using h1, h2⟩
theorem Dats.getV : ∀ {vs : List V} {ds : List D} {i : Nat} {v : V}, Dats H vs ds → vs[i]? = some v → ∃ d, ds[i]? = some d ∧ Dat H v d
  | _, _, _, _, .nil, e => by simp at e
  | _, _, 0, _, .cons h _, e => by simp at e; subst e; exact ⟨_, rfl, h⟩
  | _, _, i + 1, v, .cons _ r, e => by
    obtain ⟨d, h1, h2⟩ := Dats.getV (i := i) (v := v) r (by simpa using e)
    exact ⟨d, by simpa using h1, h2⟩
theorem Dats.append : ∀ {vs ws : List V} {ds es : List D}, Dats H vs ds → Dats H ws es → Dats H (vs ++ ws) (ds ++ es)
  | _, _, _, _, .nil, s => s
  | _, _, _, _, .cons h r, s => .cons h (Dats.append r s)
theorem Dats.set {v : V} {d : D} (h : Dat H v d) : ∀ {vs : List V} {ds : List D} (i : Nat), Dats H vs ds → Dats H (vs.set i v) (ds.set i d)
  | _, _, _, .nil => .nil
  | _, _, 0, .cons _ r => .cons h r
  | _, _, i + 1, .cons g r => .cons g (Dats.set h i r)
theorem Dats.take : ∀ {vs : List V} {ds : List D} (n : Nat), Dats H vs ds → Dats H (vs.take n) (ds.take n)
  | _, _, 0, _ => .nil
  | _, _, _ + 1, .nil => .nil
  | _, _, n + 1, .cons h r => .cons h (Dats.take n r)
theorem Dats.drop : ∀ {vs : List V} {ds : List D} (n : Nat), Dats H vs ds → Dats H (vs.drop n) (ds.drop n)
  | _, _, 0, r => r
  | _, _, _ + 1, .nil => .nil
  | _, _, n + 1, .cons _ r => Dats.drop n r
theorem Dats.rep (n : Nat) (r : Dats H vs ds) : Dats H (List.replicate n vs).flatten (List.replicate n ds).flatten := by
  induction n with
  | zero => exact .nil
  | succ n ih => rw [List.replicate_succ, List.replicate_succ, List.flatten_cons, List.flatten_cons]; exact r.append ih
theorem Dats.ints {ns : List Int} (r : Dats H vs (ns.map D.int)) : vs = ns.map V.int := by
  induction ns generalizing vs with
  | nil => cases r; rfl
  | cons n ns ih => cases r with | cons h r => cases h; rw [ih r]; rfl
theorem Dats.bls {ns : List Bool} (r : Dats H vs (ns.map D.bl)) : vs = ns.map V.bl := by
  induction ns generalizing vs with
  | nil => cases r; rfl
  | cons n ns ih => cases r with | cons h r => cases h; rw [ih r]; rfl
theorem Dats.strs_ {ns : List Str} (r : Dats H vs (ns.map D.str)) : vs = ns.map V.str := by
  induction ns generalizing vs with
  | nil => cases r; rfl
  | cons n ns ih => cases r with | cons h r => cases h; rw [ih r]; rfl
theorem Dats.of_ints (ns : List Int) : Dats H (ns.map V.int) (ns.map D.int) := by
  induction ns with
  | nil => exact .nil
  | cons n ns ih => exact .cons (.int n) ih
end

/-- what stands at an address of the store: a list, a list that is only read, a dict with keys that are ints and texts -/
inductive C where
  | lst (ds : List D) | ro (ds : List D) | dic (kvs : List (Key × D))
abbrev S := Addr → Option C
def S.set (s : S) (a : Addr) (c : C) : S := fun b => if b = a then some c else s b
def S.del (s : S) (a : Addr) : S := fun b => if b = a then none else s b
theorem S.set_same {s : S} {a : Addr} {c : C} : s.set a c a = some c := if_pos rfl
theorem S.set_ne {s : S} {a b : Addr} {c : C} (h : b ≠ a) : s.set a c b = s b := if_neg h
theorem S.set_set {s : S} {a : Addr} {c c' : C} : (s.set a c).set a c' = s.set a c' := by
  funext b; unfold S.set; split <;> rfl
theorem S.del_set {s : S} {a : Addr} {c : C} (h : s a = none) : (s.set a c).del a = s := by
  funext b; unfold S.del
  by_cases e : b = a
  · rw [if_pos e, e, h]
  · rw [if_neg e]; exact S.set_ne e
def Sub (s s' : S) : Prop := ∀ a c, s a = some c → s' a = some c
theorem Sub.refl (s : S) : Sub s s := fun _ _ h => h
theorem Sub.set {s : S} {a : Addr} {c : C} (h : s a = none) : Sub s (s.set a c) := fun b c' e => by
  have : b ≠ a := fun z => by rw [z, h] at e; cases e
  rw [S.set_ne this]; exact e
theorem Sub.trans {s s1 s2 : S} (a : Sub s s1) (b : Sub s1 s2) : Sub s s2 := fun c o h => b c o (a c o h)

abbrev KD (H : Hp) : List (Key × V) → List (Key × D) → Prop := Paired fun p q => p.1 = q.1 ∧ Dat H p.2 q.2
section
variable (K : PySem.W.Frag)
/-- a list of the written part -/
def KRo (a : Addr) (ds : List D) : Prop := ∀ H : Hp, ∃ vs, SqL K H a vs ∧ Dats H vs ds
end
def CellAt (H : Hp) (a : Addr) : C → Prop
  | .lst ds => ∃ vs, H a = some (.lst vs) ∧ Dats H vs ds
  | .ro ds => ∃ vs o, H a = some (.frz o (.lst vs)) ∧ Dats H vs ds
  | .dic kvs => ∃ ws, H a = some (.dK ws) ∧ KD H ws kvs
def HS (H : Hp) (s : S) : Prop := ∀ a c, s a = some c → CellAt H a c
section
variable {K : PySem.W.Frag} {H H' : Hp} {s : S} {a b p : Addr} {c : C} {o : HO}
theorem KD.mono (k : Kp H H') {ws : List (Key × V)} {kvs : List (Key × D)} (r : KD H ws kvs) : KD H' ws kvs :=
  Paired.mapP r fun _ _ z => ⟨z.1, z.2.mono k⟩
theorem CellAt.move (h : CellAt H b c) (k : Kp H H') (e : H' b = H b) : CellAt H' b c := by
  cases c with
  | lst ds => obtain ⟨vs, h1, h2⟩ := h; exact ⟨vs, e.trans h1, h2.mono k⟩
  | ro ds => obtain ⟨vs, o, h1, h2⟩ := h; exact ⟨vs, o, e.trans h1, h2.mono k⟩
  | dic kvs => obtain ⟨ws, h1, h2⟩ := h; exact ⟨ws, e.trans h1, KD.mono k h2⟩
theorem CellAt.alloc (h : CellAt H b c) (n : H p = none) : CellAt (upd H p o) b c := by
  have k : Kp H (upd H p o) := Kp.alloc n
  cases c with
  | lst ds => obtain ⟨vs, h1, h2⟩ := h; exact ⟨vs, by rw [upd_ne (ne_of_none h1 n)]; exact h1, h2.mono k⟩
  | ro ds => obtain ⟨vs, o, h1, h2⟩ := h; exact ⟨vs, o, by rw [upd_ne (ne_of_none h1 n)]; exact h1, h2.mono k⟩
  | dic kvs => obtain ⟨ws, h1, h2⟩ := h; exact ⟨ws, by rw [upd_ne (ne_of_none h1 n)]; exact h1, KD.mono k h2⟩
theorem HS.alloc (h : HS H s) (n : H p = none) : HS (upd H p o) s := fun a c e => (h a c e).alloc n
theorem HS.none (h : HS H s) (n : H p = none) : s p = none := by
  cases e : s p with
  | none => rfl
  | some c =>
    have := h p c e
    cases c with
    | lst ds => obtain ⟨vs, h1, _⟩ := this; rw [n] at h1; cases h1
    | ro ds => obtain ⟨vs, _, h1, _⟩ := this; rw [n] at h1; cases h1
    | dic kvs => obtain ⟨vs, h1, _⟩ := this; rw [n] at h1; cases h1
/-- the object at a is written -/
theorem HS.write (h : HS H s) (k : Kp H H') (ne : ∀ b, b ≠ a → H' b = H b) (new : CellAt H' a c) : HS H' (s.set a c) := fun b c' e => by
  by_cases hb : b = a
  · subst hb; rw [S.set_same] at e; cases e; exact new
  · rw [S.set_ne hb] at e; exact (h b c' e).move k (ne b hb)
/-- a new object is laid and kept in the store -/
theorem HS.laid (h : HS H s) (n : H p = Option.none) (new : CellAt (upd H p o) p c) : HS (upd H p o) (s.set p c) := fun b c' e => by
  by_cases hb : b = p
  · subst hb; rw [S.set_same] at e; cases e; exact new
  · rw [S.set_ne hb] at e; exact (h b c' e).alloc n
theorem HS.laidL {vs : List V} {ds : List D} (h : HS H s) (n : H p = Option.none) (r : Dats H vs ds) : HS (upd H p (.lst vs)) (s.set p (.lst ds)) := h.laid n (show CellAt _ _ (.lst ds) from ⟨vs, upd_same, r.mono (Kp.alloc n)⟩)
theorem HS.sub {s' : S} (h : HS H s) (u : Sub s' s) : HS H s' := fun a c e => h a c (u a c e)
end

/-! ### readings over data -/
abbrev DS := List (Option D)
abbrev QD := D → S → Prop
abbrev TD := DS → S → QD → Prop
abbrev TDT := DS → S → (Bool → S → Prop) → Prop
abbrev TDA := DS → S → (List D → S → Prop) → Prop
structure EndsD where
  nx : DS → S → Prop
  rt : QD
  bk : DS → S → Prop := fun _ _ => False
  ct : DS → S → Prop := fun _ _ => False
abbrev TDS := EndsD → DS → S → Prop

structure EnvD (H : Hp) (σV : St) (σ : DS) : Prop where
  len : σV.length = σ.length
  get : ∀ (i : Nat) (d : D), σ[i]? = some (some d) → ∃ v, σV[i]? = some (some v) ∧ Dat H v d
theorem EnvD.mono {H H' : Hp} {σV : St} {σ : DS} (h : EnvD H σV σ) (k : Kp H H') : EnvD H' σV σ :=
  ⟨h.len, fun i d e => let ⟨v, h1, h2⟩ := h.get i d e; ⟨v, h1, h2.mono k⟩⟩
theorem EnvD.set {H : Hp} {σV : St} {σ : DS} (h : EnvD H σV σ) {v : V} {d : D} (i : Nat) (r : Dat H v d) : EnvD H (σV.set i (some v)) (σ.set i (some d)) := by
  refine ⟨by rw [List.length_set, List.length_set]; exact h.len, fun j e q => ?_⟩
  by_cases hj : i = j
  · subst hj
    by_cases hi : i < σ.length
    · rw [List.getElem?_set_self hi] at q
      cases q
      exact ⟨v, by rw [List.getElem?_set_self (by rw [h.len]; exact hi)], r⟩
    · rw [List.getElem?_eq_none (by rw [List.length_set]; omega)] at q; cases q
  · rw [List.getElem?_set_ne hj] at q ⊢
    exact h.get j e q
theorem EnvD.forget {H : Hp} {σV : St} {σ : DS} (h : EnvD H σV σ) (i : Nat) : EnvD H (σV.set i none) (σ.set i none) := by
  refine ⟨by rw [List.length_set, List.length_set]; exact h.len, fun j e q => ?_⟩
  by_cases hj : i = j
  · subst hj
    by_cases hi : i < σ.length
    · rw [List.getElem?_set_self hi] at q; cases q
    · rw [List.getElem?_eq_none (by rw [List.length_set]; omega)] at q; cases q
  · rw [List.getElem?_set_ne hj] at q ⊢
    exact h.get j e q

def upE (t : TD) : TE := fun σV H Q => ∃ (σ : DS) (s : S) (Q' : QD), EnvD H σV σ ∧ HS H s ∧ t σ s Q' ∧ ∀ v d H' s', Kp H H' → Dat H' v d → HS H' s' → Q' d s' → Q v H'
def upT (t : TDT) : TT := fun σV H Q => ∃ (σ : DS) (s : S) (Q' : Bool → S → Prop), EnvD H σV σ ∧ HS H s ∧ t σ s Q' ∧ ∀ b H' s', Kp H H' → HS H' s' → Q' b s' → Q b H'
def upA (t : TDA) : TA := fun σV H Q => ∃ (σ : DS) (s : S) (Q' : List D → S → Prop), EnvD H σV σ ∧ HS H s ∧ t σ s Q' ∧ ∀ vs ds H' s', Kp H H' → Dats H' vs ds → HS H' s' → Q' ds s' → Q vs H'
structure RelEnds (D : Ends) (D' : EndsD) (H : Hp) : Prop where
  nx : ∀ σV σ H' s, Kp H H' → EnvD H' σV σ → HS H' s → D'.nx σ s → D.nx σV H'
  rt : ∀ v d H' s, Kp H H' → Dat H' v d → HS H' s → D'.rt d s → D.rt v H'
  bk : ∀ σV σ H' s, Kp H H' → EnvD H' σV σ → HS H' s → D'.bk σ s → D.bk σV H'
  ct : ∀ σV σ H' s, Kp H H' → EnvD H' σV σ → HS H' s → D'.ct σ s → D.ct σV H'
theorem RelEnds.mono {D : Ends} {D' : EndsD} {H H1 : Hp} (r : RelEnds D D' H) (k : Kp H H1) : RelEnds D D' H1 :=
  ⟨fun a b c d k' => r.nx a b c d (k.trans k'), fun a b c d k' => r.rt a b c d (k.trans k'), fun a b c d k' => r.bk a b c d (k.trans k'), fun a b c d k' => r.ct a b c d (k.trans k')⟩
def upS (t : TDS) : TS := fun D σV H => ∃ (σ : DS) (s : S) (D' : EndsD), EnvD H σV σ ∧ HS H s ∧ t D' σ s ∧ RelEnds D D' H
theorem PE.weaken {X : Cx} {e : Expr} {t t' : TE} (h : PE X e t) (w : ∀ σ H Q, t' σ H Q → t σ H Q) : PE X e t' := ⟨fun pins s σ H Q I q => h.run pins s σ H Q I (w _ _ _ q)⟩
theorem PT.weaken {X : Cx} {e : Expr} {t t' : TT} (h : PT X e t) (w : ∀ σ H Q, t' σ H Q → t σ H Q) : PT X e t' := ⟨fun pins s σ H Q I q => h.run pins s σ H Q I (w _ _ _ q)⟩
theorem PW.weaken {X : Cx} {e : Expr} {t t' : TT} (h : PW X e t) (w : ∀ σ H Q, t' σ H Q → t σ H Q) : PW X e t' := ⟨fun wh pins s σ H Q I q => h.run wh pins s σ H Q I (w _ _ _ q)⟩
theorem PA.weaken {X : Cx} {e : List Expr} {t t' : TA} (h : PA X e t) (w : ∀ σ H Q, t' σ H Q → t σ H Q) : PA X e t' := ⟨fun pos pins s σ H Q I q => h.run pos pins s σ H Q I (w _ _ _ q)⟩
theorem PS.weaken {X : Cx} {e : Stmt} {t t' : TS} (h : PS X e t) (w : ∀ σ H Q, t' σ H Q → t σ H Q) : PS X e t' := ⟨fun pins s σ H Q I q => h.run pins s σ H Q I (w _ _ _ q)⟩
theorem PSs.weaken {X : Cx} {e : List Stmt} {t t' : TS} (h : PSs X e t) (w : ∀ σ H Q, t' σ H Q → t σ H Q) : PSs X e t' := ⟨fun pins s σ H Q I q => h.run pins s σ H Q I (w _ _ _ q)⟩
abbrev DE (X : Cx) (e : Expr) (t : TD) : Prop := PE X e (upE t)
abbrev DT (X : Cx) (e : Expr) (t : TDT) : Prop := PT X e (upT t)
abbrev DW (X : Cx) (e : Expr) (t : TDT) : Prop := PW X e (upT t)
abbrev DA (X : Cx) (es : List Expr) (t : TDA) : Prop := PA X es (upA t)
abbrev DSt (X : Cx) (st : Stmt) (t : TDS) : Prop := PS X st (upS t)
abbrev DSs (X : Cx) (st : List Stmt) (t : TDS) : Prop := PSs X st (upS t)
end DL

set_option maxHeartbeats 4000000
namespace DL
open PySem PySem.Spec L2
variable {X : Cx} {a b c e : Expr} {es : List Expr} {ta tb tc te : TD} {pos : Pos}

/-! ### names and constants -/
def dVar (i : Nat) : TD := fun σ s Q => ∃ d, σ[i]? = some (some d) ∧ Q d s
def dC (d : D) : TD := fun _ s Q => Q d s
theorem de_var {i : Nat} {x : Str} (hN : X.N[i]? = some x := by rfl) (hv : Vis X.env.scope x := by first | exact Or.inl rfl | exact Or.inr (Or.inl rfl) | exact Or.inr (Or.inr rfl)) (hd : (x == ("__debug__" : Str)) = false := by decide)
    (hcd : (x == ("__classdict__" : Str)) = false := by decide) : DE X (.Name x pos) (dVar i) :=
  PE.weaken (pe_var hN hv hd hcd) fun σV H Q h => by
    obtain ⟨σ, s, Q', E, hs, ⟨d, e, q⟩, k⟩ := h
    obtain ⟨v, ev, r⟩ := E.get i d e
    exact ⟨v, ev, k v d H s (Kp.refl H) r hs q⟩
theorem de_const {v : V} {d : D} (h : PE X e (tC v)) (r : ∀ H, Dat H v d) : DE X e (dC d) :=
  PE.weaken h fun σV H Q h => by
    obtain ⟨σ, s, Q', E, hs, q, k⟩ := h
    exact k v d H s (Kp.refl H) (r H) hs q
theorem de_int {i j} : DE X (.Constant (.int i) j pos) (dC (.int i)) := de_const pe_int fun _ => .int _
theorem de_bl {i j} : DE X (.Constant (.bool i) j pos) (dC (.bl i)) := de_const pe_bl fun _ => .bl _
theorem de_non {j} : DE X (.Constant .none j pos) (dC .non) := de_const pe_non fun _ => .non
theorem de_str {x j} : DE X (.Constant (.str x) j pos) (dC (.str x)) := de_const pe_str fun _ => .str _
theorem de_gint {x : Str} {i : Int} (hg : Gl X x) (hm : ∃ t, X.mg x = some (.int i t)) (hd : (x == ("__debug__" : Str)) = false := by decide) : DE X (.Name x pos) (dC (.int i)) :=
  let ⟨t, e⟩ := hm; de_const (pe_glob (v := .int i) hg e ⟨t, rfl⟩ hd) fun _ => .int _
theorem de_gstr {x : Str} {i : Str} (hg : Gl X x) (hm : ∃ t, X.mg x = some (.str i t)) (hd : (x == ("__debug__" : Str)) = false := by decide) : DE X (.Name x pos) (dC (.str i)) :=
  let ⟨t, e⟩ := hm; de_const (pe_glob (v := .str i) hg e ⟨t, rfl⟩ hd) fun _ => .str _

/-! ### operators by values -/
abbrev RD2 := D → D → S → QD → Prop
def Lift2 (r : R2) (ρ : RD2) : Prop := ∀ v w d f H s Q Q', Dat H v d → Dat H w f → HS H s → ρ d f s Q' → (∀ v d H' s', Kp H H' → Dat H' v d → HS H' s' → Q' d s' → Q v H') → r v w H Q
def dOp (ρ : RD2) (ta tb : TD) : TD := fun σ s Q => ta σ s fun x s1 => tb σ s1 fun y s2 => ρ x y s2 Q
theorem lift_op {r : R2} {ρ : RD2} (l : Lift2 r ρ) : ∀ σV H Q, upE (dOp ρ ta tb) σV H Q → tOp r (upE ta) (upE tb) σV H Q := fun σV H Q h => by
  obtain ⟨σ, s, Q', E, hs, q, k⟩ := h
  refine ⟨σ, s, _, E, hs, q, fun v d H1 s1 k1 r1 hs1 q1 => ?_⟩
  refine ⟨σ, s1, _, E.mono k1, hs1, q1, fun w f H2 s2 k2 r2 hs2 q2 => ?_⟩
  exact l v w d f H2 s2 Q Q' (r1.mono k2) r2 hs2 q2 fun z g H3 s3 k3 => k z g H3 s3 ((k1.trans k2).trans k3)
theorem de_op {op : Operator} {r : R2} {ρ : RD2} (ho : OpR X (binaryOp op) r) (l : Lift2 r ρ) (ha : DE X a ta) (hb : DE X b tb) : DE X (.BinOp a op b pos) (dOp ρ ta tb) :=
  PE.weaken (pe_op ho ha hb) (lift_op l)
theorem lift_or {r r' : R2} {ρ ρ' : RD2} (l : Lift2 r ρ) (l' : Lift2 r' ρ') : Lift2 (fun x y H Q => r x y H Q ∨ r' x y H Q) (fun x y s Q => ρ x y s Q ∨ ρ' x y s Q) := fun v w d f H s Q Q' r1 r2 hs q k => by
  rcases q with q | q
  · exact .inl (l v w d f H s Q Q' r1 r2 hs q k)
  · exact .inr (l' v w d f H s Q Q' r1 r2 hs q k)

/-- + -/
def rAdd : RD2
  | .int i, .int j, s, Q => Q (.int (i + j)) s
  | .str x, .str y, s, Q => x.length + y.length ≤ sizeLine ∧ Q (.str (x ++ y)) s
  | .tup xs, .tup ys, s, Q => xs.length + ys.length ≤ sizeLine ∧ Q (.tup (xs ++ ys)) s
  | .ref l, .ref m, s, Q => ∃ xs ys, s l = some (.lst xs) ∧ s m = some (.lst ys) ∧ xs.length + ys.length ≤ sizeLine ∧ ∀ p, s p = none → Q (.ref p) (s.set p (.lst (xs ++ ys)))
  | _, _, _, _ => False
theorem datI {H : Hp} {v : V} {i : Int} (h : Dat H v (.int i)) : v = .int i := by cases h; rfl
theorem datB {H : Hp} {v : V} {i : Bool} (h : Dat H v (.bl i)) : v = .bl i := by cases h; rfl
theorem datS {H : Hp} {v : V} {i : Str} (h : Dat H v (.str i)) : v = .str i := by cases h; rfl
theorem datN {H : Hp} {v : V} (h : Dat H v .non) : v = .non := by cases h; rfl
theorem datR {H : Hp} {v : V} {p : Addr} (h : Dat H v (.ref p)) : v = .ref p := by cases h; rfl
theorem datT {H : Hp} {v : V} {ds : List D} (h : Dat H v (.tup ds)) : ∃ p vs, v = .ref p ∧ H p = some (.tup vs) ∧ Dats H vs ds := by cases h with | tup h r => exact ⟨_, _, rfl, h, r⟩
theorem of_nil {H : Hp} {vs : List V} (r : Dats H vs []) : vs = [] := by cases r; rfl
theorem ne_nil {H : Hp} {vs : List V} {d : D} {ds : List D} (r : Dats H vs (d :: ds)) : vs ≠ [] := by cases r; simp
theorem lift_add (K : PySem.W.Frag) : Lift2 (fun x y H Q => ((rI0 fun i j => .int (i + j)) x y H Q ∨ (∃ i j, x = .str i ∧ y = .str j ∧ i.length + j.length ≤ sizeLine ∧ Q (.str (i ++ j)) H)) ∨ (rCatA K x y H Q ∨ rCat x y H Q)) rAdd := fun v w d f H s Q Q' r1 r2 hs q k => by
  cases d with
  | int i => cases f with
    | int j => cases datI r1; cases datI r2; exact .inl (.inl ⟨i, j, rfl, rfl, k _ _ _ _ (Kp.refl H) (.int _) hs q⟩)
    | _ => exact q.elim
  | str i => cases f with
    | str j => cases datS r1; cases datS r2; exact .inl (.inr ⟨i, j, rfl, rfl, q.1, k _ _ _ _ (Kp.refl H) (.str _) hs q.2⟩)
    | _ => exact q.elim
  | tup xs => cases f with
    | tup ys =>
      obtain ⟨p1, v1, rfl, e1, t1⟩ := datT r1
      obtain ⟨p2, v2, rfl, e2, t2⟩ := datT r2
      refine .inr (.inl ⟨p1, p2, v1, v2, rfl, rfl, SqT.of e1, SqT.of e2, by rw [t1.length, t2.length]; exact q.1, fun z => ?_, fun _ z => ?_, fun _ _ p hp => ?_⟩)
      · subst z; cases t1
        exact k _ _ _ _ (Kp.refl H) (by simpa using r2) hs (by simpa using q.2)
      · subst z; cases t2
        exact k _ _ _ _ (Kp.refl H) (by simpa using r1) hs (by simpa using q.2)
      · have kp : Kp H (upd H p (.tup (v1 ++ v2))) := Kp.alloc hp
        exact k _ _ _ _ kp (.tup upd_same ((t1.append t2).mono kp)) (hs.alloc hp) q.2
    | _ => exact q.elim
  | ref l => cases f with
    | ref m =>
      cases datR r1; cases datR r2
      obtain ⟨xs, ys, h1, h2, hl, q⟩ := q
      obtain ⟨v1, e1, t1⟩ := hs _ _ h1
      obtain ⟨v2, e2, t2⟩ := hs _ _ h2
      refine .inr (.inr ⟨l, m, v1, v2, rfl, rfl, e1, e2, by rw [t1.length, t2.length]; exact hl, fun p hp => ?_⟩)
      have kp : Kp H (upd H p (.lst (v1 ++ v2))) := Kp.alloc hp
      exact k _ _ _ _ kp (.ref p) (hs.laidL hp (t1.append t2)) (q p (hs.none hp))
    | _ => exact q.elim
  | _ => exact q.elim
theorem de_add (ha : DE X a ta) (hb : DE X b tb) : DE X (.BinOp a .Add b pos) (dOp rAdd ta tb) :=
  de_op (OpR.or (OpR.or op_add op_add_str) (OpR.or op_catA op_cat)) (lift_add X.K) ha hb

/-- two ints -/
def rII (C : Int → Int → Prop) (g : Int → Int → D) : RD2
  | .int i, .int j, s, Q => C i j ∧ Q (g i j) s
  | _, _, _, _ => False
theorem lift_ii {C : Int → Int → Prop} {g : Int → Int → V} {g' : Int → Int → D} (hg : ∀ i j H, Dat H (g i j) (g' i j)) : Lift2 (rI C g) (rII C g') := fun v w d f H s Q Q' r1 r2 hs q k => by
  cases d with
  | int i => cases f with
    | int j => cases datI r1; cases datI r2; exact ⟨i, j, rfl, rfl, q.1, k _ _ _ _ (Kp.refl H) (hg i j H) hs q.2⟩
    | _ => exact q.elim
  | _ => exact q.elim
def rII0 (g : Int → Int → D) : RD2
  | .int i, .int j, s, Q => Q (g i j) s
  | _, _, _, _ => False
theorem lift_ii0 {g : Int → Int → V} {g' : Int → Int → D} (hg : ∀ i j H, Dat H (g i j) (g' i j)) : Lift2 (rI0 g) (rII0 g') := fun v w d f H s Q Q' r1 r2 hs q k => by
  cases d with
  | int i => cases f with
    | int j => cases datI r1; cases datI r2; exact ⟨i, j, rfl, rfl, k _ _ _ _ (Kp.refl H) (hg i j H) hs q⟩
    | _ => exact q.elim
  | _ => exact q.elim
def rSub : RD2 := rII0 fun i j => .int (i - j)
theorem de_sub (ha : DE X a ta) (hb : DE X b tb) : DE X (.BinOp a .Sub b pos) (dOp rSub ta tb) := de_op op_sub (lift_ii0 fun _ _ _ => .int _) ha hb
/-- one of them small, or together below a hundred million bits -/
def CMulD (i j : Int) : Prop := (i.natAbs < 2 ^ 64 ∨ j.natAbs < 2 ^ 64) ∨ i.natAbs.log2 + j.natAbs.log2 < 100000000
theorem CMulD.ok {i j : Int} (h : CMulD i j) : IntMulOk i j := by
  rcases h with h | h
  · refine CMul.ok ?_
    rcases h with h | h
    · exact .inl (by omega)
    · exact .inr (by omega)
  have b : ∀ x : Int, Builtin.Int.intBits x ≤ x.natAbs.log2 + 1 := fun x => by
    unfold Builtin.Int.intBits
    split <;> omega
  have h1 := b i
  have h2 := b j
  have e : bitsLine = 134217728 := by decide
  unfold IntMulOk
  intro z
  rw [Bool.and_eq_true] at z
  have z2 := z.2
  unfold Builtin.Int.intTooBig at z2
  have z3 := of_decide_eq_true z2
  rw [e] at z3
  omega
theorem op_mulD : OpR X (binaryOp .Mult) (rI CMulD fun i j => .int (i * j)) := opI fun _ _ _ _ _ _ _ hc q => PyProof.Rows.mul_int q hc.ok
def rMul : RD2
  | .int i, .int j, s, Q => CMulD i j ∧ Q (.int (i * j)) s
  | .ref l, .int k, s, Q => ∃ xs, s l = some (.lst xs) ∧ -(2 ^ 63) ≤ k ∧ k < 2 ^ 63 ∧ xs.length * k.toNat ≤ sizeLine ∧ ∀ p, s p = none → Q (.ref p) (s.set p (.lst (List.replicate k.toNat xs).flatten))
  | .tup xs, .int k, s, Q => xs ≠ [] ∧ 2 ≤ k ∧ k ≤ 1000 ∧ xs.length ≤ 1000 ∧ Q (.tup (List.replicate k.toNat xs).flatten) s
  | _, _, _, _ => False
theorem lift_mul (K : PySem.W.Frag) : Lift2 (fun x y H Q => rI CMulD (fun i j => .int (i * j)) x y H Q ∨ (rRep x y H Q ∨ rRepT K x y H Q)) rMul := fun v w d f H s Q Q' r1 r2 hs q k => by
  cases d with
  | int i => cases f with
    | int j => cases datI r1; cases datI r2; exact .inl ⟨i, j, rfl, rfl, q.1, k _ _ _ _ (Kp.refl H) (.int _) hs q.2⟩
    | _ => exact q.elim
  | ref l => cases f with
    | int j =>
      cases datR r1; cases datI r2
      obtain ⟨xs, h1, hlo, hhi, hl, q⟩ := q
      obtain ⟨v1, e1, t1⟩ := hs _ _ h1
      refine .inr (.inl ⟨l, j, v1, rfl, rfl, e1, hlo, hhi, by rw [t1.length]; exact hl, fun p hp => ?_⟩)
      have kp : Kp H (upd H p (.lst (List.replicate j.toNat v1).flatten)) := Kp.alloc hp
      exact k _ _ _ _ kp (.ref p) (hs.laidL hp (t1.rep _)) (q p (hs.none hp))
    | _ => exact q.elim
  | tup xs => cases f with
    | int j =>
      cases datI r2
      obtain ⟨p1, v1, rfl, e1, t1⟩ := datT r1
      obtain ⟨h0, h2, h3, h4, q⟩ := q
      refine .inr (.inr ⟨p1, j, v1, rfl, rfl, SqT.of e1, fun z => h0 (by subst z; cases t1; rfl), h2, h3, by rw [t1.length]; exact h4, fun p hp => ?_⟩)
      have kp : Kp H (upd H p (.tup (List.replicate j.toNat v1).flatten)) := Kp.alloc hp
      exact k _ _ _ _ kp (.tup upd_same ((t1.rep _).mono kp)) (hs.alloc hp) q
    | _ => exact q.elim
  | _ => exact q.elim
theorem de_mul (ha : DE X a ta) (hb : DE X b tb) : DE X (.BinOp a .Mult b pos) (dOp rMul ta tb) := de_op (OpR.or op_mulD (OpR.or op_rep op_repT)) (lift_mul X.K) ha hb
def CDivD (_ j : Int) : Prop := j ≠ 0 ∧ j.natAbs.log2 < 9000
theorem op_fdivD : OpR X (binaryOp .FloorDiv) (rI CDivD fun i j => .int (i.fdiv j)) := opI fun _ _ _ _ _ _ _ hc q => PyProof.Rows.floordiv_int hc.1 q (.inl (PyProof.noPylong_of_log2 hc.2))
def rFdiv : RD2 := rII CDivD fun i j => .int (i.fdiv j)
theorem de_fdiv (ha : DE X a ta) (hb : DE X b tb) : DE X (.BinOp a .FloorDiv b pos) (dOp rFdiv ta tb) := de_op op_fdivD (lift_ii fun _ _ _ => .int _) ha hb
def rMod : RD2 := rII (fun _ j => j ≠ 0) fun i j => .int (i.fmod j)
theorem de_mod (ha : DE X a ta) (hb : DE X b tb) : DE X (.BinOp a .Mod b pos) (dOp rMod ta tb) := de_op op_modN (lift_ii fun _ _ _ => .int _) ha hb
def rPow : RD2 := rII CPow fun i j => .int (i ^ j.toNat)
theorem de_pow (ha : DE X a ta) (hb : DE X b tb) : DE X (.BinOp a .Pow b pos) (dOp rPow ta tb) := de_op op_pow (lift_ii fun _ _ _ => .int _) ha hb
/-- -a -/
def rNeg : D → S → QD → Prop
  | .int i, s, Q => Q (.int (-i)) s
  | _, _, _ => False
def dUn (r : D → S → QD → Prop) (ta : TD) : TD := fun σ s Q => ta σ s fun x s1 => r x s1 Q
theorem de_neg (ha : DE X a ta) : DE X (.UnaryOp .USub a pos) (dUn rNeg ta) :=
  PE.weaken (pe_un un_neg ha) fun σV H Q h => by
    obtain ⟨σ, s, Q', E, hs, q, k⟩ := h
    refine ⟨σ, s, _, E, hs, q, fun v d H1 s1 k1 r1 hs1 q1 => ?_⟩
    cases d with
    | int i => cases datI r1; exact ⟨i, rfl, k _ _ _ _ k1 (.int _) hs1 q1⟩
    | _ => exact q1.elim

/-! ### == and its kin over data -/
mutual
def D.pd : D → PyData
  | .non => .none | .bl b => .bool b | .int i => .int i | .str x => .str x | .tup ds => .tuple (D.pds ds) | .ref _ => .none
def D.pds : List D → List PyData
  | [] => [] | d :: ds => D.pd d :: D.pds ds
end
mutual
/-- no list, signs in order -/
def D.ok : D → Bool
  | .str x => PyData.strOk x | .tup ds => D.oks ds | .ref _ => false | .non => true | .bl _ => true | .int _ => true
def D.oks : List D → Bool
  | [] => true | d :: ds => D.ok d && D.oks ds
end
mutual
def D.dep : D → Nat
  | .tup ds => D.deps ds + 1 | .str _ => 0 | .ref _ => 0 | .non => 0 | .bl _ => 0 | .int _ => 0
def D.deps : List D → Nat
  | [] => 0 | d :: ds => max (D.dep d) (D.deps ds)
end
mutual
def D.eqv : D → D → Bool
  | .non, .non => true
  | .bl a, .bl b => a == b
  | .bl a, .int j => (if a then 1 else 0) == j
  | .int i, .bl b => i == (if b then 1 else 0)
  | .int i, .int j => decide (i = j)
  | .str x, .str y => decide (x = y)
  | .tup xs, .tup ys => D.eqvs xs ys
  | .non, .bl _ => false | .non, .int _ => false | .non, .str _ => false | .non, .tup _ => false | .non, .ref _ => false
  | .bl _, .non => false | .bl _, .str _ => false | .bl _, .tup _ => false | .bl _, .ref _ => false
  | .int _, .non => false | .int _, .str _ => false | .int _, .tup _ => false | .int _, .ref _ => false
  | .str _, .non => false | .str _, .bl _ => false | .str _, .int _ => false | .str _, .tup _ => false | .str _, .ref _ => false
  | .tup _, .non => false | .tup _, .bl _ => false | .tup _, .int _ => false | .tup _, .str _ => false | .tup _, .ref _ => false
  | .ref _, .non => false | .ref _, .bl _ => false | .ref _, .int _ => false | .ref _, .str _ => false | .ref _, .tup _ => false | .ref _, .ref _ => false
def D.eqvs : List D → List D → Bool
  | [], [] => true
  | x :: xs, y :: ys => D.eqv x y && D.eqvs xs ys
  | [], _ :: _ => false
  | _ :: _, [] => false
end
def D.fine (d : D) : Bool := d.ok && decide (d.dep ≤ 60)
mutual
theorem ok_lay : ∀ d : D, d.ok = true → d.pd.canLay0 = true
  | .non, _ => by simp only [D.pd, PyData.canLay0]
  | .bl _, _ => by simp only [D.pd, PyData.canLay0]
  | .int _, _ => by simp only [D.pd, PyData.canLay0]
  | .str x, h => by simp only [D.pd, PyData.canLay0]; simpa only [D.ok] using h
  | .ref _, h => by simp [D.ok] at h
  | .tup ds, h => by simp only [D.pd, PyData.canLay0]; exact oks_lay ds (by simpa only [D.ok] using h)
theorem oks_lay : ∀ ds : List D, D.oks ds = true → PyData.canLayAll0 (D.pds ds) = true
  | [], _ => by simp only [D.pds, PyData.canLayAll0]
  | d :: ds, h => by
    simp only [D.oks, Bool.and_eq_true] at h
    simp only [D.pds, PyData.canLayAll0, Bool.and_eq_true]
    exact ⟨ok_lay d h.1, oks_lay ds h.2⟩
end
mutual
theorem dep_pd : ∀ d : D, d.pd.depth = d.dep
  | .non => rfl | .bl _ => rfl | .int _ => rfl | .str _ => rfl | .ref _ => rfl
  | .tup ds => by simp only [D.pd, PyData.depth, D.dep, deps_pd ds]
theorem deps_pd : ∀ ds : List D, PyData.depthAll (D.pds ds) = D.deps ds
  | [] => rfl
  | d :: ds => by simp only [D.pds, PyData.depthAll, D.deps, dep_pd d, deps_pd ds]
end
mutual
theorem eqv_pd : ∀ d f : D, d.ok = true → f.ok = true → PyData.eqv d.pd f.pd = d.eqv f
  | .non, f, _, hf => by cases f <;> simp_all [D.pd, PyData.eqv, D.eqv, D.ok]
  | .bl _, f, _, hf => by cases f <;> simp_all [D.pd, PyData.eqv, D.eqv, D.ok]
  | .int _, f, _, hf => by cases f <;> simp_all [D.pd, PyData.eqv, D.eqv, D.ok, Bool.beq_eq_decide_eq]
  | .str x, f, _, hf => by cases f <;> simp_all [D.pd, PyData.eqv, D.eqv, D.ok, Bool.beq_eq_decide_eq]
  | .ref _, f, h, hf => by simp [D.ok] at h
  | .tup ds, .tup fs, h, hf => by
    simp only [D.pd, PyData.eqv, D.eqv]
    exact eqvs_pd ds fs (by simpa only [D.ok] using h) (by simpa only [D.ok] using hf)
  | .tup ds, .non, h, hf => by simp [D.pd, PyData.eqv, D.eqv]
  | .tup ds, .bl _, h, hf => by simp [D.pd, PyData.eqv, D.eqv]
  | .tup ds, .int _, h, hf => by simp [D.pd, PyData.eqv, D.eqv]
  | .tup ds, .str _, h, hf => by simp [D.pd, PyData.eqv, D.eqv]
  | .tup ds, .ref _, h, hf => by simp [D.ok] at hf
theorem eqvs_pd : ∀ ds fs : List D, D.oks ds = true → D.oks fs = true → PyData.eqvAll (D.pds ds) (D.pds fs) = D.eqvs ds fs
  | [], [], _, _ => by simp [D.pds, PyData.eqvAll, D.eqvs]
  | [], _ :: _, _, _ => by simp [D.pds, PyData.eqvAll, D.eqvs]
  | _ :: _, [], _, _ => by simp [D.pds, PyData.eqvAll, D.eqvs]
  | d :: ds, f :: fs, h, hf => by
    simp only [D.oks, Bool.and_eq_true] at h hf
    simp only [D.pds, PyData.eqvAll, D.eqvs, eqv_pd d f h.1 hf.1, eqvs_pd ds fs h.2 hf.2]
end
mutual
theorem dp_of {K : PySem.W.Frag} {H : Hp} : ∀ {v : V} {d : D}, Dat H v d → d.ok = true → Dp K H v d.pd
  | _, _, .non, _ => .non
  | _, _, .bl b, _ => .bl b
  | _, _, .int i, _ => .int i
  | _, _, .str x, _ => .str x
  | _, _, .ref a, h => by simp [D.ok] at h
  | _, _, .tup e r, h => .tup (SqT.of e) (dps_of r (by simpa only [D.ok] using h))
theorem dps_of {K : PySem.W.Frag} {H : Hp} : ∀ {vs : List V} {ds : List D}, Dats H vs ds → D.oks ds = true → DpAll K H vs (D.pds ds)
  | _, _, .nil, _ => .nil
  | _, _, .cons e r, h => by
    simp only [D.oks, Bool.and_eq_true] at h
    exact .cons (dp_of e h.1) (dps_of r h.2)
end
theorem fine_ok {d : D} (h : d.fine = true) : d.ok = true := (Bool.and_eq_true_iff.mp h).1
theorem fine_dep {d : D} (h : d.fine = true) : d.dep ≤ 60 := of_decide_eq_true (Bool.and_eq_true_iff.mp h).2
theorem fine_shaped {d : D} (h : d.fine = true) : SeqAt.shaped d.pd = true := by
  have h1 := fine_dep h
  unfold SeqAt.shaped
  rw [ok_lay d (fine_ok h), dep_pd]
  simp; omega
/-- which == -/
def rEqD (k : Bool → Bool) : RD2
  | .int i, .int j, s, Q => Q (.bl (k (decide (i = j)))) s
  | .str i, .str j, s, Q => Q (.bl (k (decide (i = j)))) s
  | .non, .str _, s, Q => Q (.bl (k false)) s
  | .str _, .non, s, Q => Q (.bl (k false)) s
  | .int _, .str _, s, Q => Q (.bl (k false)) s
  | .str _, .int _, s, Q => Q (.bl (k false)) s
  | .bl _, .str _, s, Q => Q (.bl (k false)) s
  | .str _, .bl _, s, Q => Q (.bl (k false)) s
  | d, f, s, Q => d.fine = true ∧ f.fine = true ∧ Q (.bl (k (d.eqv f))) s
theorem lift_eqg {K : PySem.W.Frag} {v w : V} {d f : D} {H : Hp} {s : S} {Q : VK} {Q' : QD} {k' : Bool → Bool} {r1 r2 : R2}
    (h1 : ∀ x y, scal x y = true → Q (.bl (k' (decide (x = y)))) H → r1 x y H Q)
    (h2 : ∀ x y d e, Dp K H x d → Dp K H y e → SeqAt.shaped d = true → SeqAt.shaped e = true → Q (.bl (k' (PyData.eqv d e))) H → r2 x y H Q)
    (a : Dat H v d) (b : Dat H w f) (hs : HS H s) (q : rEqD k' d f s Q') (k : ∀ v d H' s', Kp H H' → Dat H' v d → HS H' s' → Q' d s' → Q v H') : r1 v w H Q ∨ r2 v w H Q := by
  have gen : d.fine = true ∧ f.fine = true ∧ Q' (.bl (k' (d.eqv f))) s → r1 v w H Q ∨ r2 v w H Q := fun ⟨x, y, z⟩ =>
    .inr (h2 v w _ _ (dp_of a (fine_ok x)) (dp_of b (fine_ok y)) (fine_shaped x) (fine_shaped y) (by rw [eqv_pd d f (fine_ok x) (fine_ok y)]; exact k _ _ _ _ (Kp.refl H) (.bl _) hs z))
  have fin : ∀ c, Q' (.bl c) s → Q (.bl c) H := fun c q => k _ _ _ _ (Kp.refl H) (.bl _) hs q
  cases d with
  | int i => cases f with
    | int j => cases datI a; cases datI b; exact .inl (h1 _ _ rfl (by rw [dec_int, Bool.beq_eq_decide_eq]; exact fin _ q))
    | str j => cases datI a; cases datS b; exact .inl (h1 _ _ rfl (by simpa using fin _ q))
    | _ => exact gen q
  | str i => cases f with
    | str j => cases datS a; cases datS b; exact .inl (h1 _ _ rfl (by rw [dec_str, Bool.beq_eq_decide_eq]; exact fin _ q))
    | int j => cases datS a; cases datI b; exact .inl (h1 _ _ rfl (by simpa using fin _ q))
    | non => cases datS a; cases datN b; exact .inl (h1 _ _ rfl (by simpa using fin _ q))
    | bl j => cases datS a; cases datB b; exact .inl (h1 _ _ rfl (by simpa using fin _ q))
    | _ => exact gen q
  | non => cases f with
    | str j => cases datN a; cases datS b; exact .inl (h1 _ _ rfl (by simpa using fin _ q))
    | _ => exact gen q
  | bl i => cases f with
    | str j => cases datB a; cases datS b; exact .inl (h1 _ _ rfl (by simpa using fin _ q))
    | _ => exact gen q
  | _ => exact gen q
theorem lift_eq (K : PySem.W.Frag) : Lift2 (fun x y H Q => L2.rEq x y H Q ∨ L2.rEqD K x y H Q) (rEqD id) := fun v w d f H s Q Q' r1 r2 hs q k =>
  lift_eqg (k' := id) (fun x y h q => ⟨h, q⟩) (fun x y d e a b c f q => ⟨d, e, a, b, c, f, q⟩) r1 r2 hs q k
theorem lift_ne (K : PySem.W.Frag) : Lift2 (fun x y H Q => L2.rNe x y H Q ∨ L2.rNeD K x y H Q) (rEqD not) := fun v w d f H s Q Q' r1 r2 hs q k =>
  lift_eqg (k' := not) (fun x y h q => ⟨h, q⟩) (fun x y d e a b c f q => ⟨d, e, a, b, c, f, q⟩) r1 r2 hs q k
/-- comparisons: a rule for each sign -/
structure CmpD (X : Cx) (op : CmpOp) (ρ : RD2) : Prop where
  ex : ∃ r : R2, OpR X (compareOp op) r ∧ Lift2 r ρ
theorem cm_eq (hu : X.A.units + 64 < cLine) : CmpD X .Eq (rEqD id) := ⟨_, OpR.or op_eq (op_eqD hu), lift_eq X.K⟩
theorem cm_ne (hu : X.A.units + 64 < cLine) : CmpD X .NotEq (rEqD not) := ⟨_, OpR.or op_ne (op_neD hu), lift_ne X.K⟩
def rCmp (pi : Int → Int → Bool) (ps : Str → Str → Bool) : RD2
  | .int i, .int j, s, Q => Q (.bl (pi i j)) s
  | .str i, .str j, s, Q => Q (.bl (ps i j)) s
  | _, _, _, _ => False
theorem lift_cmp {pi : Int → Int → Bool} {ps : Str → Str → Bool} : Lift2 (fun x y H Q => rI0 (fun i j => .bl (pi i j)) x y H Q ∨ ∃ i j, x = .str i ∧ y = .str j ∧ Q (.bl (ps i j)) H) (rCmp pi ps) := fun v w d f H s Q Q' r1 r2 hs q k => by
  cases d with
  | int i => cases f with
    | int j => cases datI r1; cases datI r2; exact .inl ⟨i, j, rfl, rfl, k _ _ _ _ (Kp.refl H) (.bl _) hs q⟩
    | _ => exact q.elim
  | str i => cases f with
    | str j => cases datS r1; cases datS r2; exact .inr ⟨i, j, rfl, rfl, k _ _ _ _ (Kp.refl H) (.bl _) hs q⟩
    | _ => exact q.elim
  | _ => exact q.elim
def rLt : RD2 := rCmp (fun i j => decide (i < j)) fun i j => decide (i.cps.toList < j.cps.toList)
def rGt : RD2 := rCmp (fun i j => decide (j < i)) fun i j => decide (j.cps.toList < i.cps.toList)
def rLe : RD2 := rCmp (fun i j => decide (i ≤ j)) fun i j => !decide (j.cps.toList < i.cps.toList)
def rGe : RD2 := rCmp (fun i j => decide (j ≤ i)) fun i j => !decide (i.cps.toList < j.cps.toList)
theorem cm_lt : CmpD X .Lt rLt := ⟨_, OpR.or op_lt op_lt_str, lift_cmp⟩
theorem cm_gt : CmpD X .Gt rGt := ⟨_, OpR.or op_gt op_gt_str, lift_cmp⟩
theorem cm_le : CmpD X .LtE rLe := ⟨_, OpR.or op_le op_le_str, lift_cmp⟩
theorem cm_ge : CmpD X .GtE rGe := ⟨_, OpR.or op_ge op_ge_str, lift_cmp⟩
/-- is None, is True -/
def rIs (k : Bool → Bool) : RD2
  | .non, .non, s, Q => Q (.bl (k true)) s
  | .bl a, .bl b, s, Q => Q (.bl (k (decide (a = b)))) s
  | .int _, .non, s, Q => Q (.bl (k false)) s
  | .str _, .non, s, Q => Q (.bl (k false)) s
  | .bl _, .non, s, Q => Q (.bl (k false)) s
  | .ref _, .non, s, Q => Q (.bl (k false)) s
  | .tup _, .non, s, Q => Q (.bl (k false)) s
  | _, _, _, _ => False
theorem lift_isg {k' : Bool → Bool} : Lift2 (fun x y H Q => (y = .non ∧ Q (.bl (k' (decide (x = .non)))) H) ∨ ∃ a b, x = .bl a ∧ y = .bl b ∧ Q (.bl (k' (decide (a = b)))) H) (rIs k') := fun v w d f H s Q Q' r1 r2 hs q k => by
  have fin : ∀ c, Q' (.bl c) s → Q (.bl c) H := fun c q => k _ _ _ _ (Kp.refl H) (.bl _) hs q
  cases f with
  | non =>
    cases datN r2
    cases d with
    | non => cases datN r1; exact .inl ⟨rfl, fin _ q⟩
    | bl b => cases datB r1; exact .inl ⟨rfl, by simpa using fin _ q⟩
    | int b => cases datI r1; exact .inl ⟨rfl, by simpa using fin _ q⟩
    | str b => cases datS r1; exact .inl ⟨rfl, by simpa using fin _ q⟩
    | ref b => cases datR r1; exact .inl ⟨rfl, by simpa using fin _ q⟩
    | tup ds => obtain ⟨p, vs, rfl, _⟩ := datT r1; exact .inl ⟨rfl, by simpa using fin _ q⟩
  | bl b => cases d with
    | bl a => cases datB r1; cases datB r2; exact .inr ⟨a, b, rfl, rfl, fin _ q⟩
    | _ => exact q.elim
  | _ => cases d <;> exact q.elim
theorem cm_is : CmpD X .Is (rIs id) := ⟨_, OpR.or op_isN op_is_bl, lift_isg⟩
theorem cm_isnot : CmpD X .IsNot (rIs not) := ⟨_, OpR.or op_notN op_isnot_bl, lift_isg⟩
theorem de_cmp {op : CmpOp} {ρ : RD2} (h : CmpD X op ρ) (ha : DE X a ta) (hb : DE X b tb) (hm : behindInMarks op b = false := by first | exact nomark _ | rfl) : DE X (.Compare a [op] [b] pos) (dOp ρ ta tb) := by
  obtain ⟨r, ho, l⟩ := h.ex
  exact PE.weaken (pe_cmpR ho ha hb hm) (lift_op l)
/-- a value that is a bool, as a test -/
def dTest (t : TD) : TDT := fun σ s Q => t σ s fun x s' => ∃ k, x = .bl k ∧ Q k s'
theorem lift_test {t : TD} {tV : TE} (l : ∀ σV H Q, upE t σV H Q → tV σV H Q) : ∀ σV H Q, upT (dTest t) σV H Q → tTest tV σV H Q := fun σV H Q h => by
  obtain ⟨σ, s, Q', E, hs, q, k⟩ := h
  refine l σV H _ ⟨σ, s, _, E, hs, q, fun v d H1 s1 k1 r1 hs1 q1 => ?_⟩
  obtain ⟨c, rfl, q1⟩ := q1
  cases datB r1
  exact ⟨c, rfl, k _ _ _ k1 hs1 q1⟩
theorem dt_cmp {op : CmpOp} {ρ : RD2} (h : CmpD X op ρ) (ha : DE X a ta) (hb : DE X b tb) (hm : behindInMarks op b = false := by first | exact nomark _ | rfl) : DT X (.Compare a [op] [b] pos) (dTest (dOp ρ ta tb)) := by
  obtain ⟨r, ho, l⟩ := h.ex
  exact PT.weaken (pt_cmpR ho ha hb hm) (lift_test (lift_op l))
def dChain (ρ ρ' : RD2) (ta tb tc : TD) : TD := fun σ s Q => ta σ s fun x s1 => tb σ s1 fun y s2 => ρ x y s2 fun z s3 => ∃ k, z = .bl k ∧ (if k = true then tc σ s3 fun w s4 => ρ' y w s4 Q else Q (.bl false) s3)
theorem lift_chain {r r' : R2} {ρ ρ' : RD2} (l : Lift2 r ρ) (l' : Lift2 r' ρ') : ∀ σV H Q, upE (dChain ρ ρ' ta tb tc) σV H Q → tChain r r' (upE ta) (upE tb) (upE tc) σV H Q := fun σV H Q h => by
  obtain ⟨σ, s, Q', E, hs, q, k⟩ := h
  refine ⟨σ, s, _, E, hs, q, fun v d H1 s1 k1 r1 hs1 q1 => ?_⟩
  refine ⟨σ, s1, _, E.mono k1, hs1, q1, fun w f H2 s2 k2 r2 hs2 q2 => ?_⟩
  refine l v w d f H2 s2 _ _ (r1.mono k2) r2 hs2 q2 fun z g H3 s3 k3 rz hs3 q3 => ?_
  obtain ⟨c, rfl, q3⟩ := q3
  cases datB rz
  refine ⟨c, rfl, ?_⟩
  cases c with
  | false => exact k _ _ _ _ ((k1.trans k2).trans k3) (.bl _) hs3 q3
  | true =>
    refine ⟨σ, s3, _, E.mono ((k1.trans k2).trans k3), hs3, q3, fun w' f' H4 s4 k4 r4 hs4 q4 => ?_⟩
    exact l' w w' f f' H4 s4 Q Q' (r2.mono (k3.trans k4)) r4 hs4 q4 fun z' g' H5 s5 k5 => k z' g' H5 s5 ((((k1.trans k2).trans k3).trans k4).trans k5)
theorem de_chain {op op' : CmpOp} {ρ ρ' : RD2} (h : CmpD X op ρ) (h' : CmpD X op' ρ') (ha : DE X a ta) (hb : DE X b tb) (hc : DE X c tc) (hm : lastMarks [op, op'] [b, c] = false := by rfl) : DE X (.Compare a [op, op'] [b, c] pos) (dChain ρ ρ' ta tb tc) := by
  obtain ⟨r, ho, l⟩ := h.ex
  obtain ⟨r', ho', l'⟩ := h'.ex
  exact PE.weaken (pe_chain ho ho' ha hb hc hm) (lift_chain l l')
theorem dt_chain {op op' : CmpOp} {ρ ρ' : RD2} (h : CmpD X op ρ) (h' : CmpD X op' ρ') (ha : DE X a ta) (hb : DE X b tb) (hc : DE X c tc) (hm : lastMarks [op, op'] [b, c] = false := by rfl) : DT X (.Compare a [op, op'] [b, c] pos) (dTest (dChain ρ ρ' ta tb tc)) := by
  obtain ⟨r, ho, l⟩ := h.ex
  obtain ⟨r', ho', l'⟩ := h'.ex
  exact PT.weaken (pt_chain ho ho' ha hb hc hm) (lift_test (lift_chain l l'))

/-! ### truth, and, or, not -/
def rTru : D → S → (Bool → S → Prop) → Prop
  | .non, s, Q => Q false s
  | .bl b, s, Q => Q b s
  | .int i, s, Q => Q (i != 0) s
  | .str x, s, Q => x.length ≤ sizeLine ∧ Q ((x.length : Int) != 0) s
  | .tup ds, s, Q => Q (!ds.isEmpty) s
  | .ref a, s, Q => ∃ ds, s a = some (.lst ds) ∧ Q (!ds.isEmpty) s
theorem Dats.isEmpty {H : Hp} {vs : List V} {ds : List D} (r : Dats H vs ds) : vs.isEmpty = ds.isEmpty := by cases r <;> rfl
theorem lift_tru {K : PySem.W.Frag} {H : Hp} {v : V} {d : D} {s : S} {Q' : Bool → S → Prop} (r : Dat H v d) (hs : HS H s) (q : rTru d s Q') : ∃ k, TruV K v H k ∧ Q' k s := by
  cases d with
  | non => cases datN r; exact ⟨false, rfl, q⟩
  | bl b => cases datB r; exact ⟨b, rfl, q⟩
  | int b => cases datI r; exact ⟨_, rfl, q⟩
  | str b => cases datS r; exact ⟨_, ⟨q.1, rfl⟩, q.2⟩
  | tup ds =>
    obtain ⟨p, vs, rfl, e, t⟩ := datT r
    exact ⟨_, .inr (.inl ⟨vs, SqT.of e, by rw [t.isEmpty]⟩), q⟩
  | ref a =>
    cases datR r
    obtain ⟨ds, e, q⟩ := q
    obtain ⟨vs, e1, t⟩ := hs _ _ e
    exact ⟨_, .inl ⟨vs, SqL.of e1, by rw [t.isEmpty]⟩, q⟩
def dTru (t : TD) : TDT := fun σ s Q => t σ s fun x s' => rTru x s' Q
theorem dt_truth (ha : DE X a ta) (he : ∀ whole, isTrue a X.env whole = (do let v ← whole; standAt a.pos; holding [v] (truthy v)) := by intro _; rfl) : DT X a (dTru ta) :=
  PT.weaken (pt_truth ha he) fun σV H Q h => by
    obtain ⟨σ, s, Q', E, hs, q, k⟩ := h
    refine ⟨σ, s, _, E, hs, q, fun v d H1 s1 k1 r1 hs1 q1 => ?_⟩
    obtain ⟨c, h1, h2⟩ := lift_tru (K := X.K) r1 hs1 q1
    exact ⟨c, h1, k _ _ _ k1 hs1 h2⟩
variable {tA tB tC' : TDT} {rest : List Expr}
def dAnd (t u : TDT) : TDT := fun σ s Q => t σ s fun c s1 => if c = true then u σ s1 Q else Q false s1
def dOr (t u : TDT) : TDT := fun σ s Q => t σ s fun c s1 => if c = true then Q true s1 else u σ s1 Q
def dNot (t : TDT) : TDT := fun σ s Q => t σ s fun c s1 => Q (!c) s1
theorem dw_and1 (ha : DT X a tA) : DW X (.BoolOp .And [a] pos) tA := pw_and1 ha
theorem dw_or1 (ha : DT X a tA) : DW X (.BoolOp .Or [a] pos) tA := pw_or1 ha
theorem dw_and (ha : DT X a tA) (hb : DW X (.BoolOp .And (b :: rest) pos) tB) : DW X (.BoolOp .And (a :: b :: rest) pos) (dAnd tA tB) :=
  PW.weaken (pw_and ha hb) fun σV H Q h => by
    obtain ⟨σ, s, Q', E, hs, q, k⟩ := h
    refine ⟨σ, s, _, E, hs, q, fun c H1 s1 k1 hs1 q1 => ?_⟩
    cases c with
    | true => exact ⟨σ, s1, Q', E.mono k1, hs1, q1, fun c H2 s2 k2 => k c H2 s2 (k1.trans k2)⟩
    | false => exact k _ _ _ k1 hs1 q1
theorem dw_or (ha : DT X a tA) (hb : DW X (.BoolOp .Or (b :: rest) pos) tB) : DW X (.BoolOp .Or (a :: b :: rest) pos) (dOr tA tB) :=
  PW.weaken (pw_or ha hb) fun σV H Q h => by
    obtain ⟨σ, s, Q', E, hs, q, k⟩ := h
    refine ⟨σ, s, _, E, hs, q, fun c H1 s1 k1 hs1 q1 => ?_⟩
    cases c with
    | false => exact ⟨σ, s1, Q', E.mono k1, hs1, q1, fun c H2 s2 k2 => k c H2 s2 (k1.trans k2)⟩
    | true => exact k _ _ _ k1 hs1 q1
theorem dt_w (h : DW X a tA) : DT X a tA := PW.pt h
theorem dt_not (ha : DT X a tA) : DT X (.UnaryOp .Not a pos) (dNot tA) :=
  PT.weaken (pt_not ha) fun σV H Q h => by
    obtain ⟨σ, s, Q', E, hs, q, k⟩ := h
    exact ⟨σ, s, _, E, hs, q, fun c H1 s1 k1 hs1 q1 => k _ _ _ k1 hs1 q1⟩
/-- .. as values -/
def dAndV (ta tb : TD) : TD := fun σ s Q => ta σ s fun x s1 => rTru x s1 fun k s2 => if k = true then tb σ s2 Q else Q x s2
def dOrV (ta tb : TD) : TD := fun σ s Q => ta σ s fun x s1 => rTru x s1 fun k s2 => if k = true then Q x s2 else tb σ s2 Q
def dNotV (ta : TD) : TD := fun σ s Q => ta σ s fun x s1 => rTru x s1 fun k s2 => Q (.bl (!k)) s2
theorem tru_store {K : PySem.W.Frag} {H : Hp} {v : V} {d : D} {s : S} {Q' : Bool → S → Prop} (r : Dat H v d) (hs : HS H s) (q : rTru d s Q') : ∃ k, TruV K v H k ∧ Q' k s := lift_tru r hs q
theorem de_one {op} {t : TD} (h : DE X a t) : DE X (.BoolOp op [a] pos) t := pe_one h
theorem de_and (ha : DE X a ta) (hb : DE X (.BoolOp .And (b :: rest) pos) tb) : DE X (.BoolOp .And (a :: b :: rest) pos) (dAndV ta tb) :=
  PE.weaken (pe_andT ha hb) fun σV H Q h => by
    obtain ⟨σ, s, Q', E, hs, q, k⟩ := h
    refine ⟨σ, s, _, E, hs, q, fun v d H1 s1 k1 r1 hs1 q1 => ?_⟩
    obtain ⟨c, h1, h2⟩ := lift_tru (K := X.K) r1 hs1 q1
    refine ⟨c, h1, ?_⟩
    cases c with
    | true => exact ⟨σ, s1, Q', E.mono k1, hs1, h2, fun v d H2 s2 k2 => k v d H2 s2 (k1.trans k2)⟩
    | false => exact k _ _ _ _ k1 r1 hs1 h2
theorem de_or (ha : DE X a ta) (hb : DE X (.BoolOp .Or (b :: rest) pos) tb) : DE X (.BoolOp .Or (a :: b :: rest) pos) (dOrV ta tb) :=
  PE.weaken (pe_orT ha hb) fun σV H Q h => by
    obtain ⟨σ, s, Q', E, hs, q, k⟩ := h
    refine ⟨σ, s, _, E, hs, q, fun v d H1 s1 k1 r1 hs1 q1 => ?_⟩
    obtain ⟨c, h1, h2⟩ := lift_tru (K := X.K) r1 hs1 q1
    refine ⟨c, h1, ?_⟩
    cases c with
    | false => exact ⟨σ, s1, Q', E.mono k1, hs1, h2, fun v d H2 s2 k2 => k v d H2 s2 (k1.trans k2)⟩
    | true => exact k _ _ _ _ k1 r1 hs1 h2
theorem de_not (ha : DE X a ta) : DE X (.UnaryOp .Not a pos) (dNotV ta) :=
  PE.weaken (pe_notT ha) fun σV H Q h => by
    obtain ⟨σ, s, Q', E, hs, q, k⟩ := h
    refine ⟨σ, s, _, E, hs, q, fun v d H1 s1 k1 r1 hs1 q1 => ?_⟩
    obtain ⟨c, h1, h2⟩ := lift_tru (K := X.K) r1 hs1 q1
    exact ⟨c, h1, k _ _ _ _ k1 (.bl _) hs1 h2⟩
def dIf (t : TDT) (ta tb : TD) : TD := fun σ s Q => t σ s fun c s1 => if c = true then ta σ s1 Q else tb σ s1 Q
theorem de_if (hc : DT X c tA) (ha : DE X a ta) (hb : DE X b tb) : DE X (.IfExp c a b pos) (dIf tA ta tb) :=
  PE.weaken (pe_ifExp hc ha hb) fun σV H Q h => by
    obtain ⟨σ, s, Q', E, hs, q, k⟩ := h
    refine ⟨σ, s, _, E, hs, q, fun c H1 s1 k1 hs1 q1 => ?_⟩
    cases c with
    | true => exact ⟨σ, s1, Q', E.mono k1, hs1, q1, fun v d H2 s2 k2 => k v d H2 s2 (k1.trans k2)⟩
    | false => exact ⟨σ, s1, Q', E.mono k1, hs1, q1, fun v d H2 s2 k2 => k v d H2 s2 (k1.trans k2)⟩
end DL

set_option maxHeartbeats 4000000
namespace DL
open PySem PySem.Spec L2
variable {X : Cx} {a b c e : Expr} {es : List Expr} {ta tb tc te : TD} {t : TDA} {pos : Pos}

/-! ### subscripts -/
def rIxD : RD2
  | .tup ds, .int i, s, Q => ∃ d, atI ds i = some d ∧ Q d s
  | .ref p, .int i, s, Q => ∃ ds d, s p = some (.lst ds) ∧ atI ds i = some d ∧ Q d s
  | .str z, .int i, s, Q => z.length ≤ sizeLine ∧ ∃ c, atI z.cps.toList i = some c ∧ Q (.str ⟨#[c]⟩) s
  | _, _, _, _ => False
theorem Dats.atI {H : Hp} {vs : List V} {ds : List D} {i : Int} {d : D} (r : Dats H vs ds) (h : L2.atI ds i = some d) : ∃ v, L2.atI vs i = some v ∧ Dat H v d := by
  unfold L2.atI at h ⊢
  rw [r.length]
  cases q : ixN ds.length i with
  | none => rw [q] at h; cases h
  | some j => rw [q] at h; exact r.get h
theorem lift_ix (K : PySem.W.Frag) : Lift2 (L2.rIx K) rIxD := fun v w d f H s Q Q' r1 r2 hs q k => by
  cases d with
  | tup ds => cases f with
    | int i =>
      obtain ⟨p, vs, rfl, e, t⟩ := datT r1
      cases datI r2
      obtain ⟨d, h1, q⟩ := q
      obtain ⟨v, h2, h3⟩ := t.atI h1
      exact .inr (.inl ⟨p, vs, i, v, rfl, rfl, SqT.of e, h2, k _ _ _ _ (Kp.refl H) h3 hs q⟩)
    | _ => exact q.elim
  | ref p => cases f with
    | int i =>
      cases datR r1; cases datI r2
      obtain ⟨ds, d, e, h1, q⟩ := q
      obtain ⟨vs, e1, t⟩ := hs _ _ e
      obtain ⟨v, h2, h3⟩ := t.atI h1
      exact .inl ⟨p, vs, i, v, rfl, rfl, SqL.of e1, h2, k _ _ _ _ (Kp.refl H) h3 hs q⟩
    | _ => exact q.elim
  | str z => cases f with
    | int i =>
      cases datS r1; cases datI r2
      obtain ⟨hl, c, h1, q⟩ := q
      exact .inr (.inr ⟨z, i, c, rfl, rfl, hl, h1, k _ _ _ _ (Kp.refl H) (.str _) hs q⟩)
    | _ => exact q.elim
  | _ => exact q.elim
theorem de_ix (ha : DE X a ta) (hb : DE X b tb) (hs : PlainIx b := by exact fun _ _ => rfl) : DE X (.Subscript a b pos) (dOp rIxD ta tb) :=
  PE.weaken (pe_ix ix_seq ha hb hs) (lift_op (lift_ix X.K))
/-- slices -/
abbrev TDO := DS → S → (Option Int → S → Prop) → Prop
def upO (t : TDO) : TO := fun σV H Q => ∃ (σ : DS) (s : S) (Q' : Option Int → S → Prop), EnvD H σV σ ∧ HS H s ∧ t σ s Q' ∧ ∀ o H' s', Kp H H' → HS H' s' → Q' o s' → Q o H'
abbrev DO (X : Cx) (e : Option Expr) (t : TDO) : Prop := PO X e (upO t)
theorem PO.weaken {X : Cx} {e : Option Expr} {t t' : TO} (h : PO X e t) (w : ∀ σ H Q, t' σ H Q → t σ H Q) : PO X e t' := ⟨fun pins s σ H Q I q => h.run pins s σ H Q I (w _ _ _ q)⟩
def dNoPart : TDO := fun _ s Q => Q none s
def dPart (t : TD) : TDO := fun σ s Q => t σ s fun x s1 => match x with
  | .int i => Q (some i) s1
  | _ => False
theorem do_none : DO X none dNoPart := PO.weaken po_none fun σV H Q h => by
  obtain ⟨σ, s, Q', E, hs, q, k⟩ := h
  exact k _ _ _ (Kp.refl H) hs q
theorem do_some (h : DE X e te) : DO X (some e) (dPart te) := PO.weaken (po_some h) fun σV H Q h => by
  obtain ⟨σ, s, Q', E, hs, q, k⟩ := h
  refine ⟨σ, s, _, E, hs, q, fun v d H1 s1 k1 r1 hs1 q1 => ?_⟩
  cases d with
  | int i => cases datI r1; exact ⟨i, rfl, k _ _ _ k1 hs1 q1⟩
  | _ => exact q1.elim
def cutD (xs : List D) (lo hi : Option Int) : List D := (xs.drop (HT.sIx xs.length 0 lo)).take (HT.sIx xs.length xs.length hi - HT.sIx xs.length 0 lo)
theorem Dats.cut {H : Hp} {vs : List V} {ds : List D} (r : Dats H vs ds) (lo hi : Option Int) : Dats H (cutV vs lo hi) (cutD ds lo hi) := by
  unfold cutV cutD
  rw [r.length]
  exact (r.drop _).take _
def rSlD (K : PySem.W.Frag) : D → Option Int → Option Int → S → QD → Prop
  | .tup ds, lo, hi, s, Q => Q (.tup (cutD ds lo hi)) s
  | .str z, lo, hi, s, Q => z.length ≤ sizeLine ∧ Q (.str (cutS z lo hi)) s
  | .ref l, lo, hi, s, Q => ∃ ds, (s l = some (.lst ds) ∨ s l = some (.ro ds) ∨ KRo K l ds) ∧ ∀ p, s p = none → Q (.ref p) (s.set p (.lst (cutD ds lo hi)))
  | _, _, _, _, _ => False
def dSl (r : D → Option Int → Option Int → S → QD → Prop) (ta : TD) (tl th : TDO) : TD := fun σ s Q => ta σ s fun x s1 => tl σ s1 fun lo s2 => th σ s2 fun hi s3 => r x lo hi s3 Q
theorem cut_all {ds : List D} {lo hi : Option Int} (h : HT.sIx ds.length 0 lo = 0 ∧ HT.sIx ds.length ds.length hi = ds.length) : cutD ds lo hi = ds := by
  unfold cutD; rw [h.1, h.2]; simp
theorem de_slice {lo hi : Option Expr} {tl th : TDO} {p2 : Pos} (ha : DE X a ta) (hl : DO X lo tl) (hh : DO X hi th) : DE X (.Subscript a (.Slice lo hi none p2) pos) (dSl (rSlD X.K) ta tl th) :=
  PE.weaken (pe_slice (SlR.or sl_tupA (SlR.or sl_str sl_list)) ha hl hh) fun σV H Q h => by
    obtain ⟨σ, s, Q', E, hs, q, k⟩ := h
    refine ⟨σ, s, _, E, hs, q, fun v d H1 s1 k1 r1 hs1 q1 => ?_⟩
    refine ⟨σ, s1, _, E.mono k1, hs1, q1, fun o H2 s2 k2 hs2 q2 => ?_⟩
    refine ⟨σ, s2, _, E.mono (k1.trans k2), hs2, q2, fun u H3 s3 k3 hs3 q3 => ?_⟩
    have r3 := r1.mono (k2.trans k3)
    have kk := (k1.trans k2).trans k3
    cases d with
    | tup ds =>
      obtain ⟨p, vs, rfl, e, t⟩ := datT r3
      refine .inl ⟨p, vs, rfl, SqT.of e, fun z => ?_, fun _ p' hp => ?_⟩
      · rw [t.length] at z
        exact k _ _ _ _ kk r3 hs3 (by have q4 : Q' (.tup (cutD ds o u)) s3 := q3; rw [cut_all z] at q4; exact q4)
      · have kp : Kp H3 (upd H3 p' (.tup (cutV vs o u))) := Kp.alloc hp
        exact k _ _ _ _ (kk.trans kp) (.tup upd_same ((t.cut o u).mono kp)) (hs3.alloc hp) q3
    | str z => cases datS r3; exact .inr (.inl ⟨z, rfl, q3.1, k _ _ _ _ kk (.str _) hs3 q3.2⟩)
    | ref l =>
      cases datR r3
      obtain ⟨ds, e, q3⟩ := q3
      have go : ∀ vs, SqL X.K H3 l vs → Dats H3 vs ds → rSlL X.K (.ref l) o u H3 Q := fun vs e1 t => by
        refine ⟨l, vs, rfl, e1, fun p hp => ?_⟩
        exact k _ _ _ _ (kk.trans (Kp.alloc hp)) (.ref p) (hs3.laidL hp (t.cut o u)) (q3 p (hs3.none hp))
      refine Or.inr (Or.inr ?_)
      rcases e with e | e | e
      · obtain ⟨vs, e1, t⟩ := hs3 _ _ e; exact go vs (SqL.of e1) t
      · obtain ⟨vs, ob, e1, t⟩ := hs3 _ _ e; exact go vs (.inl (.inr ⟨ob, e1⟩)) t
      · obtain ⟨vs, e1, t⟩ := e H3; exact go vs e1 t
    | _ => exact q3.elim

/-! ### dicts with keys that are ints and texts -/
def D.key : D → Option Key
  | .int i => some (.inl i)
  | .str x => some (.inr x)
  | _ => none
def valD (kvs : List (Key × D)) (k : Key) : Option D := (kvs.find? fun kv => decide (kv.1 = k)).map (·.2)
def putD (kvs : List (Key × D)) (k : Key) (v : D) : List (Key × D) :=
  if (kvs.any fun kv => decide (kv.1 = k)) = true then kvs.map (fun kv => if kv.1 = k then (kv.1, v) else kv) else kvs ++ [(k, v)]
theorem key_dat {H : Hp} {v : V} {d : D} {k : Key} (r : Dat H v d) (h : d.key = some k) : v = kV k := by
  cases r with
  | int i => cases h; rfl
  | str i => cases h; rfl
  | _ => cases h
theorem KD.val {H : Hp} {k : Key} : ∀ {ws : List (Key × V)} {kvs : List (Key × D)}, KD H ws kvs → (∀ d, valD kvs k = some d → ∃ v, valV ws k = some v ∧ Dat H v d) ∧ (valD kvs k = none → valV ws k = none)
  | _, _, .nil => ⟨(fun _ h => by cases h), fun _ => rfl⟩
  | (k1, v1) :: ws, (k2, d2) :: kvs, .cons r t => by
    obtain ⟨ek, r⟩ := r
    have ek : k1 = k2 := ek
    subst ek
    have ih := KD.val (k := k) t
    by_cases h : k1 = k
    · rw [valV_pos h]
      have : valD ((k1, d2) :: kvs) k = some d2 := by simp [valD, List.find?_cons, h]
      rw [this]
      exact ⟨fun d e => by cases e; exact ⟨v1, rfl, r⟩, fun e => nomatch e⟩
    · rw [valV_neg h]
      have : valD ((k1, d2) :: kvs) k = valD kvs k := by simp [valD, List.find?_cons, h]
      rw [this]; exact ih
theorem KD.length {H : Hp} : ∀ {ws : List (Key × V)} {kvs : List (Key × D)}, KD H ws kvs → ws.length = kvs.length
  | _, _, .nil => rfl
  | _, _, .cons _ t => congrArg Nat.succ (KD.length t)
theorem KD.any {H : Hp} {k : Key} : ∀ {ws : List (Key × V)} {kvs : List (Key × D)}, KD H ws kvs → (ws.any fun kv => decide (kv.1 = k)) = kvs.any fun kv => decide (kv.1 = k)
  | _, _, .nil => rfl
  | _, _, .cons r t => by simp only [List.any_cons, KD.any t, r.1]
theorem KD.mapPut {H : Hp} {k : Key} {v : V} {d : D} (r : Dat H v d) : ∀ {ws : List (Key × V)} {kvs : List (Key × D)}, KD H ws kvs → KD H (ws.map fun kv => if kv.1 = k then (kv.1, v) else kv) (kvs.map fun kv => if kv.1 = k then (kv.1, d) else kv)
  | _, _, .nil => .nil
  | (k1, v1) :: _, (k2, d2) :: _, .cons q t => by
    obtain ⟨e, q⟩ := q
    have e : k1 = k2 := e
    subst e
    simp only [List.map_cons]
    by_cases h : k1 = k
    · rw [if_pos h, if_pos h]; exact .cons ⟨rfl, r⟩ (KD.mapPut r t)
    · rw [if_neg h, if_neg h]; exact .cons ⟨rfl, q⟩ (KD.mapPut r t)
theorem KD.snoc {H : Hp} {k : Key} {v : V} {d : D} (r : Dat H v d) : ∀ {ws : List (Key × V)} {kvs : List (Key × D)}, KD H ws kvs → KD H (ws ++ [(k, v)]) (kvs ++ [(k, d)])
  | _, _, .nil => .cons ⟨rfl, r⟩ .nil
  | _, _, .cons q t => .cons q (KD.snoc r t)
theorem KD.put {H : Hp} {k : Key} {v : V} {d : D} {ws : List (Key × V)} {kvs : List (Key × D)} (t : KD H ws kvs) (r : Dat H v d) : KD H (putK ws k v) (putD kvs k d) := by
  unfold putK putD
  rw [KD.any t]
  split
  · exact KD.mapPut r t
  · exact KD.snoc r t
def dDGet (td ty : TD) : TD := fun σ s Q => td σ s fun x s1 => ty σ s1 fun y s2 => ∃ a kvs k d, x = .ref a ∧ s2 a = some (.dic kvs) ∧ y.key = some k ∧ valD kvs k = some d ∧ Q d s2
theorem de_dget (hu : X.A.units + 1 < cLine) (ha : DE X a ta) (hb : DE X b tb) (hs : NoSl b := by exact fun _ _ => rfl) : DE X (.Subscript a b pos) (dDGet ta tb) :=
  PE.weaken (pe_dget hu ha hb hs) fun σV H Q h => by
    obtain ⟨σ, s, Q', E, hs, q, k⟩ := h
    refine ⟨σ, s, _, E, hs, q, fun v d H1 s1 k1 r1 hs1 q1 => ?_⟩
    refine ⟨σ, s1, _, E.mono k1, hs1, q1, fun w f H2 s2 k2 r2 hs2 q2 => ?_⟩
    obtain ⟨p, kvs, key, g, rfl, e, hk, hv, q2⟩ := q2
    cases datR r1
    obtain ⟨ws, e1, t⟩ := hs2 _ _ e
    obtain ⟨u, h1, h2⟩ := (KD.val t).1 g hv
    refine ⟨p, u, rfl, ?_, k _ _ _ _ (k1.trans k2) h2 hs2 q2⟩
    rw [key_dat r2 hk, ← h1]
    exact DGet.k e1
def dDPut (td ty tv : TD) : TDS := fun D σ s => tv σ s fun z s1 => td σ s1 fun x s2 => ty σ s2 fun y s3 => ∃ a kvs k, x = .ref a ∧ s3 a = some (.dic kvs) ∧ y.key = some k ∧ kvs.length < sizeLine ∧ D.nx σ (s3.set a (.dic (putD kvs k z)))
theorem ds_dput {pos' : Pos} (hu : X.A.units + 1 < cLine) (ha : DE X a ta) (hb : DE X b tb) (hv : DE X c tc) (hs : swapsWith c (some (.Subscript a b pos')) pos.line X.env = pure false := by rfl) : DSt X (.Assign [.Subscript a b pos'] c pos) (dDPut ta tb tc) :=
  PS.weaken (ps_dput hu ha hb hv hs) fun D σV H h => by
    obtain ⟨σ, s, D', E, hs, q, R⟩ := h
    refine ⟨σ, s, _, E, hs, q, fun v d H1 s1 k1 r1 hs1 q1 => ?_⟩
    refine ⟨σ, s1, _, E.mono k1, hs1, q1, fun w f H2 s2 k2 r2 hs2 q2 => ?_⟩
    refine ⟨σ, s2, _, E.mono (k1.trans k2), hs2, q2, fun u g H3 s3 k3 r3 hs3 q3 => ?_⟩
    obtain ⟨p, kvs, key, rfl, e, hk, hl, q3⟩ := q3
    cases datR r2
    obtain ⟨ws, e1, t⟩ := hs3 _ _ e
    have kp : Kp H3 (upd H3 p (.dK (putK ws key v))) := Kp.write e1 (fun z => z)
    have kk := ((k1.trans k2).trans k3).trans kp
    refine ⟨p, _, rfl, by rw [key_dat r3 hk]; exact DPut.k e1 (by rw [KD.length t]; exact hl), ?_⟩
    refine R.nx _ _ _ _ kk (E.mono kk) (hs3.write kp (fun b hb => upd_ne hb) ?_) q3
    exact ⟨_, upd_same, KD.mono kp (KD.put t (r1.mono (k2.trans k3)))⟩
/-- a list's item is written -/
def dLPut (td ty tv : TD) : TDS := fun D σ s => tv σ s fun z s1 => td σ s1 fun x s2 => ty σ s2 fun y s3 => ∃ a ds i j, x = .ref a ∧ s3 a = some (.lst ds) ∧ y = .int i ∧ ixN ds.length i = some j ∧ D.nx σ (s3.set a (.lst (ds.set j z)))
theorem HS.writeL {H : Hp} {s : S} {a : Addr} {us vs : List V} {ds : List D} (hs : HS H s) (e : H a = some (.lst us)) (r : Dats H vs ds) : HS (upd H a (.lst vs)) (s.set a (.lst ds)) ∧ Kp H (upd H a (.lst vs)) := by
  have kp : Kp H (upd H a (.lst vs)) := Kp.write e (fun z => z)
  exact ⟨hs.write kp (fun b hb => upd_ne hb) ⟨_, upd_same, r.mono kp⟩, kp⟩

/-! ### targets, assignments, blocks -/
abbrev TDG := D → DS → S → (DS → S → Prop) → Prop
abbrev TDGs := List D → DS → S → (DS → S → Prop) → Prop
/-- the slots but sl as they were -/
def Off (sl : List Nat) (σ σ' : L2.St) : Prop := σ'.length = σ.length ∧ ∀ i, i ∉ sl → σ'[i]? = σ[i]?
theorem Off.refl (sl : List Nat) (σ : L2.St) : Off sl σ σ := ⟨rfl, fun _ _ => rfl⟩
theorem Off.trans {sl sl' : List Nat} {σ σ1 σ2 : L2.St} (h : Off sl σ σ1) (h' : Off sl' σ1 σ2) : Off (sl ++ sl') σ σ2 :=
  ⟨h'.1.trans h.1, fun i hi => (h'.2 i fun z => hi (List.mem_append_right _ z)).trans (h.2 i fun z => hi (List.mem_append_left _ z))⟩
def upG (sl : List Nat) (g : TDG) : TG := fun v σV H Q => ∃ (d : D) (σ : DS) (s : S) (Q' : DS → S → Prop), Dat H v d ∧ EnvD H σV σ ∧ HS H s ∧ g d σ s Q' ∧ ∀ σV' σ' H' s', Kp H H' → Off sl σV σV' → EnvD H' σV' σ' → HS H' s' → Q' σ' s' → Q σV' H'
def upGs (sl : List Nat) (g : TDGs) : TGs := fun v σV H Q => ∃ (d : List D) (σ : DS) (s : S) (Q' : DS → S → Prop), Dats H v d ∧ EnvD H σV σ ∧ HS H s ∧ g d σ s Q' ∧ ∀ σV' σ' H' s', Kp H H' → Off sl σV σV' → EnvD H' σV' σ' → HS H' s' → Q' σ' s' → Q σV' H'
theorem PG.weaken {X : Cx} {e : Expr} {t t' : TG} (h : PG X e t) (w : ∀ v σ H Q, t' v σ H Q → t v σ H Q) : PG X e t' := ⟨fun pins s σ H v u Q I r q => h.run pins s σ H v u Q I r (w _ _ _ _ q)⟩
theorem PGs.weaken {X : Cx} {e : List Expr} {t t' : TGs} (h : PGs X e t) (w : ∀ v σ H Q, t' v σ H Q → t v σ H Q) : PGs X e t' := ⟨fun pins s σ H v u Q I r q => h.run pins s σ H v u Q I r (w _ _ _ _ q)⟩
abbrev DG (X : Cx) (e : Expr) (sl : List Nat) (g : TDG) : Prop := PG X e (upG sl g)
abbrev DGs (X : Cx) (es : List Expr) (sl : List Nat) (g : TDGs) : Prop := PGs X es (upGs sl g)
def dgName (i : Nat) : TDG := fun d σ s Q => Q (σ.set i (some d)) s
theorem dg_name (i : Nat) {x : Str} (hN : X.N.Nodup) (hi : X.N[i]? = some x := by rfl) (hx : Loc X.env.scope x := by first | exact Or.inl rfl | exact Or.inr rfl) (hf : X.fn x = true ∨ X.env.scope.names.lookup x = some .local := by first | exact .inl rfl | exact .inr rfl) : DG X (.Name x pos) [i] (dgName i) :=
  PG.weaken (pg_name (i := i) hN hi hx hf) fun v σV H Q h => by
    obtain ⟨d, σ, s, Q', r, E, hs, q, k⟩ := h
    exact k _ _ _ _ (Kp.refl H) ⟨List.length_set .., fun j hj => List.getElem?_set_ne (fun z => hj (by simp [z]))⟩ (E.set i r) hs q
def dgNil : TDGs := fun ds σ s Q => ds = [] ∧ Q σ s
def dgCons (g : TDG) (gs : TDGs) : TDGs := fun ds σ s Q => ∃ d r, ds = d :: r ∧ g d σ s fun σ' s' => gs r σ' s' Q
theorem dgs_nil : DGs X [] [] dgNil := PGs.weaken pgs_nil fun v σV H Q h => by
  obtain ⟨d, σ, s, Q', r, E, hs, ⟨rfl, q⟩, k⟩ := h
  cases r
  exact ⟨rfl, k _ _ _ _ (Kp.refl H) (Off.refl _ _) E hs q⟩
theorem dgs_cons {g : TDG} {gs : TDGs} {sl sl' : List Nat} (h1 : DG X e sl g) (h2 : DGs X es sl' gs) (hs : (assignEach (e :: es) X.env).map (·.2) = assign e X.env :: (assignEach es X.env).map (·.2) := by rfl) : DGs X (e :: es) (sl ++ sl') (dgCons g gs) :=
  PGs.weaken (pgs_cons h1 h2 hs) fun v σV H Q h => by
    obtain ⟨d, σ, s, Q', r, E, hs, ⟨d1, r1, rfl, q⟩, k⟩ := h
    cases r with
    | cons r rr =>
      refine ⟨_, _, rfl, _, σ, s, _, r, E, hs, q, fun σV' σ' H1 s' k1 o1 E1 hs1 q1 => ?_⟩
      exact ⟨_, σ', s', Q', rr.mono k1, E1, hs1, q1, fun a b c d k2 o2 => k a b c d (k1.trans k2) (o1.trans o2)⟩
def dgTup (n : Nat) (gs : TDGs) : TDG := fun d σ s Q => ∃ ds, d = .tup ds ∧ ds.length = n ∧ gs ds σ s Q
theorem dg_tup {gs : TDGs} {sl : List Nat} {n k : Nat} (hc : X.calm = true) (h : DGs X es sl gs) (hn : (assignEach es X.env).length = n := by rfl) (hst : (assignEach es X.env).findIdx? (·.1) = none := by rfl) : DG X (.Tuple es k pos) sl (dgTup n gs) :=
  PG.weaken (pg_tup hc h hn hst) fun v σV H Q h => by
    obtain ⟨d, σ, s, Q', r, E, hs, ⟨ds, rfl, hl, q⟩, k⟩ := h
    obtain ⟨p, vs, rfl, e, t⟩ := datT r
    exact ⟨p, vs, rfl, SqT.of e, by rw [t.length]; exact hl, ds, σ, s, Q', t, E, hs, q, k⟩
theorem dg_lput (hb : DE X b tb) (ha : DE X a ta) (h' : ∀ v, assign (.Subscript a b pos) X.env v = (do
      let ov ← holding [v] (eval a X.env)
      let iv ← holding [v, ov] (eval b X.env)
      standAt pos
      holding [v, ov, iv] (setItem ov iv v)
      release [v, ov, iv] []) := by intro _; rfl) :
    DG X (.Subscript a b pos) [] (fun z σ s Q => ta σ s fun x s2 => tb σ s2 fun y s3 => ∃ a ds i j, x = .ref a ∧ s3 a = some (.lst ds) ∧ y = .int i ∧ ixN ds.length i = some j ∧ Q σ (s3.set a (.lst (ds.set j z)))) :=
  PG.weaken (pg_sub ha hb set_list h') fun v σV H Q h => by
    obtain ⟨z, σ, s, Q', r, E, hs, q, k⟩ := h
    refine ⟨σ, s, _, E, hs, q, fun w f H2 s2 k2 r2 hs2 q2 => ?_⟩
    refine ⟨σ, s2, _, E.mono k2, hs2, q2, fun u g H3 s3 k3 r3 hs3 q3 => ?_⟩
    obtain ⟨p, ds, i, j, rfl, e, rfl, hj, q3⟩ := q3
    cases datR r2; cases datI r3
    obtain ⟨us, e1, t⟩ := hs3 _ _ e
    have rz := r.mono (k2.trans k3)
    obtain ⟨w1, w2⟩ := hs3.writeL e1 (t.set rz j)
    refine ⟨p, us, i, j, rfl, rfl, e1, by rw [t.length]; exact hj, ?_⟩
    exact k _ _ _ _ ((k2.trans k3).trans w2) (Off.refl _ _) (E.mono ((k2.trans k3).trans w2)) w1 q3
def dAsg (te : TD) (g : TDG) : TDS := fun D σ s => te σ s fun x s1 => g x σ s1 D.nx
theorem lift_asg {g : TDG} {sl : List Nat} : ∀ D σV H, upS (dAsg te g) D σV H → tAsg (upE te) (upG sl g) D σV H := fun D σV H h => by
  obtain ⟨σ, s, D', E, hs, q, R⟩ := h
  refine ⟨σ, s, _, E, hs, q, fun v d H1 s1 k1 r1 hs1 q1 => ?_⟩
  exact ⟨d, σ, s1, _, r1, E.mono k1, hs1, q1, fun a b c d k2 _ => R.nx a b c d (k1.trans k2)⟩
theorem ds_asg {tg : Expr} {g : TDG} {sl : List Nat} (he : DE X e te) (hg : DG X tg sl g) (hs : swapsWithSole [tg] e pos.line X.env = pure false := by rfl) (hw : swappedStores [tg] e X.env = pure none := by rfl)
    (h1 : (assignEach [tg] X.env).map (·.2) = [assign tg X.env] := by rfl) : DSt X (.Assign [tg] e pos) (dAsg te g) := PS.weaken (ps_asg he hg hs hw h1) lift_asg
def dSeq (t u : TDS) : TDS := fun D σ s => t { D with nx := u D } σ s
def dNext : TDS := fun D σ s => D.nx σ s
theorem dss_nil : DSs X [] dNext := PSs.weaken pss_nil fun D σV H h => by
  obtain ⟨σ, s, D', E, hs, q, R⟩ := h
  exact R.nx _ _ _ _ (Kp.refl H) E hs q
variable {st : Stmt} {sts : List Stmt} {tS uS : TDS}
theorem dss_cons (h1 : DSt X st tS) (h2 : DSs X sts uS) : DSs X (st :: sts) (dSeq tS uS) := PSs.weaken (pss_cons h1 h2) fun D σV H h => by
  obtain ⟨σ, s, D', E, hs, q, R⟩ := h
  exact ⟨σ, s, _, E, hs, q, ⟨fun a b H1 s1 k E1 hs1 q1 => ⟨b, s1, D', E1, hs1, q1, R.mono k⟩, R.rt, R.bk, R.ct⟩⟩
theorem dss_one (h1 : DSt X st tS) : DSs X [st] tS := pss_one h1
def dBreak : TDS := fun D σ s => D.bk σ s
def dCont : TDS := fun D σ s => D.ct σ s
theorem ds_pass : DSt X (.Pass pos) dNext := PS.weaken ps_pass fun D σV H h => by
  obtain ⟨σ, s, D', E, hs, q, R⟩ := h
  exact R.nx _ _ _ _ (Kp.refl H) E hs q
theorem ds_break : DSt X (.Break pos) dBreak := PS.weaken ps_break fun D σV H h => by
  obtain ⟨σ, s, D', E, hs, q, R⟩ := h
  exact R.bk _ _ _ _ (Kp.refl H) E hs q
theorem ds_continue : DSt X (.Continue pos) dCont := PS.weaken ps_continue fun D σV H h => by
  obtain ⟨σ, s, D', E, hs, q, R⟩ := h
  exact R.ct _ _ _ _ (Kp.refl H) E hs q
def dDrop (te : TD) : TDS := fun D σ s => te σ s fun _ s1 => D.nx σ s1
theorem ds_expr (he : DE X e te) (hs : swapsWith e none pos.line X.env = pure false := by rfl) : DSt X (.Expr e pos) (dDrop te) := PS.weaken (ps_expr he hs) fun D σV H h => by
  obtain ⟨σ, s, D', E, hs, q, R⟩ := h
  exact ⟨σ, s, _, E, hs, q, fun v d H1 s1 k1 r1 hs1 q1 => R.nx _ _ _ _ k1 (E.mono k1) hs1 q1⟩
def dRet (te : TD) : TDS := fun D σ s => te σ s D.rt
theorem ds_ret (he : DE X e te) : DSt X (.Return (some e) pos) (dRet te) := PS.weaken (ps_ret he) fun D σV H h => by
  obtain ⟨σ, s, D', E, hs, q, R⟩ := h
  exact ⟨σ, s, _, E, hs, q, fun v d H1 s1 k1 r1 hs1 q1 => R.rt _ _ _ _ k1 r1 hs1 q1⟩
def dRetN : TDS := fun D _ s => D.rt .non s
theorem ds_retN : DSt X (.Return none pos) dRetN := PS.weaken ps_retN fun D σV H h => by
  obtain ⟨σ, s, D', E, hs, q, R⟩ := h
  exact R.rt _ _ _ _ (Kp.refl H) .non hs q
def dIfS (c : TDT) (t u : TDS) : TDS := fun D σ s => c σ s fun b s1 => if b = true then t D σ s1 else u D σ s1
theorem ds_if {c : Expr} {sa sb : List Stmt} {tc : TDT} (hc : DT X c tc) (ha : DSs X sa tS) (hb : DSs X sb uS) : DSt X (.If c sa sb pos) (dIfS tc tS uS) := PS.weaken (ps_if hc ha hb) fun D σV H h => by
  obtain ⟨σ, s, D', E, hs, q, R⟩ := h
  refine ⟨σ, s, _, E, hs, q, fun b H1 s1 k1 hs1 q1 => ?_⟩
  cases b with
  | true => exact ⟨σ, s1, D', E.mono k1, hs1, q1, R.mono k1⟩
  | false => exact ⟨σ, s1, D', E.mono k1, hs1, q1, R.mono k1⟩
/-- x += e -/
def dAug (i : Nat) (te : TD) (ρ : RD2) : TDS := fun D σ s => ∃ x, σ[i]? = some (some x) ∧ te σ s fun y s1 => ρ x y s1 fun z s2 => D.nx (σ.set i (some z)) s2
theorem pip_or {op : Operator} {r r' : TIp} (h : PIp X op r) (h' : PIp X op r') : PIp X op (fun x y H Q => r x y H Q ∨ r' x y H Q) := fun pins s σ H x y v u Q I rx ry q => by
  rcases q with q | q
  · exact h pins s σ H x y v u Q I rx ry q
  · exact h' pins s σ H x y v u Q I rx ry q
theorem pip_of {op : Operator} {r : R2} (h : OpR X (inplaceOp op) r) : PIp X op r := h
theorem ds_aug {x : Str} {pos' : Pos} {op : Operator} {r : R2} {ρ : RD2} (ho : PIp X op r) (l : Lift2 r ρ) (i : Nat) (hN : X.N.Nodup) (he : DE X e te) (hi : X.N[i]? = some x := by rfl) (hx : Loc X.env.scope x := by first | exact Or.inl rfl | exact Or.inr rfl)
    (hf : X.fn x = true ∨ X.env.scope.names.lookup x = some .local := by first | exact .inl rfl | exact .inr rfl) : DSt X (.AugAssign (.Name x pos') op e pos) (dAug i te ρ) :=
  PS.weaken (ps_aug hN hi hx he ho hf) fun D σV H h => by
    obtain ⟨σ, s, D', E, hs, ⟨d, ed, q⟩, R⟩ := h
    obtain ⟨v, ev, r0⟩ := E.get i d ed
    refine ⟨v, ev, σ, s, _, E, hs, q, fun w f H1 s1 k1 r1 hs1 q1 => ?_⟩
    exact l v w d f H1 s1 _ _ (r0.mono k1) r1 hs1 q1 fun z g H2 s2 k2 rz hs2 q2 => R.nx _ _ _ _ (k1.trans k2) ((E.mono (k1.trans k2)).set i rz) hs2 q2
def rIAdd : RD2
  | .int i, .int j, s, Q => Q (.int (i + j)) s
  | .str x, .str y, s, Q => x.length + y.length ≤ sizeLine ∧ Q (.str (x ++ y)) s
  | .ref l, .ref m, s, Q => ∃ xs ys, s l = some (.lst xs) ∧ s m = some (.lst ys) ∧ xs.length + ys.length ≤ sizeLine ∧ Q (.ref l) (s.set l (.lst (xs ++ ys)))
  | _, _, _, _ => False
theorem lift_iadd : Lift2 (fun x y H Q => ((rI0 fun i j => .int (i + j)) x y H Q ∨ (∃ i j, x = .str i ∧ y = .str j ∧ i.length + j.length ≤ sizeLine ∧ Q (.str (i ++ j)) H)) ∨ rExt2 x y H Q) rIAdd := fun v w d f H s Q Q' r1 r2 hs q k => by
  cases d with
  | int i => cases f with
    | int j => cases datI r1; cases datI r2; exact .inl (.inl ⟨i, j, rfl, rfl, k _ _ _ _ (Kp.refl H) (.int _) hs q⟩)
    | _ => exact q.elim
  | str i => cases f with
    | str j => cases datS r1; cases datS r2; exact .inl (.inr ⟨i, j, rfl, rfl, q.1, k _ _ _ _ (Kp.refl H) (.str _) hs q.2⟩)
    | _ => exact q.elim
  | ref l => cases f with
    | ref m =>
      cases datR r1; cases datR r2
      obtain ⟨xs, ys, h1, h2, hl, q⟩ := q
      obtain ⟨v1, e1, t1⟩ := hs _ _ h1
      obtain ⟨v2, e2, t2⟩ := hs _ _ h2
      obtain ⟨w1, w2⟩ := hs.writeL e1 (t1.append t2)
      exact .inr ⟨l, m, v1, v2, rfl, rfl, e1, e2, by rw [t1.length, t2.length]; exact hl, k _ _ _ _ w2 (.ref l) w1 q⟩
    | _ => exact q.elim
  | _ => exact q.elim
theorem ds_iadd {x : Str} {pos' : Pos} (i : Nat) (hN : X.N.Nodup) (he : DE X e te) (hi : X.N[i]? = some x := by rfl) (hx : Loc X.env.scope x := by first | exact Or.inl rfl | exact Or.inr rfl)
    (hf : X.fn x = true ∨ X.env.scope.names.lookup x = some .local := by first | exact .inl rfl | exact .inr rfl) : DSt X (.AugAssign (.Name x pos') .Add e pos) (dAug i te rIAdd) :=
  ds_aug (pip_or (pip_or (pip_of iop_add) (pip_of iop_add_str)) (pip_of iop_ext)) lift_iadd i hN he hi hx hf

/-! ### arguments, displays, calls -/
def daNil : TDA := fun _ s Q => Q [] s
def daCons (ta : TD) (tr : TDA) : TDA := fun σ s Q => ta σ s fun x s1 => tr σ s1 fun xs s2 => Q (x :: xs) s2
theorem da_nil : DA X [] daNil := PA.weaken pa_nil fun σV H Q h => by
  obtain ⟨σ, s, Q', E, hs, q, k⟩ := h
  exact k _ _ _ _ (Kp.refl H) .nil hs q
theorem da_cons (ha : DE X e te) (hr : DA X es t) (hs : starEach (e :: es) X.env = (false, eval e X.env) :: starEach es X.env := by rfl) : DA X (e :: es) (daCons te t) := PA.weaken (pa_cons ha hr hs) fun σV H Q h => by
  obtain ⟨σ, s, Q', E, hs, q, k⟩ := h
  refine ⟨σ, s, _, E, hs, q, fun v d H1 s1 k1 r1 hs1 q1 => ?_⟩
  exact ⟨σ, s1, _, E.mono k1, hs1, q1, fun vs ds H2 s2 k2 r2 hs2 q2 => k _ _ _ _ (k1.trans k2) (.cons (r1.mono k2) r2) hs2 q2⟩
def dTup (t : TDA) : TD := fun σ s Q => t σ s fun xs s1 => xs.length ≤ sizeLine ∧ Q (.tup xs) s1
def dLst (t : TDA) : TD := fun σ s Q => t σ s fun xs s1 => xs.length ≤ sizeLine ∧ ∀ p, s1 p = none → Q (.ref p) (s1.set p (.lst xs))
theorem de_tup {x1} (h : DA X es t) : DE X (.Tuple es x1 pos) (dTup t) := PE.weaken (pe_tup h) fun σV H Q h => by
  obtain ⟨σ, s, Q', E, hs, q, k⟩ := h
  refine ⟨σ, s, _, E, hs, q, fun vs ds H1 s1 k1 r1 hs1 q1 => ⟨by rw [r1.length]; exact q1.1, fun p hp => ?_⟩⟩
  have kp : Kp H1 (upd H1 p (.tup vs)) := Kp.alloc hp
  exact k _ _ _ _ (k1.trans kp) (.tup upd_same (r1.mono kp)) (hs1.alloc hp) q1.2
theorem de_lst (h : DA X es t) : DE X (.List es pos) (dLst t) := PE.weaken (pe_lst h) fun σV H Q h => by
  obtain ⟨σ, s, Q', E, hs, q, k⟩ := h
  refine ⟨σ, s, _, E, hs, q, fun vs ds H1 s1 k1 r1 hs1 q1 => ⟨by rw [r1.length]; exact q1.1, fun p hp => ?_⟩⟩
  exact k _ _ _ _ (k1.trans (Kp.alloc hp)) (.ref p) (hs1.laidL hp r1) (q1.2 p (hs1.none hp))
/-- a dict of written text keys -/
def dPairs : List (Key × TD) → DS → S → (List (Key × D) → S → Prop) → Prop
  | [], _, s, Q => Q [] s
  | (k, tv) :: r, σ, s, Q => tv σ s fun y s1 => dPairs r σ s1 fun ps s2 => Q ((k, y) :: ps) s2
def dDisp (trs : List (Key × TD)) : TD := fun σ s Q => ∀ p, s p = none → dPairs trs σ (s.set p (.dic [])) fun ps s2 => s2 p = some (.dic []) ∧ Q (.ref p) (s2.set p (.dic (ps.foldl (fun acc kv => putD acc kv.1 kv.2) [])))
def upPairs (trs : List (Key × TD)) : List (TE × TE) := trs.map fun kt => (tC (kV kt.1), upE kt.2)
theorem KD.merge {H : Hp} : ∀ {more : List (Key × V)} {more' : List (Key × D)} {ws : List (Key × V)} {kvs : List (Key × D)}, KD H more more' → KD H ws kvs → KD H (mergeK ws more) (more'.foldl (fun acc kv => putD acc kv.1 kv.2) kvs)
  | _, _, _, _, .nil, t => t
  | (k1, v1) :: more, (k2, d2) :: more', ws, kvs, .cons r q, t => by
    obtain ⟨e, r⟩ := r
    have e : k1 = k2 := e
    subst e
    exact KD.merge (more := more) (more' := more') q (KD.put t r)
theorem lift_pairs {σV : St} {σ : DS} : ∀ {trs : List (Key × TD)} {H : Hp} {s : S} {Q : List (V × V) → Hp → Prop} {Q' : List (Key × D) → S → Prop}, EnvD H σV σ → HS H s → dPairs trs σ s Q' →
    (∀ (ws : List (Key × V)) (kvs : List (Key × D)) H' s', Kp H H' → KD H' ws kvs → ws.length = trs.length → HS H' s' → Q' kvs s' → Q (ws.map fun kv => (kV kv.1, kv.2)) H') → tPairs (upPairs trs) σV H Q
  | [], H, s, Q, Q', E, hs, q, k => k [] [] H s (Kp.refl H) .nil rfl hs q
  | (key, tv) :: r, H, s, Q, Q', E, hs, q, k => by
    show upE tv σV H _
    refine ⟨σ, s, _, E, hs, q, fun v d H1 s1 k1 r1 hs1 q1 => ?_⟩
    refine lift_pairs (trs := r) (E.mono k1) hs1 q1 fun ws kvs H2 s2 k2 t hl hs2 q2 => ?_
    exact k ((key, v) :: ws) ((key, d) :: kvs) H2 s2 (k1.trans k2) (.cons ⟨rfl, r1.mono k2⟩ t) (congrArg Nat.succ hl) hs2 q2
structure DPs (X : Cx) (pos : Pos) (keys : List (Option Expr)) (values : List Expr) (trs : List (Key × TD)) : Prop where
  ps : PPs X pos keys values (upPairs trs)
theorem dps_nil : DPs X pos [] [] [] := ⟨pps_nil⟩
theorem dps_cons {x : Str} {j : Nat} {p2 : Pos} {v : Expr} {ks : List (Option Expr)} {vs : List Expr} {tv : TD} {trs : List (Key × TD)} (hv : DE X v tv) (hr : DPs X pos ks vs trs) :
    DPs X pos (some (.Constant (.str x) j p2) :: ks) (v :: vs) ((.inr x, tv) :: trs) := ⟨pps_cons pe_str hv hr.ps⟩
theorem dps_consI {x : Int} {j : Nat} {p2 : Pos} {v : Expr} {ks : List (Option Expr)} {vs : List Expr} {tv : TD} {trs : List (Key × TD)} (hv : DE X v tv) (hr : DPs X pos ks vs trs) :
    DPs X pos (some (.Constant (.int x) j p2) :: ks) (v :: vs) ((.inl x, tv) :: trs) := ⟨pps_cons pe_int hv hr.ps⟩
theorem de_disp {keys : List (Option Expr)} {values : List Expr} {trs : List (Key × TD)} (h : DPs X pos keys values trs) (hall : keys.all (·.isSome) = true := by rfl) (hl : keys.length = values.length := by rfl) (h0 : keys ≠ [] := by exact fun z => by cases z)
    (h15 : keys.length ≤ 15 := by decide) (ht : trs.length ≤ 15 := by decide) : DE X (.Dict keys values pos) (dDisp trs) := PE.weaken (pe_disp h.ps hall hl h0 h15) fun σV H Q h => by
  obtain ⟨σ, s, Q', E, hs, q, k⟩ := h
  intro p hp
  have kp : Kp H (upd H p (.dK [])) := Kp.alloc hp
  refine lift_pairs (E.mono kp) (hs.laid hp (c := .dic []) ⟨[], upd_same, .nil⟩) (q p (hs.none hp)) fun ws kvs H2 s2 k2 t hlen hs2 q2 => ?_
  obtain ⟨e2, q2⟩ := q2
  obtain ⟨ws0, e3, t0⟩ := hs2 _ _ e2
  cases t0
  have kp2 : Kp H2 (upd H2 p (.dK (mergeK [] ws))) := Kp.write e3 (fun z => z)
  refine ⟨e3, ws, rfl, by rw [hlen]; exact ht, k _ _ _ _ ((kp.trans k2).trans kp2) (.ref p) (hs2.write kp2 (fun b hb => upd_ne hb) (show CellAt _ _ (.dic _) from ⟨_, upd_same, KD.mono kp2 (KD.merge t .nil)⟩)) q2⟩
theorem de_dict0 : DE X (.Dict [] [] pos) (fun _ s Q => ∀ p, s p = none → Q (.ref p) (s.set p (.dic []))) := PE.weaken pe_dnewK fun σV H Q h => by
  obtain ⟨σ, s, Q', E, hs, q, k⟩ := h
  intro p hp
  exact k _ _ _ _ (Kp.alloc hp) (.ref p) (hs.laid hp (c := .dic []) ⟨[], upd_same, .nil⟩) (q p (hs.none hp))
end DL

set_option maxHeartbeats 4000000
namespace DL
open PySem PySem.Spec L2
variable {X : Cx} {a b c e : Expr} {es : List Expr} {ta tb tc te : TD} {t : TDA} {pos : Pos}

/-! ### defs: what is known of them, calls -/
abbrev DSp := List D → S → QD → Prop
def upSp (sp : DSp) : Sp := fun vs H Q _ => ∃ (ds : List D) (s : S) (Q' : QD), Dats H vs ds ∧ HS H s ∧ sp ds s Q' ∧ ∀ v d H' s', Kp H H' → Dat H' v d → HS H' s' → Q' d s' → Q v H'
structure Known (P : Program) (w : World) (K : PySem.W.Frag) (mg : Str → Option Value) (base : Heap) (k : Nat) (x : Str) (sp : DSp) : Prop where
  ex : ∃ (f : Addr) (fd : FuncData) (ps : List Str), FnOk P w K mg base CX0 k f fd ps (upSp sp) ∧ mg x = some (.ref f) ∧ PySem.W.keepIn K (.ref f) = true ∧ Binds K fd ps []
theorem Known.mono {P : Program} {w : World} {K : PySem.W.Frag} {mg : Str → Option Value} {base : Heap} {j k : Nat} {x : Str} {sp : DSp} (F : Known P w K mg base j x sp) (h : j ≤ k) : Known P w K mg base k x sp := by
  obtain ⟨f, fd, ps, F, r⟩ := F.ex
  exact ⟨f, fd, ps, F.mono h, r⟩
theorem Known.imp {P : Program} {w : World} {K : PySem.W.Frag} {mg : Str → Option Value} {base : Heap} {k : Nat} {x : Str} {sp sp' : DSp} (F : Known P w K mg base k x sp) (h : ∀ ds s Q, sp' ds s Q → sp ds s Q) : Known P w K mg base k x sp' := by
  obtain ⟨f, fd, ps, F, r⟩ := F.ex
  exact ⟨f, fd, ps, F.imp fun vs H Q E ⟨ds, s, Q', r, hs, q, k⟩ => ⟨ds, s, Q', r, hs, h _ _ _ q, k⟩, r⟩
def dCall (sp : DSp) (t : TDA) : TD := fun σ s Q => t σ s fun ds s1 => sp ds s1 Q
theorem de_call {k : Nat} {x : Str} {sp : DSp} {p : Pos} (G : Known X.prog X.w X.K X.mg X.base k x sp) (hr : Room k X.A) (hg : Gl X x) (ha : DA X (e :: es) t) (hdb : (x == ("__debug__" : Str)) = false := by decide)
    (he : starEach (e :: es) X.env = (false, eval e X.env) :: starEach es X.env := by rfl) (hpl : (backTo pos (starEach es X.env)).any (·.1) = false := by rfl) : DE X (.Call (.Name x p) (e :: es) [] pos) (dCall sp t) := by
  obtain ⟨f, fd, ps, F, hm, kp, hb⟩ := G.ex
  refine PE.weaken (pe_call F hr hg hm kp hb .nil pass0 ha hdb he hpl) fun σV H Q h => ?_
  obtain ⟨σ, s, Q', E, hs, q, k⟩ := h
  refine ⟨σ, s, _, E, hs, q, fun vs ds H1 s1 k1 r1 hs1 q1 => ?_⟩
  exact ⟨ds, s1, Q', by simpa using r1, hs1, q1, fun v d H2 s2 k2 => k v d H2 s2 (k1.trans k2)⟩
/-- a body's slots at the entry -/
def startD (N : List Str) (ds : List D) : DS := ds.map some ++ List.replicate (N.length - ds.length) none
theorem Dats.env {H : Hp} {vs : List V} {ds : List D} (r : Dats H vs ds) (N : List Str) : EnvD H (L2.start N vs) (startD N ds) := by
  unfold L2.start startD
  refine ⟨by simp [r.length], fun i d e => ?_⟩
  by_cases hi : i < ds.length
  · rw [List.getElem?_append_left (by simpa using hi), List.getElem?_map] at e
    have hi2 : i < vs.length := by rw [r.length]; exact hi
    rw [List.getElem?_append_left (by simpa using hi2), List.getElem?_map]
    cases q : ds[i]? with
    | none => rw [q] at e; cases e
    | some g =>
      rw [q] at e; cases e
      obtain ⟨v, h1, h2⟩ := r.get q
      exact ⟨v, by rw [h1]; rfl, h2⟩
  · rw [List.getElem?_append_right (by simpa using hi), List.getElem?_replicate] at e
    split at e <;> cases e
/-- what a body's end wants: the store may hold more -/
def endsOf (Q : QD) : EndsD := { nx := fun _ s' => ∃ s'', Sub s'' s' ∧ Q .non s'', rt := fun d s' => ∃ s'', Sub s'' s' ∧ Q d s'' }
theorem fnOk_of {P : Program} {w : World} {K : PySem.W.Frag} {mg : Str → Option Value} {base : Heap} {x qual : Str} {params : Arguments} {body : List Stmt} {scope : Scope} {dvs : List V} {f : Addr} {fd : FuncData} {N ps : List Str} {k : Nat} {sp : DSp}
    (F : FunD K x qual params body scope dvs [] f fd) (S : FnScope N ps scope) (len : ∀ ds s Q, sp ds s Q → ds.length = ps.length)
    (hbody : ∀ (cdv : Value) (A : Around) (outer : List PySem.Env) (s : Shared) (H : Hp) (E : XK), Room k (A.deeper (PyProof.Rows.envOfC qual scope s.heap.objs.size f cdv)) →
      ∃ t : TDS, DSs (cxOf CX0 P w K mg base N qual scope f cdv A outer s H E).nox body t ∧ ∀ ds s Q, sp ds s Q → t (endsOf Q) (startD N ds) s) : FnOk P w K mg base CX0 (k + 1) f fd ps (upSp sp) := by
  refine F.ok S (fun vs H Q E h => ?_) (fun cdv A outer s H vs Q E hr h => ?_)
  · obtain ⟨ds, s, Q', r, _, h, _⟩ := h
    rw [r.length]; exact len _ _ _ h
  · obtain ⟨ds, s', Q', r, hs, h, k⟩ := h
    obtain ⟨t, ht, q⟩ := hbody cdv A outer s H E hr
    refine ⟨_, ht.nox, startD N ds, s', endsOf Q', r.env N, hs, q ds s' Q' h, ?_⟩
    refine ⟨fun a b H1 s1 k1 E1 hs1 q1 => ?_, fun v d H1 s1 k1 r1 hs1 q1 => ?_, fun a b H1 s1 k1 E1 hs1 q1 => q1.elim, fun a b H1 s1 k1 E1 hs1 q1 => q1.elim⟩
    · obtain ⟨s2, u, q2⟩ := q1
      exact k _ _ _ _ k1 .non (hs1.sub u) q2
    · obtain ⟨s2, u, q2⟩ := q1
      exact k _ _ _ _ k1 r1 (hs1.sub u) q2
theorem known_of {P : Program} {w : World} {K : PySem.W.Frag} {mg : Str → Option Value} {base : Heap} {x qual : Str} {params : Arguments} {body : List Stmt} {scope : Scope} {f : Addr} {fd : FuncData} {N ps : List Str} {k : Nat} {sp : DSp}
    (F : FunD K x qual params body scope [] [] f fd) (gm : mg x = some (.ref f)) (S : FnScope N ps scope) (hb : Binds K fd ps []) (len : ∀ ds s Q, sp ds s Q → ds.length = ps.length)
    (hbody : ∀ (cdv : Value) (A : Around) (outer : List PySem.Env) (s : Shared) (H : Hp) (E : XK), Room k (A.deeper (PyProof.Rows.envOfC qual scope s.heap.objs.size f cdv)) →
      ∃ t : TDS, DSs (cxOf CX0 P w K mg base N qual scope f cdv A outer s H E).nox body t ∧ ∀ ds s Q, sp ds s Q → t (endsOf Q) (startD N ds) s) : Known P w K mg base (k + 1) x sp :=
  ⟨f, fd, ps, fnOk_of F S len hbody, gm, F.kp, hb⟩
/-- the law's entry: its script -/
theorem entry {K : PySem.W.Frag} {H : Hp} {a : Addr} {ns : List Int} {sp : DSp} (hO : Only H) (hS : SqL K H a (ns.map V.int)) {E : XK}
    (h : ∀ s, (s a = some (.lst (ns.map .int)) ∨ s a = some (.ro (ns.map .int)) ∨ KRo K a (ns.map .int)) → sp [.ref a] s fun d _ => d = .bl true) : upSp sp [.ref a] H (fun v _ => v = .bl true) E := by
  have fin : ∀ (v : V) (d : D) (H' : Hp) (s' : S), Kp H H' → Dat H' v d → HS H' s' → d = .bl true → v = .bl true := fun v d H' s' _ r _ e => by subst e; exact datB r
  rcases hS with (h1 | ⟨o, h1⟩) | h1
  · rcases hO a with e | ⟨o, xs, e⟩
    · rw [e] at h1; cases h1
    · rw [e] at h1; cases h1
  · refine ⟨[.ref a], fun b => if b = a then some (.ro (ns.map .int)) else none, _, .cons (.ref a) .nil, fun b c e => ?_, h _ (.inr (.inl (if_pos rfl))), fin⟩
    by_cases hb : b = a
    · subst hb
      have e : (if b = b then some (C.ro (ns.map .int)) else none) = some c := e
      rw [if_pos rfl] at e
      cases e
      exact ⟨ns.map V.int, o, h1, Dats.of_ints ns⟩
    · have e : (if b = a then some (C.ro (ns.map .int)) else none) = some c := e
      rw [if_neg hb] at e; cases e
  · refine ⟨[.ref a], fun _ => none, _, .cons (.ref a) .nil, fun b c e => (by cases e), h _ (.inr (.inr fun H' => ⟨ns.map V.int, .inr h1, Dats.of_ints ns⟩)), fin⟩

/-! ### built-ins by values -/
abbrev RC := List D → S → QD → Prop
def LiftC (r : List V → Hp → VK → Prop) (ρ : RC) : Prop := ∀ vs ds H s Q Q', Dats H vs ds → HS H s → ρ ds s Q' → (∀ v d H' s', Kp H H' → Dat H' v d → HS H' s' → Q' d s' → Q v H') → r vs H Q
def dCB (ρ : RC) (t : TDA) : TD := fun σ s Q => t σ s fun ds s1 => ρ ds s1 Q
theorem lift_cb {r : List V → Hp → VK → Prop} {ρ : RC} (l : LiftC r ρ) : ∀ σV H Q, upE (dCB ρ t) σV H Q → tCB r (upA t) σV H Q := fun σV H Q h => by
  obtain ⟨σ, s, Q', E, hs, q, k⟩ := h
  exact ⟨σ, s, _, E, hs, q, fun vs ds H1 s1 k1 r1 hs1 q1 => l _ _ _ _ _ _ r1 hs1 q1 fun v d H2 s2 k2 => k v d H2 s2 (k1.trans k2)⟩
theorem callR_or {f : Value} {r r' : List V → Hp → VK → Prop} (h : CallR X f r) (h' : CallR X f r') : CallR X f (fun xs H Q => r xs H Q ∨ r' xs H Q) := fun pins s σ H xs us Q I r q => by
  rcases q with q | q
  · exact h pins s σ H xs us Q I r q
  · exact h' pins s σ H xs us Q I r q
section
variable {x : Str} {p : Pos}
theorem de_callB {id : String} {r : List V → Hp → VK → Prop} {ρ : RC} (hc : CallR X (.builtin id) r) (l : LiftC r ρ) (hg : Gl X x) (hm : X.mg x = none) (hv : bootBuiltins x = some (.builtin id)) (ha : DA X (e :: es) t) (hn : x ≠ "__name__" := by decide) (hdb : (x == ("__debug__" : Str)) = false := by decide)
    (he : starEach (e :: es) X.env = (false, eval e X.env) :: starEach es X.env := by rfl) (hpl : (backTo pos (starEach es X.env)).any (·.1) = false := by rfl) : DE X (.Call (.Name x p) (e :: es) [] pos) (dCB ρ t) :=
  PE.weaken (pe_callB hc hg hm hv ha hn hdb he hpl) (lift_cb l)
theorem de_callTy {T : String} {r : List V → Hp → VK → Prop} {ρ : RC} (hc : CallR X (.type T) r) (l : LiftC r ρ) (hg : Gl X x) (hm : X.mg x = none) (hv : bootBuiltins x = some (.type T)) (ha : DA X (e :: es) t) (hn : x ≠ "__name__" := by decide) (hdb : (x == ("__debug__" : Str)) = false := by decide)
    (he : starEach (e :: es) X.env = (false, eval e X.env) :: starEach es X.env := by rfl) (hpl : (backTo pos (starEach es X.env)).any (·.1) = false := by rfl) : DE X (.Call (.Name x p) (e :: es) [] pos) (dCB ρ t) :=
  PE.weaken (pe_callTy hc hg hm hv ha hn hdb he hpl) (lift_cb l)
end
theorem dats1 {H : Hp} {vs : List V} {d : D} (r : Dats H vs [d]) : ∃ v, vs = [v] ∧ Dat H v d := by cases r with | cons h r => cases r; exact ⟨_, rfl, h⟩
theorem dats2 {H : Hp} {vs : List V} {d f : D} (r : Dats H vs [d, f]) : ∃ v w, vs = [v, w] ∧ Dat H v d ∧ Dat H w f := by
  cases r with | cons h r => cases r with | cons g r => cases r; exact ⟨_, _, rfl, h, g⟩
def lenOf : Option C → Option Nat
  | some (.lst ds) => some ds.length
  | some (.dic kvs) => some kvs.length
  | _ => none
def rLenD : RC
  | [.str z], s, Q => z.length ≤ sizeLine ∧ Q (.int z.length) s
  | [.tup ds], s, Q => Q (.int ds.length) s
  | [.ref p], s, Q => ∃ n, lenOf (s p) = some n ∧ Q (.int (n : Nat)) s
  | _, _, _ => False
theorem lift_len (K : PySem.W.Frag) : LiftC (fun xs H Q => (∃ x n, xs = [x] ∧ LenV K x H n ∧ Q (.int n) H) ∨ ∃ a kvs, xs = [V.ref a] ∧ H a = some (.dK kvs) ∧ Q (.int kvs.length) H) rLenD := fun vs ds H s Q Q' r hs q k => by
  have fin : ∀ c, Q' (.int c) s → Q (.int c) H := fun c q => k _ _ _ _ (Kp.refl H) (.int _) hs q
  match ds, q with
  | [.str z], q => obtain ⟨v, rfl, r'⟩ := dats1 r; cases datS r'; exact .inl ⟨.str z, _, rfl, ⟨q.1, rfl⟩, fin _ q.2⟩
  | [.tup ds], q =>
    obtain ⟨v, rfl, r'⟩ := dats1 r
    obtain ⟨p, vs, rfl, e, t⟩ := datT r'
    exact .inl ⟨.ref p, _, rfl, Or.inr ⟨vs, SqT.of e, rfl⟩, by rw [t.length]; exact fin _ q⟩
  | [.ref p], q =>
    obtain ⟨v, rfl, r'⟩ := dats1 r
    cases datR r'
    obtain ⟨n, e, q⟩ := q
    cases e3 : s p with
    | none => rw [e3] at e; cases e
    | some c =>
      rw [e3] at e
      cases c with
      | lst ds =>
        cases e
        obtain ⟨vs, e1, t⟩ := hs _ _ e3
        exact .inl ⟨.ref p, _, rfl, Or.inl ⟨vs, SqL.of e1, rfl⟩, by rw [t.length]; exact fin _ q⟩
      | dic kvs =>
        cases e
        obtain ⟨ws, e1, t⟩ := hs _ _ e3
        exact .inr ⟨_, _, rfl, e1, by rw [KD.length t]; exact fin _ q⟩
      | ro ds => cases e
theorem de_len {p : Pos} (hg : Gl X "len") (hm : X.mg "len" = none) (ha : DA X (e :: es) t) (he : starEach (e :: es) X.env = (false, eval e X.env) :: starEach es X.env := by rfl) (hpl : (backTo pos (starEach es X.env)).any (·.1) = false := by rfl) :
    DE X (.Call (.Name "len" p) (e :: es) [] pos) (dCB rLenD t) := de_callB (callR_or call_len call_lenD) (lift_len X.K) hg hm PySem.boot_len ha (by decide) (by decide) he hpl
def rAbs : RC
  | [.int i], s, Q => Q (.int (if i < 0 then -i else i)) s
  | _, _, _ => False
theorem de_abs {p : Pos} (hg : Gl X "abs") (hm : X.mg "abs" = none) (ha : DA X (e :: es) t) (he : starEach (e :: es) X.env = (false, eval e X.env) :: starEach es X.env := by rfl) (hpl : (backTo pos (starEach es X.env)).any (·.1) = false := by rfl) :
    DE X (.Call (.Name "abs" p) (e :: es) [] pos) (dCB rAbs t) := de_callB call_abs (fun vs ds H s Q Q' r hs q k => by
      match ds, q with
      | [.int i], q => obtain ⟨v, rfl, r'⟩ := dats1 r; cases datI r'; exact ⟨i, rfl, k _ _ _ _ (Kp.refl H) (.int _) hs q⟩) hg hm (by decide +kernel) ha (by decide) (by decide) he hpl
def rIntOf : RC
  | [.int i], s, Q => Q (.int i) s
  | [.bl b], s, Q => Q (.int (if b then 1 else 0)) s
  | _, _, _ => False
theorem de_intOf {p : Pos} (hg : Gl X "int") (hm : X.mg "int" = none) (ha : DA X (e :: es) t) (he : starEach (e :: es) X.env = (false, eval e X.env) :: starEach es X.env := by rfl) (hpl : (backTo pos (starEach es X.env)).any (·.1) = false := by rfl) :
    DE X (.Call (.Name "int" p) (e :: es) [] pos) (dCB rIntOf t) := de_callTy call_int1 (fun vs ds H s Q Q' r hs q k => by
      match ds, q with
      | [.int i], q => obtain ⟨v, rfl, r'⟩ := dats1 r; cases datI r'; exact .inl ⟨i, rfl, k _ _ _ _ (Kp.refl H) (.int _) hs q⟩
      | [.bl i], q => obtain ⟨v, rfl, r'⟩ := dats1 r; cases datB r'; exact .inr ⟨i, rfl, k _ _ _ _ (Kp.refl H) (.int _) hs q⟩) hg hm PyProof.Rows.boot_int ha (by decide) (by decide) he hpl
def rStrOf : RC
  | [.int i], s, Q => i.natAbs.log2 < 1920 ∧ Q (.str (toString i)) s
  | _, _, _ => False
theorem de_strOf {p : Pos} (hg : Gl X "str") (hm : X.mg "str" = none) (ha : DA X (e :: es) t) (he : starEach (e :: es) X.env = (false, eval e X.env) :: starEach es X.env := by rfl) (hpl : (backTo pos (starEach es X.env)).any (·.1) = false := by rfl) :
    DE X (.Call (.Name "str" p) (e :: es) [] pos) (dCB rStrOf t) := de_callTy call_str_int (fun vs ds H s Q Q' r hs q k => by
      match ds, q with
      | [.int i], q => obtain ⟨v, rfl, r'⟩ := dats1 r; cases datI r'; exact ⟨i, rfl, q.1, k _ _ _ _ (Kp.refl H) (.str _) hs q.2⟩) hg hm PyProof.Rows.boot_str ha (by decide) (by decide) he hpl
def rMax : RC
  | [.int i, .int j], s, Q => Q (.int (if j > i then j else i)) s
  | _, _, _ => False
def rMin : RC
  | [.int i, .int j], s, Q => Q (.int (if j < i then j else i)) s
  | _, _, _ => False
theorem de_max2 {p : Pos} (hc : X.calm = true) (hg : Gl X "max") (hm : X.mg "max" = none) (ha : DA X (e :: es) t) (he : starEach (e :: es) X.env = (false, eval e X.env) :: starEach es X.env := by rfl) (hpl : (backTo pos (starEach es X.env)).any (·.1) = false := by rfl) :
    DE X (.Call (.Name "max" p) (e :: es) [] pos) (dCB rMax t) := de_callB (call_max2 hc) (fun vs ds H s Q Q' r hs q k => by
      match ds, q with
      | [.int i, .int j], q => obtain ⟨v, w, rfl, r', r2⟩ := dats2 r; cases datI r'; cases datI r2; exact ⟨i, j, rfl, k _ _ _ _ (Kp.refl H) (.int _) hs q⟩) hg hm PyProof.Rows.boot_max ha (by decide) (by decide) he hpl
theorem de_min2 {p : Pos} (hc : X.calm = true) (hg : Gl X "min") (hm : X.mg "min" = none) (ha : DA X (e :: es) t) (he : starEach (e :: es) X.env = (false, eval e X.env) :: starEach es X.env := by rfl) (hpl : (backTo pos (starEach es X.env)).any (·.1) = false := by rfl) :
    DE X (.Call (.Name "min" p) (e :: es) [] pos) (dCB rMin t) := de_callB (call_min2 hc) (fun vs ds H s Q Q' r hs q k => by
      match ds, q with
      | [.int i, .int j], q => obtain ⟨v, w, rfl, r', r2⟩ := dats2 r; cases datI r'; cases datI r2; exact ⟨i, j, rfl, k _ _ _ _ (Kp.refl H) (.int _) hs q⟩) hg hm PyProof.Rows.boot_min ha (by decide) (by decide) he hpl
/-- sum, all, any of a list -/
def rSumD : RC
  | [.ref p], s, Q => ∃ ns : List Int, s p = some (.lst (ns.map D.int)) ∧ Q (.int ns.sum) s
  | _, _, _ => False
def rAllD : RC
  | [.ref p], s, Q => ∃ bs : List Bool, s p = some (.lst (bs.map D.bl)) ∧ Q (.bl (bs.all id)) s
  | _, _, _ => False
def rAnyD : RC
  | [.ref p], s, Q => ∃ bs : List Bool, s p = some (.lst (bs.map D.bl)) ∧ Q (.bl (bs.any id)) s
  | _, _, _ => False
theorem de_sum {p : Pos} (hc : X.calm = true) (hg : Gl X "sum") (hm : X.mg "sum" = none) (ha : DA X (e :: es) t) (he : starEach (e :: es) X.env = (false, eval e X.env) :: starEach es X.env := by rfl) (hpl : (backTo pos (starEach es X.env)).any (·.1) = false := by rfl) :
    DE X (.Call (.Name "sum" p) (e :: es) [] pos) (dCB rSumD t) := de_callB (cr_sum hc) (fun vs ds H s Q Q' r hs q k => by
      match ds, q with
      | [.ref p], ⟨ns, e, q⟩ =>
        obtain ⟨v, rfl, r'⟩ := dats1 r; cases datR r'
        obtain ⟨vs, e1, t⟩ := hs _ _ e
        cases t.ints
        exact ⟨p, ns, rfl, SqL.of e1, k _ _ _ _ (Kp.refl H) (.int _) hs q⟩) hg hm PyProof.Rows.boot_sum ha (by decide) (by decide) he hpl
theorem de_all {p : Pos} (hc : X.calm = true) (hg : Gl X "all") (hm : X.mg "all" = none) (ha : DA X (e :: es) t) (he : starEach (e :: es) X.env = (false, eval e X.env) :: starEach es X.env := by rfl) (hpl : (backTo pos (starEach es X.env)).any (·.1) = false := by rfl) :
    DE X (.Call (.Name "all" p) (e :: es) [] pos) (dCB rAllD t) := de_callB (cr_all hc) (fun vs ds H s Q Q' r hs q k => by
      match ds, q with
      | [.ref p], ⟨ns, e, q⟩ =>
        obtain ⟨v, rfl, r'⟩ := dats1 r; cases datR r'
        obtain ⟨vs, e1, t⟩ := hs _ _ e
        cases t.bls
        exact ⟨p, ns, rfl, SqL.of e1, k _ _ _ _ (Kp.refl H) (.bl _) hs q⟩) hg hm (by decide +kernel) ha (by decide) (by decide) he hpl
theorem de_any {p : Pos} (hc : X.calm = true) (hg : Gl X "any") (hm : X.mg "any" = none) (ha : DA X (e :: es) t) (he : starEach (e :: es) X.env = (false, eval e X.env) :: starEach es X.env := by rfl) (hpl : (backTo pos (starEach es X.env)).any (·.1) = false := by rfl) :
    DE X (.Call (.Name "any" p) (e :: es) [] pos) (dCB rAnyD t) := de_callB (cr_any hc) (fun vs ds H s Q Q' r hs q k => by
      match ds, q with
      | [.ref p], ⟨ns, e, q⟩ =>
        obtain ⟨v, rfl, r'⟩ := dats1 r; cases datR r'
        obtain ⟨vs, e1, t⟩ := hs _ _ e
        cases t.bls
        exact ⟨p, ns, rfl, SqL.of e1, k _ _ _ _ (Kp.refl H) (.bl _) hs q⟩) hg hm (by decide +kernel) ha (by decide) (by decide) he hpl
/-- tuple(x), list(x) -/
def rTupOf : RC
  | [.ref p], s, Q => ∃ ds, s p = some (.lst ds) ∧ Q (.tup ds) s
  | [.tup ds], s, Q => Q (.tup ds) s
  | _, _, _ => False
theorem de_tupOf {p : Pos} (hg : Gl X "tuple") (hm : X.mg "tuple" = none) (ha : DA X (e :: es) t) (he : starEach (e :: es) X.env = (false, eval e X.env) :: starEach es X.env := by rfl) (hpl : (backTo pos (starEach es X.env)).any (·.1) = false := by rfl) :
    DE X (.Call (.Name "tuple" p) (e :: es) [] pos) (dCB rTupOf t) := de_callTy call_tuple_of (fun vs ds H s Q Q' r hs q k => by
      match ds, q with
      | [.ref p], ⟨ds, e, q⟩ =>
        obtain ⟨v, rfl, r'⟩ := dats1 r; cases datR r'
        obtain ⟨vs, e1, t⟩ := hs _ _ e
        refine ⟨p, vs, rfl, .inl ⟨SqL.of e1, fun l hl => ?_⟩⟩
        have kp : Kp H (upd H l (.tup vs)) := Kp.alloc hl
        exact k _ _ _ _ kp (.tup upd_same (t.mono kp)) (hs.alloc hl) q
      | [.tup ds], q =>
        obtain ⟨v, rfl, r'⟩ := dats1 r
        obtain ⟨p, vs, rfl, e, t⟩ := datT r'
        exact ⟨p, vs, rfl, .inr ⟨SqT.of e, k _ _ _ _ (Kp.refl H) r' hs q⟩⟩) hg hm PyProof.Rows.boot_tuple ha (by decide) (by decide) he hpl
def rListOf : RC
  | [.ref p], s, Q => ∃ ds, s p = some (.lst ds) ∧ ∀ l, s l = none → Q (.ref l) (s.set l (.lst ds))
  | [.tup ds], s, Q => ∀ l, s l = none → Q (.ref l) (s.set l (.lst ds))
  | _, _, _ => False
theorem de_listOf {p : Pos} (hg : Gl X "list") (hm : X.mg "list" = none) (ha : DA X (e :: es) t) (he : starEach (e :: es) X.env = (false, eval e X.env) :: starEach es X.env := by rfl) (hpl : (backTo pos (starEach es X.env)).any (·.1) = false := by rfl) :
    DE X (.Call (.Name "list" p) (e :: es) [] pos) (dCB rListOf t) := de_callTy call_list_of (fun vs ds H s Q Q' r hs q k => by
      match ds, q with
      | [.ref p], ⟨ds, e, q⟩ =>
        obtain ⟨v, rfl, r'⟩ := dats1 r; cases datR r'
        obtain ⟨vs, e1, t⟩ := hs _ _ e
        exact ⟨p, vs, rfl, .inl (SqL.of e1), fun l hl => k _ _ _ _ (Kp.alloc hl) (.ref l) (hs.laidL hl t) (q l (hs.none hl))⟩
      | [.tup ds], q =>
        obtain ⟨v, rfl, r'⟩ := dats1 r
        obtain ⟨p, vs, rfl, e, t⟩ := datT r'
        exact ⟨p, vs, rfl, .inr (SqT.of e), fun l hl => k _ _ _ _ (Kp.alloc hl) (.ref l) (hs.laidL hl t) (q l (hs.none hl))⟩) hg hm PyProof.Rows.boot_list ha (by decide) (by decide) he hpl
/-- isinstance(e, T), T a built-in class -/
inductive Cl where
  | int | bool | str | tuple | list | dict
def Cl.nm : Cl → String
  | .int => "int" | .bool => "bool" | .str => "str" | .tuple => "tuple" | .list => "list" | .dict => "dict"
def isC : Cl → D → Bool
  | .int, .int _ => true | .int, .bl _ => true
  | .bool, .bl _ => true
  | .str, .str _ => true
  | .tuple, .tup _ => true
  | _, _ => false
def isCc : Cl → C → Bool
  | .list, .lst _ => true | .list, .ro _ => true | .dict, .dic _ => true
  | _, _ => false
def rIsi (T : Cl) : D → S → QD → Prop
  | .ref p, s, Q => ∃ c, s p = some c ∧ Q (.bl (isCc T c)) s
  | .non, s, Q => Q (.bl (isC T .non)) s
  | .bl b, s, Q => Q (.bl (isC T (.bl b))) s
  | .int b, s, Q => Q (.bl (isC T (.int b))) s
  | .str b, s, Q => Q (.bl (isC T (.str b))) s
  | .tup b, s, Q => Q (.bl (isC T (.tup b))) s
theorem de_isi (T : Cl) {tn : Str} {p p2 : Pos} (hg : Gl X "isinstance") (hm : X.mg "isinstance" = none) (hg2 : Gl X tn) (hm2 : X.mg tn = none) (he : DE X e te) (hb : bootBuiltins tn = some (.type T.nm) := by decide +kernel)
    (hn : tn ≠ "__name__" := by decide) (hd : (tn == ("__debug__" : Str)) = false := by decide)
    (h1 : starEach [e, .Name tn p2] X.env = (false, eval e X.env) :: starEach [.Name tn p2] X.env := by rfl) (h2 : starEach [.Name tn p2] X.env = (false, eval (.Name tn p2) X.env) :: starEach [] X.env := by rfl) (hpl : (backTo pos (starEach [.Name tn p2] X.env)).any (·.1) = false := by rfl) :
    DE X (.Call (.Name "isinstance" p) [e, .Name tn p2] [] pos) (dUn (rIsi T) te) :=
  PE.weaken (pe_callB call_isi hg hm (by decide +kernel) (pa_cons he (pa_cons (pe_bltn (v := .ty T.nm) hg2 hm2 hb rfl hn hd) pa_nil h2) h1) (by decide) (by decide) h1 hpl) fun σV H Q h => by
    obtain ⟨σ, s, Q', E, hs, q, k⟩ := h
    refine ⟨σ, s, _, E, hs, q, fun v d H1 s1 kk r1 hs1 q1 => ?_⟩
    have fin : ∀ c, Q' (.bl c) s1 → Q (.bl c) H1 := fun c q => k _ _ _ _ kk (.bl _) hs1 q
    cases d with
    | non => cases datN r1; exact ⟨_, _, _, _, _, rfl, .ty T.nm, .base .non, kit_ty (r := isC T .non) (by cases T <;> decide +kernel), fin _ q1⟩
    | bl b => cases datB r1; exact ⟨_, _, _, _, _, rfl, .ty T.nm, .base (.bl b), kit_ty (r := isC T (.bl b)) (by cases T <;> cases b <;> decide +kernel), fin _ q1⟩
    | int b =>
      cases datI r1
      have e : isC T (.int b) = isC T (.int 0) := by cases T <;> rfl
      have q2 : Q' (.bl (isC T (.int b))) s1 := q1
      rw [e] at q2
      exact ⟨_, _, _, _, _, rfl, .ty T.nm, .base (.int b), kit_ty (r := isC T (.int 0)) (by cases T <;> decide +kernel), fin _ q2⟩
    | str b =>
      cases datS r1
      have e : isC T (.str b) = isC T (.str "") := by cases T <;> rfl
      have q2 : Q' (.bl (isC T (.str b))) s1 := q1
      rw [e] at q2
      exact ⟨_, _, _, _, _, rfl, .ty T.nm, .base (.str b), kit_ty (r := isC T (.str "")) (by cases T <;> decide +kernel), fin _ q2⟩
    | tup ds =>
      obtain ⟨p, vs, rfl, e, t⟩ := datT r1
      have e0 : isC T (.tup ds) = isC T (.tup []) := by cases T <;> rfl
      have q2 : Q' (.bl (isC T (.tup ds))) s1 := q1
      rw [e0] at q2
      exact ⟨_, _, _, _, _, rfl, .ty T.nm, .base (.tup e), kit_ty (r := isC T (.tup [])) (by cases T <;> decide +kernel), fin _ q2⟩
    | ref p =>
      cases datR r1
      obtain ⟨c, e, q1⟩ := q1
      have w := hs1 _ _ e
      cases c with
      | lst ds =>
        obtain ⟨vs, e1, _⟩ := w
        have e0 : isCc T (.lst ds) = isCc T (.lst []) := by cases T <;> rfl
        rw [e0] at q1
        exact ⟨_, _, _, _, _, rfl, .ty T.nm, .base (.lst e1), kit_ty (r := isCc T (.lst [])) (by cases T <;> decide +kernel), fin _ q1⟩
      | ro ds =>
        obtain ⟨vs, o, e1, _⟩ := w
        have e0 : isCc T (.ro ds) = isCc T (.lst []) := by cases T <;> rfl
        rw [e0] at q1
        exact ⟨_, _, _, _, _, rfl, .ty T.nm, .base (.frz e1), kit_ty (r := isCc T (.lst [])) (by cases T <;> decide +kernel), fin _ q1⟩
      | dic ds =>
        obtain ⟨vs, e1, _⟩ := w
        have e0 : isCc T (.dic ds) = isCc T (.dic []) := by cases T <;> rfl
        rw [e0] at q1
        exact ⟨_, _, _, _, _, rfl, .ty T.nm, .base (.dK e1), kit_ty (r := isCc T (.dic [])) (by cases T <;> decide +kernel), fin _ q1⟩

/-! ### methods of lists -/
def dAppend (tl te : TD) : TD := fun σ s Q => tl σ s fun x s1 => (∃ p ds, x = .ref p ∧ s1 p = some (.lst ds)) ∧ te σ s1 fun y s2 => ∃ p ds, x = .ref p ∧ s2 p = some (.lst ds) ∧ ds.length < sizeLine ∧ Q .non (s2.set p (.lst (ds ++ [y])))
theorem de_append {apos cpos : Pos} (ha : DE X a ta) (hb : DE X b tb) (hbase : attributeBase a "append" X.env (eval a X.env) = eval a X.env := by rfl) (hline : (apos.endLine == cpos.line) = true := by rfl)
    (hs : starEach [b] X.env = (false, eval b X.env) :: starEach [] X.env := by rfl)
    (hfew : ((backTo cpos (starEach [b] X.env)).all (fun x => !x.1) && (backToKw cpos (keywordEach [] X.env)).all (fun x => x.1.isSome)
      && decide (([b] : List Expr).length + ([] : List Keyword).length + (if ([] : List Keyword).isEmpty then 0 else 1) < 30)) = true := by rfl) : DE X (.Call (.Attribute a "append" apos) [b] [] cpos) (dAppend ta tb) :=
  PE.weaken (pe_bm PySem.F.plainAttrs_list PySem.F.slot_list_append PySem.F.type_list_append mt_append ha (pa_cons hb pa_nil hs) hbase hfew hline hs) fun σV H Q h => by
    obtain ⟨σ, s, Q', E, hs, q, k⟩ := h
    refine ⟨σ, s, _, E, hs, q, fun v d H1 s1 k1 r1 hs1 q1 => ?_⟩
    obtain ⟨⟨p, ds, rfl, e⟩, q1⟩ := q1
    cases datR r1
    obtain ⟨vs, e1, t⟩ := hs1 _ _ e
    refine ⟨.inl ⟨rfl, vs, SqL.of e1⟩, σ, s1, _, E.mono k1, hs1, q1, fun w f H2 s2 k2 r2 hs2 q2 => ?_⟩
    obtain ⟨p, ds, e0, e2, hl, q2⟩ := q2
    cases e0
    obtain ⟨us, e3, t3⟩ := hs2 _ _ e2
    obtain ⟨w1, w2⟩ := hs2.writeL e3 (t3.append (.cons r2 .nil))
    exact ⟨_, us, w, rfl, rfl, e3, by rw [t3.length]; exact hl, k _ _ _ _ ((k1.trans k2).trans w2) .non w1 q2⟩
end DL

set_option maxHeartbeats 4000000
namespace DL
open PySem PySem.Spec L2
variable {X : Cx} {a b c e tg : Expr} {es : List Expr} {ta tb tc te : TD} {t : TDA} {pos : Pos}

/-! ### what a for walks -/
/-- the items, what of the store must stand -/
structure ItD where
  ds : List D
  G : S → Prop
def RelIt (J : It) (J' : ItD) (H1 : Hp) : Prop := Walk J J'.ds.length (fun H => Kp H1 H ∧ ∃ s, HS H s ∧ J'.G s) (fun i H v H' => Kp H H' ∧ (∀ s, HS H s → HS H' s) ∧ ∃ d, J'.ds[i]? = some d ∧ Dat H' v d)
abbrev TDI := DS → S → (ItD → S → Prop) → Prop
def upI (ti : TDI) : TI := fun σV H R => ∃ (σ : DS) (s : S) (R' : ItD → S → Prop), EnvD H σV σ ∧ HS H s ∧ ti σ s R' ∧ ∀ J J' s' H', Kp H H' → HS H' s' → R' J' s' → RelIt J J' H' → R J H'
theorem PI.weaken {X : Cx} {tg e : Expr} {t t' : TI} (h : PI X tg e t) (w : ∀ σ H Q, t' σ H Q → t σ H Q) : PI X tg e t' := ⟨fun pins s σ H Q I q => h.run pins s σ H Q I (w _ _ _ q)⟩
abbrev DI (X : Cx) (tg e : Expr) (ti : TDI) : Prop := PI X tg e (upI ti)
/-- a list, a tuple, a text -/
def iAny (K : PySem.W.Frag) (tl : TE) : TI := fun σ H R => tl σ H fun x H1 => (∃ a, x = .ref a ∧ (∃ xs, SqL K H1 a xs) ∧ R (Itl K a) H1) ∨ (∃ a, x = .ref a ∧ (∃ xs, SqT K H1 a xs) ∧ R (Itt K a) H1) ∨ ∃ z, x = .str z ∧ R (Its z) H1
theorem pi_any {l : Expr} {tl : TE} (hl : PE X l tl) : PI X tg l (iAny X.K tl) := by
  refine ⟨fun pins s σ H R I h => ?_⟩
  refine thn (hl.run pins s σ H _ I h) fun v s1 ⟨x, H1, I1, r1, q1⟩ => ?_
  rcases q1 with ⟨a, e, ⟨xs, hq⟩, q⟩ | ⟨a, e, ⟨xs, hq⟩, q⟩ | ⟨z, e, q⟩
  · subst e
    cases r1
    obtain ⟨its, rv, p, hz⟩ := I1.list hq
    refine wpAny_pyIter_list p.isList ?_
    refine ⟨s1.heap.objs.size, [s1.heap.objs.size], _, _, H1, rfl, I1.kept (t' := s1.toks) fun b o e => Heap.get?_push_of_some _ e, turn_list a _, ⟨_, Heap.get?_push_size _ rfl, rfl, rfl⟩, fun b hb => ?_, q⟩
    have e : b = s1.heap.objs.size := by simpa using hb
    subst e
    exact I1.fpOk (Nat.le_refl _) (I1.hok.fresh (Nat.le_refl _))
  · subst e
    cases r1
    obtain ⟨its, rv, p, hz⟩ := I1.tuple hq
    refine wpAny_pyIter_tuple (show s1.heap.IsTuple a its.toArray from p) ?_
    refine ⟨s1.heap.objs.size, [s1.heap.objs.size], _, _, H1, rfl, I1.kept (t' := s1.toks) fun b o e => Heap.get?_push_of_some _ e, turn_tuple a _, ⟨_, Heap.get?_push_size _ rfl, rfl, rfl⟩, fun b hb => ?_, q⟩
    have e : b = s1.heap.objs.size := by simpa using hb
    subst e
    exact I1.fpOk (Nat.le_refl _) (I1.hok.fresh (Nat.le_refl _))
  · subst e
    obtain ⟨t, rfl⟩ := r1
    cases ha : z.cps.all (· < 128)
    · exact wpAny_pyIter_wide ha (pi_one (tk := s1.toks) I1 _ (turn_str _ z t "str_iterator" (.inr rfl)) ⟨_, Heap.get?_push_size _ rfl, rfl, rfl⟩ q)
    · exact wpAny_pyIter_ascii ha (pi_one (tk := s1.toks) I1 _ (turn_str _ z t "str_ascii_iterator" (.inl rfl)) ⟨_, Heap.get?_push_size _ rfl, rfl, rfl⟩ q)
def signs (z : Str) : List D := z.cps.toList.map fun c => .str ⟨#[c]⟩
def iD (R : ItD → S → Prop) : D → S → Prop
  | .tup ds, s => R ⟨ds, fun _ => True⟩ s
  | .str z, s => R ⟨signs z, fun _ => True⟩ s
  | .ref p, s => ∃ ds, s p = some (.lst ds) ∧ R ⟨ds, fun s' => s' p = some (.lst ds)⟩ s
  | _, _ => False
def dIter (te : TD) : TDI := fun σ s R => te σ s fun x s1 => iD R x s1
theorem rel_list {K : PySem.W.Frag} {p : Addr} {ds : List D} {H1 : Hp} : RelIt (Itl K p) ⟨ds, fun s => s p = some (.lst ds)⟩ H1 :=
  ⟨fun i H hi ⟨_, s, hs, g⟩ => by
    obtain ⟨vs, e, t⟩ := hs _ _ g
    obtain ⟨v, h1, _⟩ := t.get (i := i) (d := ds[i]) (by simp [show i < ds.length from hi])
    exact ⟨vs, v, SqL.of e, h1⟩,
   fun H ⟨_, s, hs, g⟩ => by
    obtain ⟨vs, e, t⟩ := hs _ _ g
    exact ⟨vs, SqL.of e, by rw [t.length]; exact Nat.le_refl _⟩,
   fun i H x H' hi ⟨_, s, hs, g⟩ y => by
    obtain ⟨vs, e, t⟩ := hs _ _ g
    obtain ⟨rfl, y⟩ := y
    obtain ⟨d, h1, h2⟩ := t.getV (y vs (SqL.of e))
    exact ⟨Kp.refl _, fun _ h => h, d, h1, h2⟩⟩
theorem rel_tup {K : PySem.W.Frag} {p : Addr} {ds : List D} {vs : List V} {H1 : Hp} (e : H1 p = some (.tup vs)) (t : Dats H1 vs ds) : RelIt (Itt K p) ⟨ds, fun _ => True⟩ H1 :=
  ⟨fun i H hi ⟨k, _⟩ => by
    obtain ⟨v, h1, _⟩ := t.get (i := i) (d := ds[i]) (by simp [show i < ds.length from hi])
    exact ⟨vs, v, SqT.of (k _ _ trivial e), h1⟩,
   fun H ⟨k, _⟩ => ⟨vs, SqT.of (k _ _ trivial e), by rw [t.length]; exact Nat.le_refl _⟩,
   fun i H x H' hi ⟨k, _⟩ y => by
    obtain ⟨rfl, y⟩ := y
    obtain ⟨d, h1, h2⟩ := t.getV (y vs (SqT.of (k _ _ trivial e)))
    exact ⟨Kp.refl _, fun _ h => h, d, h1, h2.mono k⟩⟩
theorem rel_str {z : Str} {H1 : Hp} : RelIt (Its z) ⟨signs z, fun _ => True⟩ H1 := by
  have hl : (signs z).length = z.cps.size := by simp [signs]
  refine ⟨fun i H hi _ => by show i < z.cps.size; rw [← hl]; exact hi, fun H _ => by show z.cps.size ≤ (signs z).length; rw [hl]; exact Nat.le_refl _, fun i H x H' hi _ y => ?_⟩
  obtain ⟨rfl, c, h1, rfl⟩ := y
  refine ⟨Kp.refl _, fun _ h => h, .str ⟨#[c]⟩, ?_, .str _⟩
  simp [signs, h1]
theorem di_any (he : DE X e te) : DI X tg e (dIter te) := PI.weaken (pi_any he) fun σV H R h => by
  obtain ⟨σ, s, R', E, hs, q, k⟩ := h
  refine ⟨σ, s, _, E, hs, q, fun v d H1 s1 k1 r1 hs1 q1 => ?_⟩
  cases d with
  | tup ds =>
    obtain ⟨p, vs, rfl, e, t⟩ := datT r1
    exact .inr (.inl ⟨p, rfl, ⟨vs, SqT.of e⟩, k _ _ _ _ k1 hs1 q1 (rel_tup e t)⟩)
  | str z => cases datS r1; exact .inr (.inr ⟨z, rfl, k _ _ _ _ k1 hs1 q1 rel_str⟩)
  | ref p =>
    cases datR r1
    obtain ⟨ds, e, q1⟩ := q1
    obtain ⟨vs, e1, t⟩ := hs1 _ _ e
    exact .inl ⟨p, rfl, ⟨vs, SqL.of e1⟩, k _ _ _ _ k1 hs1 q1 rel_list⟩
  | _ => exact q1.elim
def rngD (lo : Int) (n : Nat) : List D := (List.range n).map fun i => D.int (lo + (i : Nat))
theorem rel_rng {lo : Int} {n : Nat} {H1 : Hp} : RelIt (Itr lo n) ⟨rngD lo n, fun _ => True⟩ H1 := by
  have hl : (rngD lo n).length = n := by simp [rngD]
  refine ⟨fun i H hi _ => by show i < n; rw [← hl]; exact hi, fun H _ => by show n ≤ (rngD lo n).length; rw [hl]; exact Nat.le_refl _, fun i H x H' hi _ y => ?_⟩
  obtain ⟨rfl, rfl⟩ := y
  have hi' : i < n := by rw [← hl]; exact hi
  exact ⟨Kp.refl _, fun _ h => h, .int (lo + (i : Nat)), by simp [rngD, hi'], .int _⟩
def iRng1D (R : ItD → S → Prop) : List D → S → Prop
  | [.int j], s => -(2 ^ 62) ≤ j ∧ j < 2 ^ 62 ∧ R ⟨rngD 0 j.toNat, fun _ => True⟩ s
  | _, _ => False
theorem di_range1 {p : Pos} (hg : Gl X "range") (hm : X.mg "range" = none) (ha : DA X [a] t) (hs : starEach [a] X.env = [(false, eval a X.env)] := by rfl) : DI X tg (.Call (.Name "range" p) [a] [] pos) (fun σ s R => t σ s fun ds s1 => iRng1D R ds s1) :=
  PI.weaken (pi_range1 hg hm ha hs) fun σV H R h => by
    obtain ⟨σ, s, R', E, hs, q, k⟩ := h
    refine ⟨σ, s, _, E, hs, q, fun vs ds H1 s1 k1 r1 hs1 q1 => ?_⟩
    match ds, q1 with
    | [.int j], ⟨h1, h2, q1⟩ =>
      obtain ⟨v, rfl, r'⟩ := dats1 r1; cases datI r'
      exact ⟨j, rfl, h1, h2, k _ _ _ _ k1 hs1 q1 rel_rng⟩
def iRng2D (R : ItD → S → Prop) : List D → S → Prop
  | [.int i, .int j], s => (-(2 ^ 62) ≤ i ∧ i < 2 ^ 62 ∧ -(2 ^ 62) ≤ j ∧ j < 2 ^ 62) ∧ R ⟨rngD i (j - i).toNat, fun _ => True⟩ s
  | _, _ => False
theorem di_range2 {p : Pos} (hg : Gl X "range") (hm : X.mg "range" = none) (ha : DA X [a, b] t) (hs : starEach [a, b] X.env = [(false, eval a X.env), (false, eval b X.env)] := by rfl) (hs2 : starEach [b] X.env = [(false, eval b X.env)] := by rfl) :
    DI X tg (.Call (.Name "range" p) [a, b] [] pos) (fun σ s R => t σ s fun ds s1 => iRng2D R ds s1) :=
  PI.weaken (pi_range2 hg hm ha hs hs2) fun σV H R h => by
    obtain ⟨σ, s, R', E, hs, q, k⟩ := h
    refine ⟨σ, s, _, E, hs, q, fun vs ds H1 s1 k1 r1 hs1 q1 => ?_⟩
    match ds, q1 with
    | [.int i, .int j], ⟨h1, q1⟩ =>
      obtain ⟨v, w, rfl, r', r2⟩ := dats2 r1; cases datI r'; cases datI r2
      exact ⟨i, j, rfl, h1, k _ _ _ _ k1 hs1 q1 rel_rng⟩

/-! ### for, while -/
def forD (g : TDG) (tb : TDS) (G : S → Prop) (D : EndsD) : List DL.D → DS → S → Prop
  | [], σ, s => G s ∧ D.nx σ s
  | d :: r, σ, s => G s ∧ g d σ s fun σ1 s1 => tb { D with nx := forD g tb G D r, ct := forD g tb G D r, bk := D.nx } σ1 s1
def dFor (ti : TDI) (g : TDG) (tb : TDS) : TDS := fun D σ s => ti σ s fun J s1 => forD g tb J.G D J.ds σ s1
theorem forD_G {g : TDG} {tb : TDS} {G : S → Prop} {D : EndsD} {ds : List DL.D} {σ : DS} {s : S} (h : forD g tb G D ds σ s) : G s := by
  cases ds <;> exact h.1
theorem ds_for {iter : Expr} {body : List Stmt} {ti : TDI} {g : TDG} {sl : List Nat} {tS : TDS} (hp : PassesOwn (model X.prog X.w) X.A X.env X.xe) (hc : X.calm = true) (hi : DI X tg iter ti) (hg : DG X tg sl g) (hb : DSs X body tS)
    (hs : ∀ x, foldedSetIterable iter X.env x = pure x := by intro _; rfl) : DSt X (.For tg iter body [] pos) (dFor ti g tS) :=
  PS.weaken (ps_for hp hc hi hg hb hs) fun D σV H h => by
    obtain ⟨σ, s, D', E, hs, q, R⟩ := h
    refine ⟨σ, s, _, E, hs, q, fun J J' s1 H1 k1 hs1 q1 rel => ?_⟩
    refine for_it rel (fun i σV' H' => Kp H1 H' ∧ ∃ σ' s', EnvD H' σV' σ' ∧ HS H' s' ∧ forD g tS J'.G D' (J'.ds.drop i) σ' s') ?_ ?_ ?_ ?_
    · exact ⟨Kp.refl _, σ, s1, E.mono k1, hs1, by simpa using q1⟩
    · rintro i σV' H' _ ⟨kk, σ', s', E', hs', q'⟩
      exact ⟨kk, s', hs', forD_G q'⟩
    · rintro i x σV' H' H'' hi ⟨kk, σ', s', E', hs', q'⟩ ⟨ky, hy, d, hd, rd⟩
      have ed : J'.ds.drop i = d :: J'.ds.drop (i + 1) := by
        rw [List.drop_eq_getElem_cons hi]
        have : J'.ds[i] = d := by
          have := List.getElem?_eq_getElem hi
          rw [hd] at this
          exact (Option.some.inj this).symm
        rw [this]
      rw [ed] at q'
      refine ⟨d, σ', s', _, rd, E'.mono ky, hy s' hs', q'.2, fun σV2 σ2 H2 s2 k2 _ E2 hs2 q2 => ?_⟩
      have k3 := (k1.trans kk).trans (ky.trans k2)
      refine ⟨σ2, s2, _, E2, hs2, q2, ⟨fun a b H3 s3 k4 E3 hs3 q3 => ?_, fun v d H3 s3 k4 => R.rt v d H3 s3 (k3.trans k4), fun a b H3 s3 k4 => R.nx a b H3 s3 (k3.trans k4), fun a b H3 s3 k4 E3 hs3 q3 => ?_⟩⟩
      · exact ⟨((kk.trans (ky.trans k2)).trans k4), b, s3, E3, hs3, q3⟩
      · exact ⟨((kk.trans (ky.trans k2)).trans k4), b, s3, E3, hs3, q3⟩
    · rintro σV' H' ⟨kk, σ', s', E', hs', q'⟩
      rw [List.drop_length] at q'
      exact R.nx _ _ _ _ (k1.trans kk) E' hs' q'.2
def whileN (c : TDT) (tb : TDS) (D : EndsD) : Nat → DS → S → Prop
  | 0, _, _ => False
  | n + 1, σ, s => c σ s fun b s1 => if b = true then tb { D with nx := whileN c tb D n, ct := whileN c tb D n, bk := D.nx } σ s1 else D.nx σ s1
def dWhile (c : TDT) (tb : TDS) : TDS := fun D σ s => ∃ n, whileN c tb D n σ s
theorem ds_while {body : List Stmt} {tc : TDT} {tS : TDS} (hp : PassesOwn (model X.prog X.w) X.A X.env X.xe) (hc : DT X c tc) (hb : DSs X body tS) : DSt X (.While c body [] pos) (dWhile tc tS) :=
  PS.weaken (ps_while hp hc hb) fun D σV H h => by
    obtain ⟨σ, s, D', E, hs, ⟨n, q⟩, R⟩ := h
    refine ⟨fun m σV' H' => Kp H H' ∧ ∃ σ' s', EnvD H' σV' σ' ∧ HS H' s' ∧ whileN tc tS D' m σ' s', ⟨n, Kp.refl _, σ, s, E, hs, q⟩, ?_⟩
    rintro m σV' H' ⟨kk, σ', s', E', hs', q'⟩
    cases m with
    | zero => exact q'.elim
    | succ m =>
      refine ⟨σ', s', _, E', hs', q', fun b H1 s1 k1 hs1 q1 => ?_⟩
      cases b with
      | false => exact R.nx _ _ _ _ (kk.trans k1) (E'.mono k1) hs1 q1
      | true =>
        refine ⟨fun σV2 H2 => Kp H H2 ∧ ∃ σ2 s2, EnvD H2 σV2 σ2 ∧ HS H2 s2 ∧ whileN tc tS D' m σ2 s2, fun σV2 H2 w => ⟨m, Nat.lt_succ_self m, w⟩, ?_⟩
        refine ⟨σ', s1, _, E'.mono k1, hs1, q1, ⟨fun a b H3 s3 k4 E3 hs3 q3 => ⟨(kk.trans k1).trans k4, b, s3, E3, hs3, q3⟩, fun v d H3 s3 k4 => R.rt v d H3 s3 ((kk.trans k1).trans k4), fun a b H3 s3 k4 => R.nx a b H3 s3 ((kk.trans k1).trans k4),
          fun a b H3 s3 k4 E3 hs3 q3 => ⟨(kk.trans k1).trans k4, b, s3, E3, hs3, q3⟩⟩⟩

/-! ### list comprehensions -/
def wipeD (σ : DS) : List Nat → DS
  | [] => σ
  | v :: vs => (wipeD σ vs).set v none
theorem EnvD.wipe {H : Hp} {σV : L2.St} {σ : DS} (E : EnvD H σV σ) : ∀ vs, EnvD H (L2.wipe σV vs) (wipeD σ vs)
  | [] => E
  | v :: vs => (EnvD.wipe E vs).forget v
theorem wipe_get (σ : L2.St) : ∀ (vs : List Nat) (i : Nat), (L2.wipe σ vs)[i]? = if i ∈ vs then (σ[i]?).map (fun _ => none) else σ[i]?
  | [], i => by simp [L2.wipe]
  | v :: vs, i => by
    show ((L2.wipe σ vs).set v none)[i]? = _
    by_cases h : v = i
    · subst h
      rw [if_pos List.mem_cons_self]
      by_cases hv : v < σ.length
      · rw [List.getElem?_set_self (by rw [wipe_length]; exact hv), List.getElem?_eq_getElem hv]; rfl
      · rw [List.getElem?_eq_none (by rw [List.length_set, wipe_length]; omega), List.getElem?_eq_none (by omega)]; rfl
    · rw [List.getElem?_set_ne h, wipe_get σ vs i]
      by_cases h2 : i ∈ vs
      · rw [if_pos h2, if_pos (List.mem_cons_of_mem _ h2)]
      · rw [if_neg h2, if_neg (by simp only [List.mem_cons, not_or]; exact ⟨fun z => h z.symm, h2⟩)]
theorem wipe_off {σ σ2 : L2.St} {sl vs : List Nat} (o : Off sl (L2.wipe σ vs) σ2) (hsub : ∀ i ∈ sl, i ∈ vs) : L2.wipe σ2 vs = L2.wipe σ vs := by
  apply List.ext_getElem?
  intro i
  rw [wipe_get σ2]
  by_cases h : i ∈ vs
  · rw [if_pos h, wipe_get σ, if_pos h]
    have hl : σ2.length = σ.length := by rw [o.1, wipe_length]
    by_cases hi : i < σ.length
    · rw [List.getElem?_eq_getElem (by omega), List.getElem?_eq_getElem hi]; rfl
    · rw [List.getElem?_eq_none (by omega), List.getElem?_eq_none (by omega)]
  · rw [if_neg h, o.2 i fun z => h (hsub i z)]
abbrev DTs (X : Cx) (ifs : List Expr) (t : TDT) : Prop := PTs X ifs (upT t)
theorem PTs.weaken {X : Cx} {e : List Expr} {t t' : TT} (h : PTs X e t) (w : ∀ σ H Q, t' σ H Q → t σ H Q) : PTs X e t' := ⟨fun pins s σ H Q I q => h.run pins s σ H Q I (w _ _ _ q)⟩
def dYes : TDT := fun _ s Q => Q true s
theorem dts_nil : DTs X [] dYes := PTs.weaken pts_nil fun σV H Q h => by
  obtain ⟨σ, s, Q', E, hs, q, k⟩ := h
  exact k _ _ _ (Kp.refl H) hs q
theorem dts_one {tT : TDT} (h : DT X c tT) : DTs X [c] tT := pts_one h
def lcD (g : TDG) (tt : TDT) (te : TD) (G : S → Prop) (σ : DS) (p : Addr) (Q : S → Prop) : List D → S → Prop
  | [], s => G s ∧ Q s
  | d :: r, s => G s ∧ g d σ s fun σ1 s1 => tt σ1 s1 fun b s2 => if b = true then te σ1 s2 fun y s3 => ∃ acc, s3 p = some (.lst acc) ∧ acc.length < sizeLine ∧ lcD g tt te G σ p Q r (s3.set p (.lst (acc ++ [y]))) else lcD g tt te G σ p Q r s2
def dLc (ti : TDI) (g : TDG) (tt : TDT) (te : TD) (vs : List Nat) : TD := fun σ s Q => ti σ s fun J s1 => ∀ p, s1 p = none → lcD g tt te J.G (wipeD σ vs) p (Q (.ref p)) J.ds (s1.set p (.lst []))
theorem lcD_G {g : TDG} {tt : TDT} {te : TD} {G : S → Prop} {σ : DS} {p : Addr} {Q : S → Prop} {ds : List D} {s : S} (h : lcD g tt te G σ p Q ds s) : G s := by
  cases ds <;> exact h.1
theorem lift_lc {ti : TDI} {g : TDG} {tt : TDT} {vs sl : List Nat} (hsub : ∀ i ∈ sl, i ∈ vs) : ∀ σV H Q, upE (dLc ti g tt te vs) σV H Q → tLc (upI ti) (upG sl g) (upT tt) (upE te) vs σV H Q := fun σV H Q h => by
  obtain ⟨σ, s, Q', E, hs, q, k⟩ := h
  refine ⟨σ, s, _, E, hs, q, fun J J' s1 H1 k1 hs1 q1 rel => fun D hD => ?_⟩
  have q2 := q1 D (hs1.none hD)
  have kd : Kp H1 (upd H1 D (.lst [])) := Kp.alloc hD
  refine lc_it rel (fun i H' => Kp H1 H' ∧ ∃ s', HS H' s' ∧ lcD g tt te J'.G (wipeD σ vs) D (Q' (.ref D)) (J'.ds.drop i) s') ?_ ?_ ?_ ?_
  · exact ⟨kd, _, hs1.laidL hD .nil, by simpa using q2⟩
  · rintro i H' _ ⟨kk, s', hs', q'⟩
    exact ⟨kk, s', hs', lcD_G q'⟩
  · rintro i x H' H'' hi ⟨kk, s', hs', q'⟩ ⟨ky, hy, d, hd, rd⟩
    have ed : J'.ds.drop i = d :: J'.ds.drop (i + 1) := by
      rw [List.drop_eq_getElem_cons hi]
      have : J'.ds[i] = d := by
        have := List.getElem?_eq_getElem hi
        rw [hd] at this
        exact (Option.some.inj this).symm
      rw [this]
    rw [ed] at q'
    have E0 : EnvD H'' (L2.wipe σV vs) (wipeD σ vs) := ((E.mono k1).wipe vs).mono (kk.trans ky)
    refine ⟨d, wipeD σ vs, s', _, rd, E0, hy s' hs', q'.2, fun σV2 σ2 H2 s2 k2 o2 E2 hs2 q2 => ⟨wipe_off o2 hsub, ?_⟩⟩
    refine ⟨σ2, s2, _, E2, hs2, q2, fun b H3 s3 k3 hs3 q3 => ?_⟩
    have k4 := (kk.trans ky).trans (k2.trans k3)
    cases b with
    | false => exact ⟨k4, s3, hs3, q3⟩
    | true =>
      refine ⟨σ2, s3, _, E2.mono k3, hs3, q3, fun y f H5 s5 k5 r5 hs5 q5 => ?_⟩
      obtain ⟨acc, ea, hl, q5⟩ := q5
      obtain ⟨us, e5, t5⟩ := hs5 _ _ ea
      obtain ⟨w1, w2⟩ := hs5.writeL e5 (t5.append (.cons r5 .nil))
      exact ⟨us, e5, by rw [t5.length]; exact hl, (k4.trans k5).trans w2, _, w1, q5⟩
  · rintro H' ⟨kk, s', hs', q'⟩
    rw [List.drop_length] at q'
    exact k _ _ _ _ (k1.trans kk) (.ref D) hs' q'.2
theorem de_lc {iter : Expr} {ifs : List Expr} {scope : Scope} {own : List (Str × Nat)} {ti : TDI} {g : TDG} {sl : List Nat} {tt : TDT} (hc : X.calm = true) (hN : X.N.Nodup) (hi : DI X tg iter ti) (ok : BlkOk X.N X.env.scope scope own)
    (hg : ∀ (s : Shared) (H : Hp) (C : Addr) (cl : List (Str × Addr)) (fp : List Addr), DG (X.blk s H scope (compEnvC scope cl C X.env) fp) tg sl g) (ht : ∀ (s : Shared) (H : Hp) (C : Addr) (cl : List (Str × Addr)) (fp : List Addr), DTs (X.blk s H scope (compEnvC scope cl C X.env) fp) ifs tt)
    (he : ∀ (s : Shared) (H : Hp) (C : Addr) (cl : List (Str × Addr)) (fp : List Addr), DE (X.blk s H scope (compEnvC scope cl C X.env) fp) e te) (hsub : ∀ i ∈ sl, i ∈ own.map (·.2) := by decide) (hs : ∀ x, foldedSetIterable iter X.env x = pure x := by intro _; rfl) :
    DE X (.ListComp e [⟨tg, iter, ifs, 0⟩] scope pos) (dLc ti g tt te (own.map (·.2))) :=
  PE.weaken (pe_lc hc hN hi ok hg ht he hs) (lift_lc hsub)
theorem ds_setLc {i : Nat} {y : Str} {py : Pos} {iter : Expr} {ifs : List Expr} {scope : Scope} {own : List (Str × Nat)} {spos : Pos} {ti : TDI} {g : TDG} {sl : List Nat} {tt : TDT} (hc : X.calm = true) (hN : X.N.Nodup) (hy : X.N[i]? = some y) (hyl : X.env.scope.names.lookup y = some .local)
    (hsw : swapsWith (.ListComp e [⟨tg, iter, ifs, 0⟩] scope pos) (some (.Name y py)) spos.line X.env = pure true) (hi : DI X tg iter ti) (ok : BlkOk X.N X.env.scope scope own)
    (hg : ∀ (s : Shared) (H : Hp) (C : Addr) (cl : List (Str × Addr)) (fp : List Addr), DG (X.blk s H scope (compEnvC scope cl C X.env) fp) tg sl g) (ht : ∀ (s : Shared) (H : Hp) (C : Addr) (cl : List (Str × Addr)) (fp : List Addr), DTs (X.blk s H scope (compEnvC scope cl C X.env) fp) ifs tt)
    (he : ∀ (s : Shared) (H : Hp) (C : Addr) (cl : List (Str × Addr)) (fp : List Addr), DE (X.blk s H scope (compEnvC scope cl C X.env) fp) e te) (hsub : ∀ i ∈ sl, i ∈ own.map (·.2) := by decide) (hs : ∀ x, foldedSetIterable iter X.env x = pure x := by intro _; rfl) :
    DSt X (.Assign [.Name y py] (.ListComp e [⟨tg, iter, ifs, 0⟩] scope pos) spos) (dAsg (dLc ti g tt te (own.map (·.2))) (dgName i)) :=
  PS.weaken (ps_setLc hc hN hy hyl hsw hi ok hg ht he hs) fun D σV H h => by
    obtain ⟨σ, s, D', E, hs, q, R⟩ := h
    refine lift_lc hsub σV H _ ⟨σ, s, _, E, hs, q, fun v d H1 s1 k1 r1 hs1 q1 => ?_⟩
    exact R.nx _ _ _ _ k1 ((E.mono k1).set i r1) hs1 q1
/-- a, b = x, y -/
def dPar (i j : Nat) (t : TDA) : TDS := fun D σ s => t σ s fun ds s1 => ∃ d f, ds = [d, f] ∧ D.nx ((σ.set i (some d)).set j (some f)) s1
theorem ds_par {i j : Nat} {x y : Str} {px py pt pt2 : Pos} {kt k2 : Nat} (hc : X.calm = true) (hN : X.N.Nodup) (hi : X.N[i]? = some x) (hj : X.N[j]? = some y) (hij : i ≠ j)
    (hx : X.env.scope.names.lookup x = some .local) (hy : X.env.scope.names.lookup y = some .local) (ha : DA X [a, b] t)
    (hw : swappedStores [.Tuple [.Name x px, .Name y py] kt pt] (.Tuple [a, b] k2 pt2) X.env = pure (some [x, y]))
    (hs : swapsWithSole [.Tuple [.Name x px, .Name y py] kt pt] (.Tuple [a, b] k2 pt2) pos.line X.env = pure false := by rfl) : DSt X (.Assign [.Tuple [.Name x px, .Name y py] kt pt] (.Tuple [a, b] k2 pt2) pos) (dPar i j t) :=
  PS.weaken (ps_par hc hN hi hj hij hx hy ha hw hs) fun D σV H h => by
    obtain ⟨σ, s, D', E, hs, q, R⟩ := h
    refine ⟨σ, s, _, E, hs, q, fun vs ds H1 s1 k1 r1 hs1 q1 => ?_⟩
    obtain ⟨d, f, rfl, q1⟩ := q1
    obtain ⟨v, w, rfl, r', r2⟩ := dats2 r1
    exact ⟨v, w, rfl, R.nx _ _ _ _ k1 (((E.mono k1).set i r').set j r2) hs1 q1⟩
end DL

set_option maxHeartbeats 4000000
namespace DL
open PySem PySem.Spec L2
/-- what is known of the top -/
structure Top (fa : List He.Fa) (fn : List He.DefD) (K : PySem.W.Frag) (mg : Str → Option Value) : Prop where
  ex : ∃ h : Heap, K.In h ∧ h.Ns mainGlobals mg ∧ He.SaysD fa fn K
section
variable {fa : List He.Fa} {fn : List He.DefD} {K : PySem.W.Frag} {mg : Str → Option Value}
theorem Top.def_ (T : Top fa fn K mg) (i j : Nat) {d : He.DefD} (h : fn[i]? = some d) (h' : fa[j]? = some (.glo d.name)) (e : d.at_ = (d.name, none)) :
    ∃ f fd, FunD K d.name d.qual d.params d.body d.scope (d.dvs K) (d.kws K) f fd ∧ mg d.name = some (.ref f) := by
  obtain ⟨hp, X, G, c⟩ := T.ex
  obtain ⟨fd, F⟩ := c.def_ i h
  have g := He.glo_ok X G (c.fact j h')
  have e2 : He.fAd K d.at_ = He.ga K d.name := by rw [e]; rfl
  rw [e2] at F
  exact ⟨_, fd, F, g⟩
theorem Top.free (T : Top fa fn K mg) (j : Nat) {x : Str} (h' : fa[j]? = some (.free x)) : mg x = none := by
  obtain ⟨hp, X, G, c⟩ := T.ex
  exact He.free_ok X G (c.fact j h')
theorem Top.int (T : Top fa fn K mg) (j : Nat) {x : Str} {i : Int} (h' : fa[j]? = some (.int x i)) : ∃ t, mg x = some (.int i t) := by
  obtain ⟨hp, X, G, c⟩ := T.ex
  exact He.int_ok X G (c.fact j h')
theorem Top.str (T : Top fa fn K mg) (j : Nat) {x z : Str} (h' : fa[j]? = some (.str x z)) : ∃ t, mg x = some (.str z t) := by
  obtain ⟨hp, X, G, c⟩ := T.ex
  exact He.str_ok X G (c.fact j h')
end
end DL

set_option maxHeartbeats 4000000
namespace DL
open PySem PySem.Spec L2
/-- a def that changes nothing and hands back f of its arguments, where pre holds -/
def spP (pre : List D → Prop) (f : List D → D) : DSp := fun ds s Q => pre ds ∧ Q (f ds) s
theorem size_small {n : Nat} (h : n ≤ 1000000) : n ≤ sizeLine := Nat.le_trans h (by decide)
theorem size_small' {n : Nat} (h : n ≤ 1000000) : n < sizeLine := Nat.lt_of_le_of_lt h (by decide)
@[simp] theorem size0 : (0 ≤ sizeLine) = True := by simp
@[simp] theorem size1 : (1 ≤ sizeLine) = True := by simp; decide
@[simp] theorem size2 : (2 ≤ sizeLine) = True := by simp; decide
@[simp] theorem size3 : (3 ≤ sizeLine) = True := by simp; decide
@[simp] theorem size4 : (4 ≤ sizeLine) = True := by simp; decide
@[simp] theorem size5 : (5 ≤ sizeLine) = True := by simp; decide
theorem sizel0 : (0 < sizeLine) = True := eq_true (by decide)
theorem sizel1 : (1 < sizeLine) = True := eq_true (by decide)
theorem sizel2 : (2 < sizeLine) = True := eq_true (by decide)
theorem sizel3 : (3 < sizeLine) = True := eq_true (by decide)
theorem sizel4 : (4 < sizeLine) = True := eq_true (by decide)
theorem sizel5 : (5 < sizeLine) = True := eq_true (by decide)
theorem sizel6 : (6 < sizeLine) = True := eq_true (by decide)
theorem sizel7 : (7 < sizeLine) = True := eq_true (by decide)
theorem size6 : (6 ≤ sizeLine) = True := eq_true (by decide)
theorem size7 : (7 ≤ sizeLine) = True := eq_true (by decide)
theorem size8 : (8 ≤ sizeLine) = True := eq_true (by decide)
@[simp] theorem atI_0 {α : Type} {x : α} {xs : List α} : L2.atI (x :: xs) 0 = some x := by simp [L2.atI, L2.ixN]
@[simp] theorem atI_1 {α : Type} {x y : α} {xs : List α} : L2.atI (x :: y :: xs) 1 = some y := by
  have h : L2.ixN (x :: y :: xs).length 1 = some 1 := by
    unfold L2.ixN; rw [if_pos (by decide), if_pos (by simp only [List.length_cons]; omega)]; rfl
  unfold L2.atI; rw [h]; rfl
theorem atI_nat' {α : Type} {xs : List α} {i : Nat} {x : α} (h : xs[i]? = some x) : L2.atI xs (i : Int) = some x := by
  have hi : i < xs.length := by
    rcases Nat.lt_or_ge i xs.length with q | q
    · exact q
    · rw [List.getElem?_eq_none q] at h; cases h
  have e : L2.ixN xs.length (i : Int) = some i := by
    unfold L2.ixN; rw [if_pos (by omega), if_pos (by omega)]; simp
  unfold L2.atI; rw [e]; exact h
theorem mul_ok {i j : Int} {n : Nat} (h1 : i.natAbs < 2 ^ n) (h2 : j.natAbs < 2 ^ n) (hn : 0 < n) (h : n ≤ 1000000) : CMulD i j := by
  have x := PySem.Flt.log2_lt_of hn h1
  have y := PySem.Flt.log2_lt_of hn h2
  exact .inr (by omega)
theorem mul_okl {i j : Int} (h : i.natAbs < 2 ^ 64) : CMulD i j := .inl (.inl h)
theorem mul_okr {i j : Int} (h : j.natAbs < 2 ^ 64) : CMulD i j := .inl (.inr h)
theorem div_ok {i j : Int} {n : Nat} (h0 : j ≠ 0) (h : j.natAbs < 2 ^ n) (hn : 0 < n) (h9 : n ≤ 9000) : CDivD i j := ⟨h0, Nat.lt_of_lt_of_le (PySem.Flt.log2_lt_of hn h) h9⟩
theorem div_okc {i j : Int} (h0 : 0 < j) (h : j < 2 ^ 64) : CDivD i j := div_ok (n := 64) (by omega) (by omega) (by decide) (by decide)
theorem fin {Q : QD} {d : D} {s : S} (q : Q d s) : ∃ s'', Sub s'' s ∧ Q d s'' := ⟨s, Sub.refl s, q⟩
theorem finS {Q : QD} {d : D} {s s' : S} (u : Sub s' s) (q : Q d s') : ∃ s'', Sub s'' s ∧ Q d s'' := ⟨s', u, q⟩

/-! ### the jar of draws -/
def Fr (j : Addr) (s s' : S) : Prop := ∀ b, b ≠ j → s' b = s b
theorem Fr.refl (j : Addr) (s : S) : Fr j s s := fun _ _ => rfl
theorem Fr.trans {j : Addr} {s s1 s2 : S} (a : Fr j s s1) (b : Fr j s1 s2) : Fr j s s2 := fun p h => (b p h).trans (a p h)
theorem Fr.set {j : Addr} {s : S} {c : C} : Fr j s (s.set j c) := fun p h => S.set_ne h
/-- a jar: its dict at j, its list of cells at c, n more draws -/
structure Jar (s : S) (j c : Addr) (n : Nat) : Prop where
  ex : ∃ (a t k : Int) (ns : List Int), s j = some (.dic [(.inr "cells", .ref c), (.inr "at", .int a), (.inr "turn", .int t), (.inr "stock", .int k)]) ∧ 0 ≤ a ∧ 0 ≤ t ∧ t + (n : Int) ≤ 1000000000000 ∧ 0 ≤ k ∧ s c = some (.lst (ns.map .int)) ∧ ns.length ≤ 63
  ne : c ≠ j
theorem Jar.mono {s : S} {j c : Addr} {m n : Nat} (h : Jar s j c n) (l : m ≤ n) : Jar s j c m := by
  obtain ⟨⟨a, t, k, ns, h1, h2, h3, h4, h5⟩, h6⟩ := h
  exact ⟨⟨a, t, k, ns, h1, h2, h3, by omega, h5⟩, h6⟩
theorem Jar.fresh {s : S} {j c p : Addr} {n : Nat} (h : Jar s j c n) (e : s p = none) : p ≠ j ∧ p ≠ c := by
  obtain ⟨⟨a, t, k, ns, h1, _, _, _, _, h2, _⟩, _⟩ := h
  exact ⟨(fun z => by rw [z, h1] at e; cases e), (fun z => by rw [z, h2] at e; cases e)⟩
theorem Jar.set {s : S} {j c p : Addr} {n : Nat} {x : C} (h : Jar s j c n) (h1 : p ≠ j) (h2 : p ≠ c) : Jar (s.set p x) j c n := by
  obtain ⟨⟨a, t, k, ns, e1, b1, b2, b3, b4, e2, b5⟩, ne⟩ := h
  exact ⟨⟨a, t, k, ns, by rw [S.set_ne h1.symm]; exact e1, b1, b2, b3, b4, by rw [S.set_ne h2.symm]; exact e2, b5⟩, ne⟩
theorem Jar.del {s : S} {j c p : Addr} {n : Nat} (h : Jar s j c n) (h1 : p ≠ j) (h2 : p ≠ c) : Jar (s.del p) j c n := by
  obtain ⟨⟨a, t, k, ns, e1, b1, b2, b3, b4, e2, b5⟩, ne⟩ := h
  exact ⟨⟨a, t, k, ns, (if_neg h1.symm).trans e1, b1, b2, b3, b4, (if_neg h2.symm).trans e2, b5⟩, ne⟩
def sp_draw : DSp := fun ds s Q => ∃ j c n m, ds = [.ref j, .int m] ∧ 0 < m ∧ m < 2 ^ 64 ∧ Jar s j c (n + 1) ∧ ∀ r s', 0 ≤ r → r < m → Fr j s s' → Jar s' j c n → Q (.int r) s'
end DL

set_option maxHeartbeats 4000000
namespace DL
open PySem
/-- the jar's dict -/
abbrev jd (c : Addr) (a t k : Int) : List (L2.Key × D) := [(.inr "cells", .ref c), (.inr "at", .int a), (.inr "turn", .int t), (.inr "stock", .int k)]
section
variable {c : Addr} {a t k : Int} {d : D}
theorem ca_ : ¬ (("cells" : Str) = "at") := by decide +kernel
theorem ct_ : ¬ (("cells" : Str) = "turn") := by decide +kernel
theorem ck_ : ¬ (("cells" : Str) = "stock") := by decide +kernel
theorem at_ : ¬ (("at" : Str) = "turn") := by decide +kernel
theorem ak_ : ¬ (("at" : Str) = "stock") := by decide +kernel
theorem tk_ : ¬ (("turn" : Str) = "stock") := by decide +kernel
theorem jd_cells : valD (jd c a t k) (.inr "cells") = some (.ref c) := by simp [valD, jd, List.find?_cons]
theorem jd_at : valD (jd c a t k) (.inr "at") = some (.int a) := by simp [valD, jd, List.find?_cons, ca_]
theorem jd_turn : valD (jd c a t k) (.inr "turn") = some (.int t) := by simp [valD, jd, List.find?_cons, ct_, at_]
theorem jd_stock : valD (jd c a t k) (.inr "stock") = some (.int k) := by simp [valD, jd, List.find?_cons, ck_, ak_, tk_]
theorem jp_at {v : Int} : putD (jd c a t k) (.inr "at") (.int v) = jd c v t k := by simp [putD, jd, ca_, Ne.symm at_, Ne.symm ak_]
theorem jp_turn {v : Int} : putD (jd c a t k) (.inr "turn") (.int v) = jd c a v k := by simp [putD, jd, ct_, at_, Ne.symm tk_]
theorem jp_stock {v : Int} : putD (jd c a t k) (.inr "stock") (.int v) = jd c a t v := by simp [putD, jd, ck_, ak_, tk_]
theorem jd_fold {x : D} {a t k : Int} : List.foldl (fun acc (kv : L2.Key × D) => putD acc kv.1 kv.2) [] [(.inr "cells", x), (.inr "at", .int a), (.inr "turn", .int t), (.inr "stock", .int k)] = [(.inr "cells", x), (.inr "at", .int a), (.inr "turn", .int t), (.inr "stock", .int k)] := by
  simp [putD, ca_, ct_, ck_, at_, ak_, tk_]
theorem jd_len : ((jd c a t k).length < PySem.sizeLine) = True := eq_true (show 4 < PySem.sizeLine by decide)
end
end DL

set_option maxHeartbeats 4000000
namespace DL
open PySem
section
variable {i j : Int} {x y : Str} {b b2 : Bool} {xs ys : List D} {l m p : Addr} {s : S} {Q : QD} {k : Bool → Bool} {T : Cl} {R : ItD → S → Prop} {QB : Bool → S → Prop}
theorem rAdd_i : rAdd (.int i) (.int j) s Q = Q (.int (i + j)) s := rfl
theorem rAdd_s : rAdd (.str x) (.str y) s Q = (x.length + y.length ≤ sizeLine ∧ Q (.str (x ++ y)) s) := rfl
theorem rAdd_t : rAdd (.tup xs) (.tup ys) s Q = (xs.length + ys.length ≤ sizeLine ∧ Q (.tup (xs ++ ys)) s) := rfl
theorem rAdd_l : rAdd (.ref l) (.ref m) s Q = ∃ xs ys, s l = some (.lst xs) ∧ s m = some (.lst ys) ∧ xs.length + ys.length ≤ sizeLine ∧ ∀ p, s p = none → Q (.ref p) (s.set p (.lst (xs ++ ys))) := rfl
theorem rIAdd_i : rIAdd (.int i) (.int j) s Q = Q (.int (i + j)) s := rfl
theorem rIAdd_s : rIAdd (.str x) (.str y) s Q = (x.length + y.length ≤ sizeLine ∧ Q (.str (x ++ y)) s) := rfl
theorem rIAdd_l : rIAdd (.ref l) (.ref m) s Q = ∃ xs ys, s l = some (.lst xs) ∧ s m = some (.lst ys) ∧ xs.length + ys.length ≤ sizeLine ∧ Q (.ref l) (s.set l (.lst (xs ++ ys))) := rfl
theorem rSub_i : rSub (.int i) (.int j) s Q = Q (.int (i - j)) s := rfl
theorem rMul_i : rMul (.int i) (.int j) s Q = (CMulD i j ∧ Q (.int (i * j)) s) := rfl
theorem rMul_l : rMul (.ref l) (.int j) s Q = ∃ xs, s l = some (.lst xs) ∧ -(2 ^ 63) ≤ j ∧ j < 2 ^ 63 ∧ xs.length * j.toNat ≤ sizeLine ∧ ∀ p, s p = none → Q (.ref p) (s.set p (.lst (List.replicate j.toNat xs).flatten)) := rfl
theorem rFdiv_i : rFdiv (.int i) (.int j) s Q = (CDivD i j ∧ Q (.int (i.fdiv j)) s) := rfl
theorem rMod_i : rMod (.int i) (.int j) s Q = (j ≠ 0 ∧ Q (.int (i.fmod j)) s) := rfl
theorem rPow_i : rPow (.int i) (.int j) s Q = (L2.CPow i j ∧ Q (.int (i ^ j.toNat)) s) := rfl
theorem rNeg_i : rNeg (.int i) s Q = Q (.int (-i)) s := rfl
theorem rEq_ii : rEqD k (.int i) (.int j) s Q = Q (.bl (k (decide (i = j)))) s := rfl
theorem rEq_ss : rEqD k (.str x) (.str y) s Q = Q (.bl (k (decide (x = y)))) s := rfl
theorem rEq_ns : rEqD k .non (.str y) s Q = Q (.bl (k false)) s := rfl
theorem rEq_sn : rEqD k (.str x) .non s Q = Q (.bl (k false)) s := rfl
theorem rEq_is : rEqD k (.int i) (.str y) s Q = Q (.bl (k false)) s := rfl
theorem rEq_si : rEqD k (.str x) (.int j) s Q = Q (.bl (k false)) s := rfl
theorem rEq_bs : rEqD k (.bl b) (.str y) s Q = Q (.bl (k false)) s := rfl
theorem rEq_sb : rEqD k (.str x) (.bl b) s Q = Q (.bl (k false)) s := rfl
theorem rEq_bb : rEqD k (.bl b) (.bl b2) s Q = Q (.bl (k (b == b2))) s := by
  show (D.fine (.bl b) = true ∧ D.fine (.bl b2) = true ∧ Q (.bl (k (D.eqv (.bl b) (.bl b2)))) s) = _
  simp [D.fine, D.ok, D.dep, D.eqv]
theorem rEq_nn : rEqD k .non .non s Q = Q (.bl (k true)) s := by
  show (D.fine .non = true ∧ D.fine .non = true ∧ Q (.bl (k (D.eqv .non .non))) s) = _
  simp [D.fine, D.ok, D.dep, D.eqv]
theorem rEq_tt : rEqD k (.tup xs) (.tup ys) s Q = (D.fine (.tup xs) = true ∧ D.fine (.tup ys) = true ∧ Q (.bl (k (D.eqv (.tup xs) (.tup ys)))) s) := rfl
theorem rEq_nt : rEqD k .non (.tup ys) s Q = (D.fine (.tup ys) = true ∧ Q (.bl (k false)) s) := by
  show (D.fine .non = true ∧ D.fine (.tup ys) = true ∧ Q (.bl (k (D.eqv .non (.tup ys)))) s) = _
  simp [D.fine, D.ok, D.dep, D.eqv]
theorem rEq_tn : rEqD k (.tup xs) .non s Q = (D.fine (.tup xs) = true ∧ Q (.bl (k false)) s) := by
  show (D.fine (.tup xs) = true ∧ D.fine .non = true ∧ Q (.bl (k (D.eqv (.tup xs) .non))) s) = _
  simp [D.fine, D.ok, D.dep, D.eqv]
theorem rLt_i : rLt (.int i) (.int j) s Q = Q (.bl (decide (i < j))) s := rfl
theorem rGt_i : rGt (.int i) (.int j) s Q = Q (.bl (decide (j < i))) s := rfl
theorem rLe_i : rLe (.int i) (.int j) s Q = Q (.bl (decide (i ≤ j))) s := rfl
theorem rGe_i : rGe (.int i) (.int j) s Q = Q (.bl (decide (j ≤ i))) s := rfl
theorem rLe_s : rLe (.str x) (.str y) s Q = Q (.bl (!decide (y.cps.toList < x.cps.toList))) s := rfl
theorem rLt_s : rLt (.str x) (.str y) s Q = Q (.bl (decide (x.cps.toList < y.cps.toList))) s := rfl
theorem rIs_nn : rIs k .non .non s Q = Q (.bl (k true)) s := rfl
theorem rIs_bb : rIs k (.bl b) (.bl b2) s Q = Q (.bl (k (decide (b = b2)))) s := rfl
theorem rIs_in : rIs k (.int i) .non s Q = Q (.bl (k false)) s := rfl
theorem rIs_sn : rIs k (.str x) .non s Q = Q (.bl (k false)) s := rfl
theorem rIs_bn : rIs k (.bl b) .non s Q = Q (.bl (k false)) s := rfl
theorem rIs_rn : rIs k (.ref p) .non s Q = Q (.bl (k false)) s := rfl
theorem rIs_tn : rIs k (.tup xs) .non s Q = Q (.bl (k false)) s := rfl
theorem rTru_n : rTru .non s QB = QB false s := rfl
theorem rTru_b : rTru (.bl b) s QB = QB b s := rfl
theorem rTru_i : rTru (.int i) s QB = QB (i != 0) s := rfl
theorem rTru_s : rTru (.str x) s QB = (x.length ≤ sizeLine ∧ QB ((x.length : Int) != 0) s) := rfl
theorem rTru_t : rTru (.tup xs) s QB = QB (!xs.isEmpty) s := rfl
theorem rTru_l : rTru (.ref p) s QB = ∃ ds, s p = some (.lst ds) ∧ QB (!ds.isEmpty) s := rfl
theorem rIx_t : rIxD (.tup xs) (.int i) s Q = ∃ d, L2.atI xs i = some d ∧ Q d s := rfl
theorem rIx_l : rIxD (.ref p) (.int i) s Q = ∃ ds d, s p = some (.lst ds) ∧ L2.atI ds i = some d ∧ Q d s := rfl
theorem rIx_s : rIxD (.str x) (.int i) s Q = (x.length ≤ sizeLine ∧ ∃ c, L2.atI x.cps.toList i = some c ∧ Q (.str ⟨#[c]⟩) s) := rfl
theorem rLen_s : rLenD [.str x] s Q = (x.length ≤ sizeLine ∧ Q (.int x.length) s) := rfl
theorem rLen_t : rLenD [.tup xs] s Q = Q (.int xs.length) s := rfl
theorem rLen_l : rLenD [.ref p] s Q = ∃ n, lenOf (s p) = some n ∧ Q (.int (n : Nat)) s := rfl
theorem lenOf_l : lenOf (some (.lst xs)) = some xs.length := rfl
theorem lenOf_d {kvs : List (L2.Key × D)} : lenOf (some (.dic kvs)) = some kvs.length := rfl
theorem rAbs_i : rAbs [.int i] s Q = Q (.int (i.natAbs : Int)) s := by
  have e : (if i < 0 then -i else i) = (i.natAbs : Int) := by split <;> omega
  show Q (.int (if i < 0 then -i else i)) s = _
  rw [e]
theorem rInt_i : rIntOf [.int i] s Q = Q (.int i) s := rfl
theorem rStr_i : rStrOf [.int i] s Q = (i.natAbs.log2 < 1920 ∧ Q (.str (toString i)) s) := rfl
theorem rMax_i : rMax [.int i, .int j] s Q = Q (.int (if j > i then j else i)) s := rfl
theorem rMin_i : rMin [.int i, .int j] s Q = Q (.int (if j < i then j else i)) s := rfl
theorem rTupOf_l : rTupOf [.ref p] s Q = ∃ ds, s p = some (.lst ds) ∧ Q (.tup ds) s := rfl
theorem rTupOf_t : rTupOf [.tup xs] s Q = Q (.tup xs) s := rfl
theorem rListOf_l : rListOf [.ref p] s Q = ∃ ds, s p = some (.lst ds) ∧ ∀ l, s l = none → Q (.ref l) (s.set l (.lst ds)) := rfl
theorem rListOf_t : rListOf [.tup xs] s Q = ∀ l, s l = none → Q (.ref l) (s.set l (.lst xs)) := rfl
theorem rAll_l : rAllD [.ref p] s Q = ∃ bs : List Bool, s p = some (.lst (bs.map D.bl)) ∧ Q (.bl (bs.all id)) s := rfl
theorem rAny_l : rAnyD [.ref p] s Q = ∃ bs : List Bool, s p = some (.lst (bs.map D.bl)) ∧ Q (.bl (bs.any id)) s := rfl
theorem rSum_l : rSumD [.ref p] s Q = ∃ ns : List Int, s p = some (.lst (ns.map D.int)) ∧ Q (.int ns.sum) s := rfl
theorem rIsi_r : rIsi T (.ref p) s Q = ∃ c, s p = some c ∧ Q (.bl (isCc T c)) s := rfl
theorem rIsi_n : rIsi T .non s Q = Q (.bl (isC T .non)) s := rfl
theorem rIsi_b : rIsi T (.bl b) s Q = Q (.bl (isC T (.bl b))) s := rfl
theorem rIsi_i : rIsi T (.int i) s Q = Q (.bl (isC T (.int i))) s := rfl
theorem rIsi_s : rIsi T (.str x) s Q = Q (.bl (isC T (.str x))) s := rfl
theorem rIsi_t : rIsi T (.tup xs) s Q = Q (.bl (isC T (.tup xs))) s := rfl
theorem iD_t : iD R (.tup xs) s = R ⟨xs, fun _ => True⟩ s := rfl
theorem iD_s : iD R (.str x) s = R ⟨signs x, fun _ => True⟩ s := rfl
theorem iD_l : iD R (.ref p) s = ∃ ds, s p = some (.lst ds) ∧ R ⟨ds, fun s' => s' p = some (.lst ds)⟩ s := rfl
theorem iR1 : iRng1D R [.int j] s = (-(2 ^ 62) ≤ j ∧ j < 2 ^ 62 ∧ R ⟨rngD 0 j.toNat, fun _ => True⟩ s) := rfl
theorem iR2 : iRng2D R [.int i, .int j] s = ((-(2 ^ 62) ≤ i ∧ i < 2 ^ 62 ∧ -(2 ^ 62) ≤ j ∧ j < 2 ^ 62) ∧ R ⟨rngD i (j - i).toNat, fun _ => True⟩ s) := rfl
theorem dPart_i {te : TD} {σ : DS} {Qo : Option Int → S → Prop} : dPart te σ s Qo = te σ s (fun x s1 => match x with | .int i => Qo (some i) s1 | _ => False) := rfl
theorem rSl_t {K : PySem.W.Frag} {lo hi : Option Int} : rSlD K (.tup xs) lo hi s Q = Q (.tup (cutD xs lo hi)) s := rfl
theorem rSl_s {K : PySem.W.Frag} {lo hi : Option Int} : rSlD K (.str x) lo hi s Q = (x.length ≤ sizeLine ∧ Q (.str (L2.cutS x lo hi)) s) := rfl
theorem rSl_l {K : PySem.W.Frag} {lo hi : Option Int} : rSlD K (.ref l) lo hi s Q = ∃ ds, (s l = some (.lst ds) ∨ s l = some (.ro ds) ∨ KRo K l ds) ∧ ∀ p, s p = none → Q (.ref p) (s.set p (.lst (cutD ds lo hi))) := rfl
end
/-- a comprehension whose item changes nothing -/
theorem lcD_pure {g : TDG} {te : TD} {G : S → Prop} {σ : DS} {p : Addr} {Q : S → Prop} (f : D → D) (s0 : S) : ∀ (ds acc : List D), (∀ d ∈ ds, ∀ (acc : List D) (Q' : QD), Q' (f d) (s0.set p (.lst acc)) → g d σ (s0.set p (.lst acc)) fun σ1 s1 => te σ1 s1 Q') →
    (∀ acc, G (s0.set p (.lst acc))) → acc.length + ds.length < sizeLine → Q (s0.set p (.lst (acc ++ ds.map f))) → lcD g dYes te G σ p Q ds (s0.set p (.lst acc))
  | [], acc, _, hG, _, hQ => ⟨hG acc, by simpa using hQ⟩
  | d :: ds, acc, h, hG, hl, hQ => by
    refine ⟨hG acc, ?_⟩
    refine h d List.mem_cons_self acc (fun y s3 => ∃ acc, s3 p = some (.lst acc) ∧ acc.length < sizeLine ∧ lcD g dYes te G σ p Q ds (s3.set p (.lst (acc ++ [y])))) ?_
    refine ⟨acc, S.set_same, by simp only [List.length_cons] at hl; omega, ?_⟩
    rw [S.set_set]
    refine lcD_pure f s0 ds (acc ++ [f d]) (fun d hd => h d (List.mem_cons_of_mem _ hd)) hG (by simp only [List.length_append, List.length_cons, List.length_nil] at hl ⊢; omega) ?_
    simpa using hQ
end DL

set_option maxHeartbeats 4000000
namespace DL
open PySem PySem.Spec L2
variable {X : Cx} {a b c e tg : Expr} {es : List Expr} {ta tb tc te : TD} {t : TDA} {pos : Pos}

/-! ### x in y -/
def inS (x y : Str) : Bool := !(Builtin.Str.occurrences y x 0 y.length 1).isEmpty
theorem inS_sign (z : Str) (c : Nat) : inS ⟨#[c]⟩ z = decide (c ∈ z.cps.toList) := PySem.StrLaws.found_one z c
section
def opInT (K : PySem.W.Frag) (g : Bool → Bool) : R2 := fun x y H Q => ∃ d ds, Dp K H x d ∧ Dp K H y (.tuple ds) ∧ SeqAt.shaped d = true ∧ SeqAt.shaped (.tuple ds) = true ∧ Q (.bl (g (ds.any fun z => PyData.eqv z d))) H
theorem op_inT (hu : X.A.units + 65 < cLine) : OpR X (compareOp .In) (opInT X.K id) := by
  intro pins s σ H x y v u Q I rx ry h
  obtain ⟨d, ds, hd, he, sd, se, q⟩ := h
  obtain ⟨as, r1⟩ := Dp.reads I d x v hd rx
  obtain ⟨bs, r2⟩ := Dp.reads I (.tuple ds) y u he ry
  exact SeqAt.in_tuple_reads r2 r1 (SeqAt.canLay_of_shaped se) (SeqAt.canLay_of_shaped sd) (PyProof.Rows.room_in_shaped sd hu) ⟨.bl _, H, I, rfl, q⟩
theorem op_notinT (hu : X.A.units + 65 < cLine) : OpR X (compareOp .NotIn) (opInT X.K not) := by
  intro pins s σ H x y v u Q I rx ry h
  obtain ⟨d, ds, hd, he, sd, se, q⟩ := h
  obtain ⟨as, r1⟩ := Dp.reads I d x v hd rx
  obtain ⟨bs, r2⟩ := Dp.reads I (.tuple ds) y u he ry
  exact SeqAt.notIn_tuple_reads r2 r1 (SeqAt.canLay_of_shaped se) (SeqAt.canLay_of_shaped sd) (PyProof.Rows.room_in_shaped sd hu) ⟨.bl _, H, I, rfl, q⟩
def opInM (g : Bool → Bool) : R2 := fun x y H Q => ∃ a o, y = .ref a ∧ DGet H a x o ∧ Q (.bl (g o.isSome)) H
theorem op_inM (hu : X.A.units + 1 < cLine) : OpR X (compareOp .In) (opInM id) := by
  intro pins s σ H x y v u Q I rx ry h
  obtain ⟨a, o, rfl, g, q⟩ := h
  cases ry
  exact d_in hu I g rx fun s' I' => ⟨.bl _, H, I', rfl, q⟩
theorem op_notinM (hu : X.A.units + 1 < cLine) : OpR X (compareOp .NotIn) (opInM not) := by
  intro pins s σ H x y v u Q I rx ry h
  obtain ⟨a, o, rfl, g, q⟩ := h
  cases ry
  exact d_notIn hu I g rx fun s' I' => ⟨.bl _, H, I', rfl, q⟩
end
def inC (k : Bool → Bool) (d : D) (s : S) (Q : QD) : C → Prop
  | .lst ds => d.fine = true ∧ (D.tup ds).fine = true ∧ Q (.bl (k (ds.any fun z => z.eqv d))) s
  | .dic kvs => ∃ k', d.key = some k' ∧ Q (.bl (k (valD kvs k').isSome)) s
  | .ro _ => False
def rInD (k : Bool → Bool) : RD2
  | .str x, .str y, s, Q => Q (.bl (k (inS x y))) s
  | d, .ref a, s, Q => ∃ c, s a = some c ∧ inC k d s Q c
  | d, .tup ds, s, Q => d.fine = true ∧ (D.tup ds).fine = true ∧ Q (.bl (k (ds.any fun z => z.eqv d))) s
  | _, _, _, _ => False
theorem any_pd {d : D} (h : d.ok = true) : ∀ ds : List D, D.oks ds = true → (D.pds ds).any (fun z => PyData.eqv z d.pd) = ds.any fun z => z.eqv d
  | [], _ => rfl
  | x :: ds, hs => by
    simp only [D.oks, Bool.and_eq_true] at hs
    simp only [D.pds, List.any_cons, eqv_pd x d hs.1 h, any_pd h ds hs.2]
theorem lshaped {ds : List D} (h : (D.tup ds).fine = true) : SeqAt.shaped (.list (D.pds ds)) = true := by
  have h1 := fine_dep h
  have h2 := ok_lay _ (fine_ok h)
  unfold SeqAt.shaped
  simp only [D.pd, PyData.canLay0] at h2
  simp only [D.dep] at h1
  simp only [PyData.canLay0, h2, Bool.true_and, PyData.depth, deps_pd]
  simp; omega
theorem fine_oks {ds : List D} (h : (D.tup ds).fine = true) : D.oks ds = true := by
  have := fine_ok h; simpa only [D.ok] using this
theorem lift_in {K : PySem.W.Frag} {k : Bool → Bool} {rl : R2}
    (hl : ∀ x y H Q d ds, Dp K H x d → Dp K H y (.list ds) → SeqAt.shaped d = true → SeqAt.shaped (.list ds) = true → Q (.bl (k (ds.any fun z => PyData.eqv z d))) H → rl x y H Q) :
    Lift2 (fun x y H Q => (∃ i j, x = .str i ∧ y = .str j ∧ Q (.bl (k (!(Builtin.Str.occurrences j i 0 j.length 1).isEmpty))) H) ∨ (rl x y H Q ∨ (opInT K k x y H Q ∨ opInM k x y H Q))) (rInD k) := fun v w d f H s Q Q' r1 r2 hs q kk => by
  have fin : ∀ c, Q' (.bl c) s → Q (.bl c) H := fun c q => kk _ _ _ _ (Kp.refl H) (.bl _) hs q
  have tupc : ∀ ds, f = .tup ds → d.fine = true ∧ (D.tup ds).fine = true ∧ Q' (.bl (k (ds.any fun z => z.eqv d))) s → opInT K k v w H Q := fun ds e ⟨h1, h2, h3⟩ => by
    subst e
    refine ⟨_, _, dp_of r1 (fine_ok h1), (by have := dp_of (K := K) r2 (fine_ok h2); simpa only [D.pd] using this), fine_shaped h1, (by have := fine_shaped h2; simpa only [D.pd] using this), ?_⟩
    rw [any_pd (fine_ok h1) ds (fine_oks h2)]; exact fin _ h3
  have refc : ∀ a, f = .ref a → (∃ c, s a = some c ∧ inC k d s Q' c) → rl v w H Q ∨ (opInT K k v w H Q ∨ opInM k v w H Q) := fun a e ⟨c, hc, h⟩ => by
    subst e
    cases datR r2
    cases c with
    | lst ds =>
      obtain ⟨h1, h2, h3⟩ := h
      obtain ⟨vs, e1, t⟩ := hs _ _ hc
      refine .inl (hl _ _ _ _ _ _ (dp_of r1 (fine_ok h1)) (.lst (SqL.of e1) (dps_of t (fine_oks h2))) (fine_shaped h1) (lshaped h2) ?_)
      rw [any_pd (fine_ok h1) ds (fine_oks h2)]; exact fin _ h3
    | ro ds => exact h.elim
    | dic kvs =>
      obtain ⟨k', h1, h2⟩ := h
      obtain ⟨ws, e1, t⟩ := hs _ _ hc
      refine .inr (.inr ⟨a, valV ws k', rfl, by rw [key_dat r1 h1]; exact DGet.k e1, ?_⟩)
      have : (valV ws k').isSome = (valD kvs k').isSome := by
        cases hv : valD kvs k' with
        | none => rw [(KD.val t).2 hv]; rfl
        | some g => obtain ⟨u, hu, _⟩ := (KD.val t).1 g hv; rw [hu]; rfl
      rw [this]; exact fin _ h2
  cases f with
  | str y => cases d with
    | str x => cases datS r1; cases datS r2; exact .inl ⟨x, y, rfl, rfl, fin _ q⟩
    | _ => exact q.elim
  | ref a => cases d <;> exact .inr (refc a rfl q)
  | tup ds => cases d <;> exact .inr (.inr (.inl (tupc ds rfl q)))
  | _ => cases d <;> exact q.elim
theorem cm_in (hu : X.A.units + 65 < cLine) : CmpD X .In (rInD id) := ⟨_, OpR.or op_in_str (OpR.or (op_inD hu) (OpR.or (op_inT hu) (op_inM (by omega)))), lift_in (rl := L2.rInD X.K) fun x y H Q d ds a b c f q => ⟨d, ds, a, b, c, f, q⟩⟩
theorem cm_notin (hu : X.A.units + 65 < cLine) : CmpD X .NotIn (rInD not) := ⟨_, OpR.or op_notin_str (OpR.or (op_notInD hu) (OpR.or (op_notinT hu) (op_notinM (by omega)))), lift_in (rl := L2.rNotInD X.K) fun x y H Q d ds a b c f q => ⟨d, ds, a, b, c, f, q⟩⟩

/-! ### x < y of data that are alike -/
def D.alike (d f : D) : Bool := PySem.W.alike d.pd f.pd
def D.lt (d f : D) : Bool := PySem.W.dataLt d.pd f.pd
def opLtT (K : PySem.W.Frag) (sw : Bool) (g : Bool → Bool) : R2 := fun x y H Q => ∃ d e, Dp K H x d ∧ Dp K H y e ∧ SeqAt.shaped d = true ∧ PySem.W.alike d e = true ∧ d ≠ .none ∧ Q (.bl (PySem.W.dataLt d e)) H
theorem op_ltT (hu : X.A.units + 64 < cLine) : OpR X (compareOp .Lt) (opLtT X.K false id) := by
  intro pins s σ H x y v u Q I rx ry h
  obtain ⟨d, e, hd, he, sd, al, hn, q⟩ := h
  obtain ⟨as, r1⟩ := Dp.reads I d x v hd rx
  obtain ⟨bs, r2⟩ := Dp.reads I e y u he ry
  have hr : X.A.units + min d.depth e.depth < cLine := by
    have := SeqAt.depth_of_shaped sd
    omega
  have z : wpAny (model X.prog X.w) X.A (compareOp .Lt v u) (EP X pins σ Q) X.xe s := PySem.W.rcLt_alike d e X.A s v u as bs r1 r2 al hn hr X.prog X.w X.xe (EP X pins σ Q) ⟨.bl _, H, I, rfl, q⟩
  exact z
def rLtD : RD2
  | .int i, .int j, s, Q => Q (.bl (decide (i < j))) s
  | .str x, .str y, s, Q => Q (.bl (decide (x.cps.toList < y.cps.toList))) s
  | .tup xs, .tup ys, s, Q => (D.tup xs).fine = true ∧ (D.tup ys).fine = true ∧ D.alike (.tup xs) (.tup ys) = true ∧ Q (.bl (D.lt (.tup xs) (.tup ys))) s
  | _, _, _, _ => False
theorem cm_ltD (hu : X.A.units + 64 < cLine) : CmpD X .Lt rLtD := ⟨_, OpR.or (OpR.or op_lt op_lt_str) (op_ltT hu), fun v w d f H s Q Q' r1 r2 hs q k => by
  cases d with
  | int i => cases f with
    | int j => cases datI r1; cases datI r2; exact .inl (.inl ⟨i, j, rfl, rfl, k _ _ _ _ (Kp.refl H) (.bl _) hs q⟩)
    | _ => exact q.elim
  | str i => cases f with
    | str j => cases datS r1; cases datS r2; exact .inl (.inr ⟨i, j, rfl, rfl, k _ _ _ _ (Kp.refl H) (.bl _) hs q⟩)
    | _ => exact q.elim
  | tup xs => cases f with
    | tup ys =>
      obtain ⟨h1, h2, h3, q⟩ := q
      exact .inr ⟨_, _, dp_of r1 (fine_ok h1), dp_of r2 (fine_ok h2), fine_shaped h1, h3, (by simp [D.pd]), k _ _ _ _ (Kp.refl H) (.bl _) hs q⟩
    | _ => exact q.elim
  | _ => exact q.elim⟩
end DL

set_option maxHeartbeats 4000000
namespace DL
open PySem PySem.Spec L2
variable {X : Cx} {a b c e tg : Expr} {es : List Expr} {ta tb tc te : TD} {t : TDA} {pos : Pos}

/-! ### sorted -/
def D.le (x y : D) : Bool := !D.lt y x
def sortD (ds : List D) : List D := ds.mergeSort D.le
/-- what sorted takes: texts, ints, or tuples that are alike -/
def sortable (ds : List D) : Bool := (D.tup ds).fine && ds.all (fun d => ds.all fun f => D.alike d f) && (ds.all (fun d => match d with | .tup (_ :: _) => true | _ => false) || ds.all (fun d => match d with | .int _ => true | .str _ => true | .bl _ => true | _ => false))
theorem oks_mem : ∀ {ds : List D}, D.oks ds = true → ∀ d ∈ ds, d.ok = true
  | [], _, _, h => absurd h (by simp)
  | x :: ds, hs, d, hd => by
    simp only [D.oks, Bool.and_eq_true] at hs
    rcases List.mem_cons.mp hd with rfl | hd
    · exact hs.1
    · exact oks_mem hs.2 d hd
theorem deps_mem : ∀ {ds : List D} {d : D}, d ∈ ds → d.dep ≤ D.deps ds
  | [], _, h => absurd h (by simp)
  | x :: ds, d, hd => by
    simp only [D.deps]
    rcases List.mem_cons.mp hd with rfl | hd
    · omega
    · have := deps_mem hd; omega
theorem sorts_of {α : Type} (f : α → D) (l : List α) : (l.mergeSort fun x y => D.le (f x) (f y)).map f = sortD (l.map f) := List.map_mergeSort fun _ _ _ _ => rfl
/-- values with what they stand for, in a new order -/
theorem vals_of {zs : List (V × D)} {out : List Value} (h : PySem.W.EachIs (fun u z => RelV z.1 u) out zs) : Vals (zs.map Prod.fst) out := by
  induction h with
  | nil => exact .nil
  | cons h _ ih => exact .cons h ih
theorem dats_all {H : Hp} : ∀ {zs : List (V × D)}, (∀ z ∈ zs, Dat H z.1 z.2) → Dats H (zs.map Prod.fst) (zs.map Prod.snd)
  | [], _ => .nil
  | z :: zs, h => .cons (h z List.mem_cons_self) (dats_all fun y hy => h y (List.mem_cons_of_mem _ hy))
theorem dats_zip {H : Hp} : ∀ {vs : List V} {ds : List D}, Dats H vs ds → ∀ z ∈ vs.zip ds, Dat H z.1 z.2
  | _, _, .nil, z, h => absurd h (by simp)
  | _, _, .cons r t, z, h => by
    rw [List.zip_cons_cons] at h
    rcases List.mem_cons.mp h with rfl | h
    · exact r
    · exact dats_zip t z h
theorem each_zip {R : Value → V × D → Prop} : ∀ {vs : List V} {us : List Value} {ds : List D}, Vals vs us → vs.length = ds.length → (∀ v u d, RelV v u → (v, d) ∈ vs.zip ds → R u (v, d)) → PySem.W.EachIs R us (vs.zip ds)
  | _, _, [], .nil, _, _ => .nil
  | _, _, _ :: _, .nil, h, _ => by simp at h
  | _, _, [], .cons _ _, h, _ => by simp at h
  | v :: vs, u :: us, d :: ds, .cons r t, h, g => by
    rw [List.zip_cons_cons]
    exact .cons (g v u d r (by simp)) (each_zip t (by simpa using h) fun v' u' d' r' m => g v' u' d' r' (by rw [List.zip_cons_cons]; exact List.mem_cons_of_mem _ m))
def rSorted (K : PySem.W.Frag) : List V → Hp → VK → Prop := fun xs H Q => ∃ (a : Addr) (vs : List V) (ds : List D), xs = [V.ref a] ∧ SqL K H a vs ∧ Dats H vs ds ∧ sortable ds = true ∧
  ∀ p ws, H p = none → Dats H ws (sortD ds) → Q (.ref p) (upd H p (.lst ws))
theorem cr_sorted (hu : X.A.units + 66 < cLine) : CallR X (.builtin "sorted") (rSorted X.K) := by
  intro pins s σ H xs us Q I r h
  obtain ⟨a, vs, ds, rfl, hq, t, hs, q⟩ := h
  obtain ⟨u, rfl, ru⟩ : ∃ u, us = [u] ∧ RelV (V.ref a) u := by cases r with | cons h r => cases r; exact ⟨_, rfl, h⟩
  obtain rfl : u = Value.ref a := ru
  obtain ⟨its, rv, hl, hz⟩ := I.list hq
  unfold sortable at hs
  simp only [Bool.and_eq_true, Bool.or_eq_true, List.all_eq_true] at hs
  obtain ⟨⟨hf, hal⟩, hk⟩ := hs
  have hoks := fine_oks hf
  have hdep := fine_dep hf
  simp only [D.dep] at hdep
  have lv := t.length
  have mem2 : ∀ z ∈ vs.zip ds, z.2 ∈ ds := fun z hz => (List.of_mem_zip (show (z.1, z.2) ∈ vs.zip ds from hz)).2
  have e1 : PySem.W.EachIs (fun u (z : V × D) => RelV z.1 u) its (vs.zip ds) := each_zip rv lv fun v u d r _ => r
  have e2 : PySem.W.EachIs (fun u (z : V × D) => ∃ as, Reads s.heap u z.2.pd as) its (vs.zip ds) := each_zip rv lv fun v u d r m =>
    Dp.reads I d.pd v u (dp_of (dats_zip t _ m) (oks_mem hoks d (mem2 _ m))) r
  refine PySem.W.sorted_data (enc := fun z : V × D => z.2.pd) hl.isList e1 e2 ?_ ?_ ?_ ?_ fun out ho eo => ?_
  · intro d hd d' hd'
    obtain ⟨z, hz, rfl⟩ := List.mem_map.mp hd
    obtain ⟨z', hz', rfl⟩ := List.mem_map.mp hd'
    exact hal _ (mem2 _ hz) _ (mem2 _ hz')
  · rcases hk with hk | hk
    · refine .inl fun d hd => ?_
      obtain ⟨z, hz, rfl⟩ := List.mem_map.mp hd
      have := hk _ (mem2 _ hz)
      cases hzz : z.2 with
      | tup xs => cases xs with
        | nil => rw [hzz] at this; simp at this
        | cons x xs => exact ⟨_, _, by simp only [D.pd, D.pds]; rfl⟩
      | _ => rw [hzz] at this; simp at this
    · refine .inr fun d hd => ?_
      obtain ⟨z, hz, rfl⟩ := List.mem_map.mp hd
      have := hk _ (mem2 _ hz)
      cases hzz : z.2 with
      | tup xs => rw [hzz] at this; simp at this
      | non => rw [hzz] at this; simp at this
      | ref xs => rw [hzz] at this; simp at this
      | _ => simp [D.pd]
  · have := rv.length; rw [List.length_zip]; omega
  · intro z hz
    have := deps_mem (mem2 _ hz)
    rw [dep_pd]; omega
  · have hout : (out.map id).length = vs.length := by rw [List.map_id, ho, List.length_zip]; omega
    obtain ⟨n, hn⟩ := PyProof.Rows.sortedAll_at s.heap its out.toArray
    have ee : (vs.zip ds).mergeSort (PySem.W.dataLe false fun z : V × D => z.2.pd) = (vs.zip ds).mergeSort fun x y => D.le x.2 y.2 := by rw [PySem.W.dataLe_eq]; rfl
    rw [ee] at eo
    refine ⟨.ref (s.heap.objs.size + 1), upd H (s.heap.objs.size + 1) (.lst (((vs.zip ds).mergeSort fun x y => D.le x.2 y.2).map Prod.fst)), I.laid (t' := s.toks) (fun b o e => PyProof.Rows.sortedAll_old e) (Nat.le_add_right _ _) ⟨?_, out, n, vals_of eo, hn⟩, rfl, q _ _ (I.hok.fresh (Nat.le_add_right _ _)) ?_⟩
    · rw [List.length_map, List.length_mergeSort, List.length_zip]; omega
    · have h1 : Dats H (((vs.zip ds).mergeSort fun x y => D.le x.2 y.2).map Prod.fst) (((vs.zip ds).mergeSort fun x y => D.le x.2 y.2).map Prod.snd) :=
        dats_all fun z hz => dats_zip t z ((List.mem_mergeSort).mp hz)
      rw [sorts_of, List.map_snd_zip (by omega)] at h1
      exact h1
def rSortedD : RC
  | [.ref p], s, Q => ∃ ds, s p = some (.lst ds) ∧ sortable ds = true ∧ ∀ l, s l = none → Q (.ref l) (s.set l (.lst (sortD ds)))
  | _, _, _ => False
theorem de_sorted {p : Pos} (hu : X.A.units + 66 < cLine) (hg : Gl X "sorted") (hm : X.mg "sorted" = none) (ha : DA X (e :: es) t) (he : starEach (e :: es) X.env = (false, eval e X.env) :: starEach es X.env := by rfl) (hpl : (backTo pos (starEach es X.env)).any (·.1) = false := by rfl) :
    DE X (.Call (.Name "sorted" p) (e :: es) [] pos) (dCB rSortedD t) := de_callB (cr_sorted hu) (fun vs ds H s Q Q' r hs q k => by
      match ds, q with
      | [.ref p], ⟨ds, e, h1, q⟩ =>
        obtain ⟨v, rfl, r'⟩ := dats1 r; cases datR r'
        obtain ⟨vs, e1, t⟩ := hs _ _ e
        exact ⟨p, vs, ds, rfl, SqL.of e1, t, h1, fun l ws hl t' => k _ _ _ _ (Kp.alloc hl) (.ref l) (hs.laidL hl t') (q l (hs.none hl))⟩) hg hm PyProof.Rows.boot_sorted ha (by decide) (by decide) he hpl

/-! ### enumerate, zip, reversed -/
def enumD (n : Nat) : List D → List D
  | [] => []
  | d :: ds => .tup [.int (n : Nat), d] :: enumD (n + 1) ds
theorem enumD_len : ∀ (n : Nat) (ds : List D), (enumD n ds).length = ds.length
  | _, [] => rfl
  | n, _ :: ds => congrArg Nat.succ (enumD_len (n + 1) ds)
theorem enumD_get : ∀ (ds : List D) (n i : Nat) (d : D), ds[i]? = some d → (enumD n ds)[i]? = some (.tup [.int ((n + i : Nat) : Int), d])
  | [], _, _, _, h => by simp at h
  | x :: ds, n, 0, d, h => by simp at h; subst h; simp [enumD]
  | x :: ds, n, i + 1, d, h => by
    have := enumD_get ds (n + 1) i d (by simpa using h)
    rw [show n + 1 + i = n + (i + 1) by omega] at this
    simpa [enumD] using this
theorem rel_enum {K : PySem.W.Frag} {p : Addr} {ds : List D} {H1 : Hp} : RelIt (Ite K p) ⟨enumD 0 ds, fun s => s p = some (.lst ds)⟩ H1 := by
  refine ⟨fun i H hi ⟨_, s, hs, g⟩ => ?_, fun H ⟨_, s, hs, g⟩ => ?_, fun i H x H' hi ⟨_, s, hs, g⟩ y => ?_⟩
  · obtain ⟨vs, e, t⟩ := hs _ _ g
    have hi' : i < ds.length := by have := enumD_len 0 ds; simp only at hi; omega
    obtain ⟨v, h1, _⟩ := t.get (i := i) (d := ds[i]) (by simp [hi'])
    exact ⟨vs, v, SqL.of e, h1⟩
  · obtain ⟨vs, e, t⟩ := hs _ _ g
    exact ⟨vs, SqL.of e, by rw [t.length]; simp only [enumD_len]; exact Nat.le_refl _⟩
  · obtain ⟨vs, e, t⟩ := hs _ _ g
    obtain ⟨T, x', rfl, hT, rfl, y⟩ := y
    obtain ⟨d, h1, h2⟩ := t.getV (y vs (SqL.of e))
    have kp : Kp H (upd H T (.tup [.int (i : Nat), x'])) := Kp.alloc hT
    refine ⟨kp, fun _ h => h.alloc hT, .tup [.int (i : Nat), d], ?_, .tup upd_same (.cons (.int _) (.cons (h2.mono kp) .nil))⟩
    have := enumD_get ds 0 i d h1
    simpa using this
def iEnumD (R : ItD → S → Prop) : List D → S → Prop
  | [.ref p], s => ∃ ds, s p = some (.lst ds) ∧ R ⟨enumD 0 ds, fun s' => s' p = some (.lst ds)⟩ s
  | _, _ => False
theorem di_enum {p tpos : Pos} {elts : List Expr} {kk : Nat} (hg : Gl X "enumerate") (hm : X.mg "enumerate" = none) (ha : DA X [e] t) (hs : starEach [e] X.env = [(false, eval e X.env)] := by rfl) :
    DI X (.Tuple elts kk tpos) (.Call (.Name "enumerate" p) [e] [] pos) (fun σ s R => t σ s fun ds s1 => iEnumD R ds s1) := PI.weaken (pi_enum hg hm ha hs) fun σV H R h => by
  obtain ⟨σ, s, R', E, hs, q, k⟩ := h
  refine ⟨σ, s, _, E, hs, q, fun vs ds H1 s1 k1 r1 hs1 q1 => ?_⟩
  match ds, q1 with
  | [.ref p], ⟨ds, e, q⟩ =>
    obtain ⟨v, rfl, r'⟩ := dats1 r1; cases datR r'
    obtain ⟨vs, e1, t⟩ := hs1 _ _ e
    exact ⟨p, vs, rfl, SqL.of e1, k _ _ _ _ k1 hs1 q rel_enum⟩
def zipD : List D → List D → List D := List.zipWith fun x y => .tup [x, y]
theorem zipD_len (xs ys : List D) : (zipD xs ys).length = min xs.length ys.length := List.length_zipWith
theorem rel_zip {K : PySem.W.Frag} {p p2 : Addr} {xs ys : List D} {H1 : Hp} : RelIt (Itz K p p2) ⟨zipD xs ys, fun s => s p = some (.lst xs) ∧ s p2 = some (.lst ys)⟩ H1 := by
  refine ⟨fun i H hi ⟨_, s, hs, g⟩ => ?_, fun H ⟨_, s, hs, g⟩ => ?_, fun i H x H' hi ⟨_, s, hs, g⟩ y => ?_⟩
  · obtain ⟨vs, e, t⟩ := hs _ _ g.1
    obtain ⟨vs2, e2, t2⟩ := hs _ _ g.2
    simp only [zipD_len] at hi
    obtain ⟨v, h1, _⟩ := t.get (i := i) (d := xs[i]) (by simp [show i < xs.length by omega])
    obtain ⟨v2, h2, _⟩ := t2.get (i := i) (d := ys[i]) (by simp [show i < ys.length by omega])
    exact ⟨vs, vs2, v, v2, SqL.of e, SqL.of e2, h1, h2⟩
  · obtain ⟨vs, e, t⟩ := hs _ _ g.1
    obtain ⟨vs2, e2, t2⟩ := hs _ _ g.2
    exact ⟨vs, vs2, SqL.of e, SqL.of e2, by rw [t.length, t2.length]; simp only [zipD_len]; omega⟩
  · obtain ⟨vs, e, t⟩ := hs _ _ g.1
    obtain ⟨vs2, e2, t2⟩ := hs _ _ g.2
    obtain ⟨T, x', y', rfl, hT, rfl, y1, y2⟩ := y
    obtain ⟨d, h1, h2⟩ := t.getV (y1 vs (SqL.of e))
    obtain ⟨d2, h3, h4⟩ := t2.getV (y2 vs2 (SqL.of e2))
    have kp : Kp H (upd H T (.tup [x', y'])) := Kp.alloc hT
    refine ⟨kp, fun _ h => h.alloc hT, .tup [d, d2], ?_, .tup upd_same (.cons (h2.mono kp) (.cons (h4.mono kp) .nil))⟩
    simp [zipD, List.getElem?_zipWith, h1, h3]
theorem rel_zipT {K : PySem.W.Frag} {p p2 : Addr} {xs ys : List D} {vs vs2 : List V} {H1 : Hp} (e : H1 p = some (.tup vs)) (t : Dats H1 vs xs) (e2 : H1 p2 = some (.tup vs2)) (t2 : Dats H1 vs2 ys) : RelIt (RZ.ItzT K p p2) ⟨zipD xs ys, fun _ => True⟩ H1 := by
  refine ⟨fun i H hi ⟨k, s, hs, g⟩ => ?_, fun H ⟨k, s, hs, g⟩ => ?_, fun i H x H' hi ⟨k, s, hs, g⟩ y => ?_⟩
  · simp only [zipD_len] at hi
    obtain ⟨v, h1, _⟩ := t.get (i := i) (d := xs[i]) (by simp [show i < xs.length by omega])
    obtain ⟨v2, h2, _⟩ := t2.get (i := i) (d := ys[i]) (by simp [show i < ys.length by omega])
    exact ⟨vs, vs2, v, v2, SqT.of (k _ _ trivial e), SqT.of (k _ _ trivial e2), h1, h2⟩
  · exact ⟨vs, vs2, SqT.of (k _ _ trivial e), SqT.of (k _ _ trivial e2), by rw [t.length, t2.length]; simp only [zipD_len]; omega⟩
  · obtain ⟨T, x', y', rfl, hT, rfl, y1, y2⟩ := y
    obtain ⟨d, h1, h2⟩ := t.getV (y1 vs (SqT.of (k _ _ trivial e)))
    obtain ⟨d2, h3, h4⟩ := t2.getV (y2 vs2 (SqT.of (k _ _ trivial e2)))
    have kp : Kp H (upd H T (.tup [x', y'])) := Kp.alloc hT
    refine ⟨kp, fun _ h => h.alloc hT, .tup [d, d2], ?_, .tup upd_same (.cons ((h2.mono k).mono kp) (.cons ((h4.mono k).mono kp) .nil))⟩
    simp [zipD, List.getElem?_zipWith, h1, h3]
def iZipD (R : ItD → S → Prop) : List D → S → Prop
  | [.ref p, .ref p2], s => ∃ xs ys, s p = some (.lst xs) ∧ s p2 = some (.lst ys) ∧ R ⟨zipD xs ys, fun s' => s' p = some (.lst xs) ∧ s' p2 = some (.lst ys)⟩ s
  | [.tup xs, .tup ys], s => R ⟨zipD xs ys, fun _ => True⟩ s
  | _, _ => False
theorem di_zip {p tpos : Pos} {elts : List Expr} {kk : Nat} (hg : Gl X "zip") (hm : X.mg "zip" = none) (ha : DA X [a, b] t)
    (hs : starEach [a, b] X.env = (false, eval a X.env) :: starEach [b] X.env := by rfl) (hpl : (backTo pos (starEach [b] X.env)).any (·.1) = false := by rfl) :
    DI X (.Tuple elts kk tpos) (.Call (.Name "zip" p) [a, b] [] pos) (fun σ s R => t σ s fun ds s1 => iZipD R ds s1) := PI.weaken (RZ.pi_zipA hg hm ha hs hpl) fun σV H R h => by
  obtain ⟨σ, s, R', E, hs, q, k⟩ := h
  refine ⟨σ, s, _, E, hs, q, fun vs ds H1 s1 k1 r1 hs1 q1 => ?_⟩
  match ds, q1 with
  | [.ref p, .ref p2], ⟨xs, ys, e, e2, q⟩ =>
    obtain ⟨v, v2, rfl, r', r''⟩ := dats2 r1; cases datR r'; cases datR r''
    obtain ⟨vs, e1, t⟩ := hs1 _ _ e
    obtain ⟨vs2, e3, t2⟩ := hs1 _ _ e2
    exact ⟨p, p2, vs, vs2, rfl, .inl ⟨SqL.of e1, SqL.of e3, k _ _ _ _ k1 hs1 q rel_zip⟩⟩
  | [.tup xs, .tup ys], q =>
    obtain ⟨v, v2, rfl, r', r''⟩ := dats2 r1
    obtain ⟨p, vs, rfl, e1, t⟩ := datT r'
    obtain ⟨p2, vs2, rfl, e3, t2⟩ := datT r''
    exact ⟨p, p2, vs, vs2, rfl, .inr ⟨SqT.of e1, SqT.of e3, k _ _ _ _ k1 hs1 q (rel_zipT e1 t e3 t2)⟩⟩
theorem rev_at {xs : List D} {i : Nat} (h : i < xs.length) : xs.reverse[i]? = xs[xs.length - 1 - i]? := List.getElem?_reverse h
theorem rel_rev {K : PySem.W.Frag} {p : Addr} {ds : List D} {n : Nat} {H1 : Hp} (hn : n = ds.length) : RelIt (Itv K p n) ⟨ds.reverse, fun s => s p = some (.lst ds)⟩ H1 := by
  subst hn
  refine ⟨fun i H hi ⟨_, s, hs, g⟩ => ?_, fun H ⟨_, s, hs, g⟩ => ?_, fun i H x H' hi ⟨_, s, hs, g⟩ y => ?_⟩
  · obtain ⟨vs, e, t⟩ := hs _ _ g
    simp only [List.length_reverse] at hi
    obtain ⟨v, h1, _⟩ := t.get (i := ds.length - 1 - i) (d := ds[ds.length - 1 - i]) (by simp)
    exact ⟨hi, vs, v, SqL.of e, h1⟩
  · show ds.length ≤ ds.reverse.length
    simp
  · obtain ⟨vs, e, t⟩ := hs _ _ g
    obtain ⟨rfl, y⟩ := y
    obtain ⟨d, h1, h2⟩ := t.getV (y vs (SqL.of e))
    simp only [List.length_reverse] at hi
    exact ⟨Kp.refl _, fun _ h => h, d, by rw [rev_at hi]; exact h1, h2⟩
theorem rel_revT {K : PySem.W.Frag} {p : Addr} {ds : List D} {vs : List V} {n : Nat} {H1 : Hp} (hn : n = ds.length) (e : H1 p = some (.tup vs)) (t : Dats H1 vs ds) : RelIt (RT.ItvT K p n) ⟨ds.reverse, fun _ => True⟩ H1 := by
  subst hn
  refine ⟨fun i H hi ⟨k, s, hs, g⟩ => ?_, fun H ⟨k, s, hs, g⟩ => ?_, fun i H x H' hi ⟨k, s, hs, g⟩ y => ?_⟩
  · simp only [List.length_reverse] at hi
    obtain ⟨v, h1, _⟩ := t.get (i := ds.length - 1 - i) (d := ds[ds.length - 1 - i]) (by simp)
    exact ⟨hi, vs, v, SqT.of (k _ _ trivial e), h1⟩
  · show ds.length ≤ ds.reverse.length
    simp
  · obtain ⟨rfl, y⟩ := y
    obtain ⟨d, h1, h2⟩ := t.getV (y vs (SqT.of (k _ _ trivial e)))
    simp only [List.length_reverse] at hi
    exact ⟨Kp.refl _, fun _ h => h, d, by rw [rev_at hi]; exact h1, h2.mono k⟩
def iRevD (R : ItD → S → Prop) : D → S → Prop
  | .tup ds, s => R ⟨ds.reverse, fun _ => True⟩ s
  | .ref p, s => ∃ ds, s p = some (.lst ds) ∧ R ⟨ds.reverse, fun s' => s' p = some (.lst ds)⟩ s
  | _, _ => False
theorem di_rev {p : Pos} (hg : Gl X "reversed") (hm : X.mg "reversed" = none) (he : DE X e te) (hs : starEach [e] X.env = (false, eval e X.env) :: starEach [] X.env := by rfl) :
    DI X tg (.Call (.Name "reversed" p) [e] [] pos) (fun σ s R => te σ s fun x s1 => iRevD R x s1) := PI.weaken (RT.pi_revA hg hm he hs) fun σV H R h => by
  obtain ⟨σ, s, R', E, hs, q, k⟩ := h
  refine ⟨σ, s, _, E, hs, q, fun v d H1 s1 k1 r1 hs1 q1 => ?_⟩
  cases d with
  | tup ds =>
    obtain ⟨p, vs, rfl, e, t⟩ := datT r1
    exact ⟨p, vs, rfl, .inr ⟨SqT.of e, k _ _ _ _ k1 hs1 q1 (rel_revT t.length e t)⟩⟩
  | ref p =>
    cases datR r1
    obtain ⟨ds, e, q1⟩ := q1
    obtain ⟨vs, e1, t⟩ := hs1 _ _ e
    exact ⟨p, vs, rfl, .inl ⟨SqL.of e1, k _ _ _ _ k1 hs1 q1 (rel_rev t.length)⟩⟩
  | _ => exact q1.elim

/-! ### (a, b, ..) = a tuple or a list -/
theorem PG.or {X : Cx} {e : Expr} {t t' : TG} (h : PG X e t) (h' : PG X e t') : PG X e (fun v σ H Q => t v σ H Q ∨ t' v σ H Q) := ⟨fun pins s σ H v u Q I r q => by
  rcases q with q | q
  · exact h.run pins s σ H v u Q I r q
  · exact h'.run pins s σ H v u Q I r q⟩
def dgSeq (n : Nat) (gs : TDGs) : TDG
  | .tup ds, σ, s, Q => ds.length = n ∧ gs ds σ s Q
  | .ref p, σ, s, Q => ∃ ds, s p = some (.lst ds) ∧ ds.length = n ∧ gs ds σ s Q
  | _, _, _, _ => False
theorem dg_seq {gs : TDGs} {sl : List Nat} {n k : Nat} (hc : X.calm = true) (h : DGs X es sl gs) (hn : (assignEach es X.env).length = n := by rfl) (hst : (assignEach es X.env).findIdx? (·.1) = none := by rfl) : DG X (.Tuple es k pos) sl (dgSeq n gs) :=
  PG.weaken (PG.or (pg_tup hc h hn hst) (pg_unl hc h hn hst)) fun v σV H Q h => by
    obtain ⟨d, σ, s, Q', r, E, hs, q, k⟩ := h
    cases d with
    | tup ds =>
      obtain ⟨hl, q⟩ := q
      obtain ⟨p, vs, rfl, e, t⟩ := datT r
      exact .inl ⟨p, vs, rfl, SqT.of e, by rw [t.length]; exact hl, ds, σ, s, Q', t, E, hs, q, k⟩
    | ref p =>
      obtain ⟨ds, e, hl, q⟩ := q
      cases datR r
      obtain ⟨vs, e1, t⟩ := hs _ _ e
      exact .inr ⟨p, vs, rfl, SqL.of e1, by rw [t.length]; exact hl, ds, σ, s, Q', t, E, hs, q, k⟩
    | _ => exact q.elim
end DL

set_option maxHeartbeats 4000000
namespace DL
open PySem PySem.Spec L2
theorem u65 {k : Nat} {A : Around} (r : Room k A) : A.units + 65 < cLine := by have := r.un; omega
theorem u66 {k : Nat} {A : Around} (r : Room k A) : A.units + 66 < cLine := by have := r.un; omega
end DL
namespace DL
open PySem PySem.Spec L2
theorem known_no {P : Program} {w : World} {K : PySem.W.Frag} {mg : Str → Option Value} {base : Heap} {x qual : Str} {params : Arguments} {body : List Stmt} {scope : Scope} {f : Addr} {fd : FuncData} {ps : List Str} {k : Nat}
    (F : FunD K x qual params body scope [] [] f fd) (gm : mg x = some (.ref f)) (hb : Binds K fd ps []) : Known P w K mg base k x (fun _ _ _ => False) :=
  ⟨f, fd, ps, ⟨fun vs H Q E h => (by obtain ⟨_, _, _, _, _, h, _⟩ := h; exact h.elim), fun A outer s H args us vs Q E hr he hbt hv h => (by obtain ⟨_, _, _, _, _, h, _⟩ := h; exact h.elim)⟩, gm, F.kp, hb⟩
end DL
namespace DL
open PySem
section
variable {i j : Int} {x y : Str} {b b2 : Bool} {xs ys : List D} {l m p p2 : Addr} {s : S} {Q : QD} {k : Bool → Bool} {R : ItD → S → Prop} {d : D} {n : Nat} {gs : TDGs} {σ : DS} {QG : DS → S → Prop}
theorem rLtD_i : rLtD (.int i) (.int j) s Q = Q (.bl (decide (i < j))) s := rfl
theorem rLtD_s : rLtD (.str x) (.str y) s Q = Q (.bl (decide (x.cps.toList < y.cps.toList))) s := rfl
theorem rLtD_t : rLtD (.tup xs) (.tup ys) s Q = ((D.tup xs).fine = true ∧ (D.tup ys).fine = true ∧ D.alike (.tup xs) (.tup ys) = true ∧ Q (.bl (D.lt (.tup xs) (.tup ys))) s) := rfl
theorem rIn_ss : rInD k (.str x) (.str y) s Q = Q (.bl (k (inS x y))) s := rfl
theorem rIn_r : rInD k d (.ref p) s Q = ∃ c, s p = some c ∧ inC k d s Q c := by cases d <;> rfl
theorem rIn_t : rInD k d (.tup xs) s Q = (d.fine = true ∧ (D.tup xs).fine = true ∧ Q (.bl (k (xs.any fun z => z.eqv d))) s) := by cases d <;> rfl
theorem inC_l : inC k d s Q (.lst xs) = (d.fine = true ∧ (D.tup xs).fine = true ∧ Q (.bl (k (xs.any fun z => z.eqv d))) s) := rfl
theorem inC_d {kvs : List (L2.Key × D)} : inC k d s Q (.dic kvs) = ∃ k', d.key = some k' ∧ Q (.bl (k (valD kvs k').isSome)) s := rfl
theorem dgSeq_t : dgSeq n gs (.tup xs) σ s QG = (xs.length = n ∧ gs xs σ s QG) := rfl
theorem dgSeq_l : dgSeq n gs (.ref p) σ s QG = ∃ ds, s p = some (.lst ds) ∧ ds.length = n ∧ gs ds σ s QG := rfl
theorem rSorted_l : rSortedD [.ref p] s Q = ∃ ds, s p = some (.lst ds) ∧ sortable ds = true ∧ ∀ l, s l = none → Q (.ref l) (s.set l (.lst (sortD ds))) := rfl
theorem iEnum_l : iEnumD R [.ref p] s = ∃ ds, s p = some (.lst ds) ∧ R ⟨enumD 0 ds, fun s' => s' p = some (.lst ds)⟩ s := rfl
theorem iZip_l : iZipD R [.ref p, .ref p2] s = ∃ xs ys, s p = some (.lst xs) ∧ s p2 = some (.lst ys) ∧ R ⟨zipD xs ys, fun s' => s' p = some (.lst xs) ∧ s' p2 = some (.lst ys)⟩ s := rfl
theorem iZip_t : iZipD R [.tup xs, .tup ys] s = R ⟨zipD xs ys, fun _ => True⟩ s := rfl
theorem iRev_l : iRevD R (.ref p) s = ∃ ds, s p = some (.lst ds) ∧ R ⟨ds.reverse, fun s' => s' p = some (.lst ds)⟩ s := rfl
theorem iRev_t : iRevD R (.tup xs) s = R ⟨xs.reverse, fun _ => True⟩ s := rfl
end

/-! ### a store that has what another has, but for the jar -/
def Ext (j : Addr) (s s' : S) : Prop := ∀ b x, b ≠ j → s b = some x → s' b = some x
theorem Ext.refl (j : Addr) (s : S) : Ext j s s := fun _ _ _ h => h
theorem Ext.trans {j : Addr} {s s1 s2 : S} (a : Ext j s s1) (b : Ext j s1 s2) : Ext j s s2 := fun p x h e => b p x h (a p x h e)
theorem Fr.ext {j : Addr} {s s' : S} (h : Fr j s s') : Ext j s s' := fun b x n e => (h b n).trans e
theorem Ext.put {j p : Addr} {s0 s : S} {x : C} (h : Ext j s0 s) (e : s0 p = none) : Ext j s0 (s.set p x) := fun b y n q => by
  rw [S.set_ne (fun z => by rw [z, e] at q; cases q)]; exact h b y n q
theorem Ext.new {j p : Addr} {s : S} {x : C} (e : s p = none) : Ext j s (s.set p x) := (Ext.refl j s).put e
theorem Ext.none {j p : Addr} {s s' : S} (h : Ext j s s') (hp : p ≠ j) (e : s' p = none) : s p = none := by
  cases q : s p with
  | none => rfl
  | some x => rw [h p x hp q] at e; cases e
/-- on the way from s0: what s0 had is there, n draws are left -/
structure St (j c : Addr) (s0 : S) (n : Nat) (s : S) : Prop where
  ext : Ext j s0 s
  jar : Jar s j c n
  hj : s0 j ≠ none
  hc : s0 c ≠ none
theorem St.start {j c : Addr} {n : Nat} {s : S} (J : Jar s j c n) : St j c s n s := by
  obtain ⟨⟨a, t, k, ns, h1, _, _, _, _, h2, _⟩, _⟩ := id J
  exact ⟨Ext.refl j s, J, (by rw [h1]; simp), (by rw [h2]; simp)⟩
theorem St.mono {j c : Addr} {s0 s : S} {m n : Nat} (h : St j c s0 n s) (l : m ≤ n) : St j c s0 m s := ⟨h.ext, h.jar.mono l, h.hj, h.hc⟩
theorem St.next {j c : Addr} {s0 s s' : S} {m n : Nat} (h : St j c s0 n s) (e : Ext j s s') (J : Jar s' j c m) : St j c s0 m s' := ⟨h.ext.trans e, J, h.hj, h.hc⟩
theorem St.put {j c p : Addr} {s0 s : S} {n : Nat} {x : C} (h : St j c s0 n s) (e : s0 p = none) : St j c s0 n (s.set p x) :=
  ⟨h.ext.put e, h.jar.set (fun z => h.hj (by rw [← z]; exact e)) (fun z => h.hc (by rw [← z]; exact e)), h.hj, h.hc⟩
theorem St.fresh {j c p : Addr} {s0 s : S} {n : Nat} (h : St j c s0 n s) (e : s p = none) : s0 p = none ∧ p ≠ j ∧ p ≠ c := by
  obtain ⟨h1, h2⟩ := h.jar.fresh e
  exact ⟨h.ext.none h1 e, h1, h2⟩
theorem St.new {j c p : Addr} {s0 s : S} {n : Nat} {x : C} (h : St j c s0 n s) (e : s p = none) : St j c s0 n (s.set p x) := h.put (h.fresh e).1
/-- a def that draws: args behind the jar, draws at most -/
def spG (cost : Nat) (pre : List D → S → Addr → Prop) (post : List D → S → D → S → Prop) : DSp := fun ds s Q =>
  ∃ j c n as, ds = .ref j :: as ∧ pre as s j ∧ Jar s j c (n + cost) ∧ ∀ d s', Ext j s s' → Jar s' j c n → post as s d s' → Q d s'
end DL
namespace DL
theorem atI_2 {α : Type} {a b c : α} {l : List α} : L2.atI (a :: b :: c :: l) 2 = some c := by
  have := atI_nat' (xs := a :: b :: c :: l) (i := 2) (x := c) rfl
  simpa using this
theorem atI_3 {α : Type} {a b c d : α} {l : List α} : L2.atI (a :: b :: c :: d :: l) 3 = some d := by
  have := atI_nat' (xs := a :: b :: c :: d :: l) (i := 3) (x := d) rfl
  simpa using this
theorem atI_4 {α : Type} {a b c d e : α} {l : List α} : L2.atI (a :: b :: c :: d :: e :: l) 4 = some e := by
  have := atI_nat' (xs := a :: b :: c :: d :: e :: l) (i := 4) (x := e) rfl
  simpa using this
end DL

set_option maxHeartbeats 4000000
namespace DL
open PySem
/-- a for, by what stands at each turn -/
theorem for_inv {g : TDG} {tb : TDS} {G : S → Prop} {E : EndsD} (I : Nat → DS → S → Prop) : ∀ (ds : List D) (k : Nat) (σ : DS) (s : S), (∀ i σ s, I i σ s → G s) →
    (∀ i d σ s, ds[i]? = some d → I (k + i) σ s → ∀ N : DS → S → Prop, (∀ σ' s', I (k + i + 1) σ' s' → N σ' s') → g d σ s fun σ1 s1 => tb { E with nx := N, ct := N, bk := E.nx } σ1 s1) →
    (∀ σ s, I (k + ds.length) σ s → E.nx σ s) → I k σ s → forD g tb G E ds σ s
  | [], k, σ, s, hG, _, he, h => ⟨hG _ _ _ h, he σ s h⟩
  | d :: ds, k, σ, s, hG, hs, he, h => by
    refine ⟨hG _ _ _ h, ?_⟩
    refine hs 0 d σ s rfl h _ fun σ' s' h' => ?_
    refine for_inv I ds (k + 1) σ' s' hG (fun i d σ s hi hI N hN => ?_) (fun σ s q => he σ s ?_) h'
    · refine hs (i + 1) d σ s (by simpa using hi) (by rw [show k + (i + 1) = k + 1 + i by omega]; exact hI) N fun σ' s' q => hN σ' s' ?_
      rw [show k + 1 + i + 1 = k + (i + 1) + 1 by omega]; exact q
    · rw [List.length_cons, show k + (ds.length + 1) = k + 1 + ds.length by omega]; exact q
section
variable {j c : Addr} {b s : S} {n m cost : Nat} {pre : List D → S → Addr → Prop} {post : List D → S → D → S → Prop} {as : List D} {Q : QD}
theorem call_g (h : St j c b (n + cost) s) (hp : pre as s j) (k : ∀ d s', St j c b n s' → Ext j s s' → post as s d s' → Q d s') : spG cost pre post (.ref j :: as) s Q :=
  ⟨j, c, n, as, rfl, hp, h.jar, fun d s' e J P => k d s' (h.next e J) e P⟩
theorem draw_g {m : Int} (h : St j c b (n + 1) s) (h0 : 0 < m) (h1 : m < 2 ^ 64) (k : ∀ r s', 0 ≤ r → r < m → St j c b n s' → Ext j s s' → Q (.int r) s') : sp_draw [.ref j, .int m] s Q :=
  ⟨j, c, n, m, rfl, h0, h1, h.jar, fun r s' a e f J => k r s' a e (h.next f.ext J) f.ext⟩
/-- a comprehension whose item draws -/
theorem lc_jar {g : TDG} {te : TD} {G : S → Prop} {σ : DS} {p : Addr} {QS : S → Prop} (k : Nat) (P : D → S → Prop) (hb : b p = none) (hG : ∀ s, Ext j b s → G s)
    (hP1 : ∀ y s s', P y s → Ext j s s' → P y s') (hP2 : ∀ y s x, P y s → P y (s.set p x)) : ∀ (ds acc : List D) (s : S),
    (∀ d ∈ ds, ∀ m s (acc : List D) (N : QD), St j c b (m + k) s → s p = some (.lst acc) → (∀ y s', P y s' → Ext j s s' → Jar s' j c m → N y s') → g d σ s fun σ1 s1 => te σ1 s1 N) →
    St j c b (n + ds.length * k) s → s p = some (.lst acc) → (∀ x ∈ acc, P x s) → acc.length + ds.length ≤ 1000000 →
    (∀ acc' s', acc'.length = acc.length + ds.length → (∀ x ∈ acc', P x s') → St j c b n s' → s' p = some (.lst acc') → QS s') → lcD g dYes te G σ p QS ds s
  | [], acc, s, _, h, hp, ha, _, q => ⟨hG s h.ext, q acc s (by simp) ha (by simpa using h) hp⟩
  | d :: ds, acc, s, hs, h, hp, ha, hl, q => by
    refine ⟨hG s h.ext, ?_⟩
    have hj : p ≠ j := fun z => h.hj (by rw [← z]; exact hb)
    have h' : St j c b (n + ds.length * k + k) s := h.mono (by rw [List.length_cons, Nat.succ_mul]; omega)
    refine hs d List.mem_cons_self _ s acc (fun y s3 => ∃ acc, s3 p = some (.lst acc) ∧ acc.length < sizeLine ∧ lcD g dYes te G σ p QS ds (s3.set p (.lst (acc ++ [y])))) h' hp fun y s' Py e J => ?_
    simp only [List.length_cons] at hl
    refine ⟨acc, e p _ hj hp, Nat.lt_of_lt_of_le (show acc.length < 1000001 by omega) (by decide), ?_⟩
    refine lc_jar k P hb hG hP1 hP2 ds (acc ++ [y]) _ (fun d m => hs d (List.mem_cons_of_mem _ m)) ((h'.next e J).put hb) S.set_same (fun x m => ?_) (by simp only [List.length_append, List.length_cons, List.length_nil]; omega) (fun acc' s' l => q acc' s' (by rw [l]; simp only [List.length_append, List.length_cons, List.length_nil]; omega))
    rcases List.mem_append.mp m with m | m
    · exact hP2 _ _ _ (hP1 _ _ _ (ha x m) e)
    · rw [List.mem_singleton.mp m]; exact hP2 _ _ _ Py
end
end DL

set_option maxHeartbeats 4000000
namespace Toy
open PySem PySem.Spec L2 DL
def top (i : Nat) : Stmt := PySem.Challenge.pw_paidnomore_k26_papers_in_form.main.body.getD i (.Pass ⟨0, 0, 0, 0⟩)
abbrev s_is_number : Stmt := top 3
def d_is_number : He.DefD := ⟨("is_number", none), "is_number", "is_number", defArgs s_is_number, defBody s_is_number, defScope s_is_number, [], []⟩
abbrev s_is_name : Stmt := top 4
def d_is_name : He.DefD := ⟨("is_name", none), "is_name", "is_name", defArgs s_is_name, defBody s_is_name, defScope s_is_name, [], []⟩
abbrev s_is_tuple : Stmt := top 5
def d_is_tuple : He.DefD := ⟨("is_tuple", none), "is_tuple", "is_tuple", defArgs s_is_tuple, defBody s_is_tuple, defScope s_is_tuple, [], []⟩
abbrev s_are_numbers : Stmt := top 6
def d_are_numbers : He.DefD := ⟨("are_numbers", none), "are_numbers", "are_numbers", defArgs s_are_numbers, defBody s_are_numbers, defScope s_are_numbers, [], []⟩
abbrev s_is_ascending : Stmt := top 7
def d_is_ascending : He.DefD := ⟨("is_ascending", none), "is_ascending", "is_ascending", defArgs s_is_ascending, defBody s_is_ascending, defScope s_is_ascending, [], []⟩
abbrev s_is_ended : Stmt := top 9
def d_is_ended : He.DefD := ⟨("is_ended", none), "is_ended", "is_ended", defArgs s_is_ended, defBody s_is_ended, defScope s_is_ended, [], []⟩
abbrev s_is_frame : Stmt := top 10
def d_is_frame : He.DefD := ⟨("is_frame", none), "is_frame", "is_frame", defArgs s_is_frame, defBody s_is_frame, defScope s_is_frame, [], []⟩
abbrev s_is_point : Stmt := top 11
def d_is_point : He.DefD := ⟨("is_point", none), "is_point", "is_point", defArgs s_is_point, defBody s_is_point, defScope s_is_point, [], []⟩
abbrev s_is_exit : Stmt := top 12
def d_is_exit : He.DefD := ⟨("is_exit", none), "is_exit", "is_exit", defArgs s_is_exit, defBody s_is_exit, defScope s_is_exit, [], []⟩
abbrev s_is_amount : Stmt := top 14
def d_is_amount : He.DefD := ⟨("is_amount", none), "is_amount", "is_amount", defArgs s_is_amount, defBody s_is_amount, defScope s_is_amount, [], []⟩
abbrev s_are_pairs : Stmt := top 15
def d_are_pairs : He.DefD := ⟨("are_pairs", none), "are_pairs", "are_pairs", defArgs s_are_pairs, defBody s_are_pairs, defScope s_are_pairs, [], []⟩
abbrev s_are_lefts : Stmt := top 16
def d_are_lefts : He.DefD := ⟨("are_lefts", none), "are_lefts", "are_lefts", defArgs s_are_lefts, defBody s_are_lefts, defScope s_are_lefts, [], []⟩
abbrev s_are_helds : Stmt := top 17
def d_are_helds : He.DefD := ⟨("are_helds", none), "are_helds", "are_helds", defArgs s_are_helds, defBody s_are_helds, defScope s_are_helds, [], []⟩
abbrev s_is_block : Stmt := top 18
def d_is_block : He.DefD := ⟨("is_block", none), "is_block", "is_block", defArgs s_is_block, defBody s_is_block, defScope s_is_block, [], []⟩
abbrev s_is_credits : Stmt := top 19
def d_is_credits : He.DefD := ⟨("is_credits", none), "is_credits", "is_credits", defArgs s_is_credits, defBody s_is_credits, defScope s_is_credits, [], []⟩
abbrev s__law_whole : Stmt := top 21
def d__law_whole : He.DefD := ⟨("_law_whole", none), "_law_whole", "_law_whole", defArgs s__law_whole, defBody s__law_whole, defScope s__law_whole, [], []⟩
abbrev s__law_is_word : Stmt := top 22
def d__law_is_word : He.DefD := ⟨("_law_is_word", none), "_law_is_word", "_law_is_word", defArgs s__law_is_word, defBody s__law_is_word, defScope s__law_is_word, [], []⟩
abbrev s__law_is_ended : Stmt := top 23
def d__law_is_ended : He.DefD := ⟨("_law_is_ended", none), "_law_is_ended", "_law_is_ended", defArgs s__law_is_ended, defBody s__law_is_ended, defScope s__law_is_ended, [], []⟩
abbrev s__law_is_spot : Stmt := top 24
def d__law_is_spot : He.DefD := ⟨("_law_is_spot", none), "_law_is_spot", "_law_is_spot", defArgs s__law_is_spot, defBody s__law_is_spot, defScope s__law_is_spot, [], []⟩
abbrev s__law_is_gate : Stmt := top 25
def d__law_is_gate : He.DefD := ⟨("_law_is_gate", none), "_law_is_gate", "_law_is_gate", defArgs s__law_is_gate, defBody s__law_is_gate, defScope s__law_is_gate, [], []⟩
abbrev s__law_is_pairs : Stmt := top 26
def d__law_is_pairs : He.DefD := ⟨("_law_is_pairs", none), "_law_is_pairs", "_law_is_pairs", defArgs s__law_is_pairs, defBody s__law_is_pairs, defScope s__law_is_pairs, [], []⟩
abbrev s__law_climbs : Stmt := top 27
def d__law_climbs : He.DefD := ⟨("_law_climbs", none), "_law_climbs", "_law_climbs", defArgs s__law_climbs, defBody s__law_climbs, defScope s__law_climbs, [], []⟩
abbrev s__law_is_block : Stmt := top 28
def d__law_is_block : He.DefD := ⟨("_law_is_block", none), "_law_is_block", "_law_is_block", defArgs s__law_is_block, defBody s__law_is_block, defScope s__law_is_block, [], []⟩
abbrev s__law_is_paper : Stmt := top 29
def d__law_is_paper : He.DefD := ⟨("_law_is_paper", none), "_law_is_paper", "_law_is_paper", defArgs s__law_is_paper, defBody s__law_is_paper, defScope s__law_is_paper, [], []⟩
abbrev s__law_great : Stmt := top 30
def d__law_great : He.DefD := ⟨("_law_great", none), "_law_great", "_law_great", defArgs s__law_great, defBody s__law_great, defScope s__law_great, [], []⟩
abbrev s__law_spot : Stmt := top 31
def d__law_spot : He.DefD := ⟨("_law_spot", none), "_law_spot", "_law_spot", defArgs s__law_spot, defBody s__law_spot, defScope s__law_spot, [], []⟩
abbrev s__law_much : Stmt := top 32
def d__law_much : He.DefD := ⟨("_law_much", none), "_law_much", "_law_much", defArgs s__law_much, defBody s__law_much, defScope s__law_much, [], []⟩
abbrev s__law_priced : Stmt := top 33
def d__law_priced : He.DefD := ⟨("_law_priced", none), "_law_priced", "_law_priced", defArgs s__law_priced, defBody s__law_priced, defScope s__law_priced, [], []⟩
abbrev s__law_formed : Stmt := top 34
def d__law_formed : He.DefD := ⟨("_law_formed", none), "_law_formed", "_law_formed", defArgs s__law_formed, defBody s__law_formed, defScope s__law_formed, [], []⟩
abbrev s__law_odd : Stmt := top 35
def d__law_odd : He.DefD := ⟨("_law_odd", none), "_law_odd", "_law_odd", defArgs s__law_odd, defBody s__law_odd, defScope s__law_odd, [], []⟩
abbrev s__law_paths : Stmt := top 36
def d__law_paths : He.DefD := ⟨("_law_paths", none), "_law_paths", "_law_paths", defArgs s__law_paths, defBody s__law_paths, defScope s__law_paths, [], []⟩
abbrev s__law_part : Stmt := top 37
def d__law_part : He.DefD := ⟨("_law_part", none), "_law_part", "_law_part", defArgs s__law_part, defBody s__law_part, defScope s__law_part, [], []⟩
abbrev s__law_put : Stmt := top 38
def d__law_put : He.DefD := ⟨("_law_put", none), "_law_put", "_law_put", defArgs s__law_put, defBody s__law_put, defScope s__law_put, [], []⟩
abbrev s__law_bent : Stmt := top 39
def d__law_bent : He.DefD := ⟨("_law_bent", none), "_law_bent", "_law_bent", defArgs s__law_bent, defBody s__law_bent, defScope s__law_bent, [], []⟩
abbrev s__law_jar : Stmt := top 40
def d__law_jar : He.DefD := ⟨("_law_jar", none), "_law_jar", "_law_jar", defArgs s__law_jar, defBody s__law_jar, defScope s__law_jar, [], []⟩
abbrev s__law_mixed : Stmt := top 41
def d__law_mixed : He.DefD := ⟨("_law_mixed", none), "_law_mixed", "_law_mixed", defArgs s__law_mixed, defBody s__law_mixed, defScope s__law_mixed, [], []⟩
abbrev s__law_draw : Stmt := top 42
def d__law_draw : He.DefD := ⟨("_law_draw", none), "_law_draw", "_law_draw", defArgs s__law_draw, defBody s__law_draw, defScope s__law_draw, [], []⟩
abbrev s__law_one_in : Stmt := top 43
def d__law_one_in : He.DefD := ⟨("_law_one_in", none), "_law_one_in", "_law_one_in", defArgs s__law_one_in, defBody s__law_one_in, defScope s__law_one_in, [], []⟩
abbrev s__law_of : Stmt := top 44
def d__law_of : He.DefD := ⟨("_law_of", none), "_law_of", "_law_of", defArgs s__law_of, defBody s__law_of, defScope s__law_of, [], []⟩
abbrev s__law_stem : Stmt := top 45
def d__law_stem : He.DefD := ⟨("_law_stem", none), "_law_stem", "_law_stem", defArgs s__law_stem, defBody s__law_stem, defScope s__law_stem, [], []⟩
abbrev s__law_name : Stmt := top 46
def d__law_name : He.DefD := ⟨("_law_name", none), "_law_name", "_law_name", defArgs s__law_name, defBody s__law_name, defScope s__law_name, [], []⟩
abbrev s__law_names : Stmt := top 47
def d__law_names : He.DefD := ⟨("_law_names", none), "_law_names", "_law_names", defArgs s__law_names, defBody s__law_names, defScope s__law_names, [], []⟩
abbrev s__law_target : Stmt := top 48
def d__law_target : He.DefD := ⟨("_law_target", none), "_law_target", "_law_target", defArgs s__law_target, defBody s__law_target, defScope s__law_target, [], []⟩
abbrev s__law_price : Stmt := top 49
def d__law_price : He.DefD := ⟨("_law_price", none), "_law_price", "_law_price", defArgs s__law_price, defBody s__law_price, defScope s__law_price, [], []⟩
abbrev s__law_words : Stmt := top 50
def d__law_words : He.DefD := ⟨("_law_words", none), "_law_words", "_law_words", defArgs s__law_words, defBody s__law_words, defScope s__law_words, [], []⟩
abbrev s__law_shape : Stmt := top 51
def d__law_shape : He.DefD := ⟨("_law_shape", none), "_law_shape", "_law_shape", defArgs s__law_shape, defBody s__law_shape, defScope s__law_shape, [], []⟩
abbrev s__law_callee : Stmt := top 52
def d__law_callee : He.DefD := ⟨("_law_callee", none), "_law_callee", "_law_callee", defArgs s__law_callee, defBody s__law_callee, defScope s__law_callee, [], []⟩
abbrev s__law_exits : Stmt := top 53
def d__law_exits : He.DefD := ⟨("_law_exits", none), "_law_exits", "_law_exits", defArgs s__law_exits, defBody s__law_exits, defScope s__law_exits, [], []⟩
abbrev s__law_deed : Stmt := top 54
def d__law_deed : He.DefD := ⟨("_law_deed", none), "_law_deed", "_law_deed", defArgs s__law_deed, defBody s__law_deed, defScope s__law_deed, [], []⟩
abbrev s__law_program : Stmt := top 55
def d__law_program : He.DefD := ⟨("_law_program", none), "_law_program", "_law_program", defArgs s__law_program, defBody s__law_program, defScope s__law_program, [], []⟩
abbrev s_law : Stmt := top 56
def d_law : He.DefD := ⟨("law", none), "law", "law", defArgs s_law, defBody s_law, defScope s_law, [], []⟩
def fn : List He.DefD := ([d_is_number, d_is_name, d_is_tuple, d_are_numbers, d_is_ascending, d_is_ended, d_is_frame, d_is_point, d_is_exit, d_is_amount, d_are_pairs, d_are_lefts, d_are_helds, d_is_block, d_is_credits, d__law_whole, d__law_is_word, d__law_is_ended, d__law_is_spot, d__law_is_gate] : List He.DefD) ++ ([d__law_is_pairs, d__law_climbs, d__law_is_block, d__law_is_paper, d__law_great, d__law_spot, d__law_much, d__law_priced, d__law_formed, d__law_odd, d__law_paths, d__law_part, d__law_put, d__law_bent, d__law_jar, d__law_mixed, d__law_draw, d__law_one_in, d__law_of, d__law_stem] : List He.DefD) ++ ([d__law_name, d__law_names, d__law_target, d__law_price, d__law_words, d__law_shape, d__law_callee, d__law_exits, d__law_deed, d__law_program, d_law] : List He.DefD)
def fa : List He.Fa := ([.glo "is_number", .glo "is_name", .glo "is_tuple", .glo "are_numbers", .glo "is_ascending", .glo "is_ended", .glo "is_frame", .glo "is_point", .glo "is_exit", .glo "is_amount", .glo "are_pairs", .glo "are_lefts", .glo "are_helds", .glo "is_block", .glo "is_credits", .glo "_law_whole", .glo "_law_is_word", .glo "_law_is_ended", .glo "_law_is_spot", .glo "_law_is_gate"] : List He.Fa) ++ ([.glo "_law_is_pairs", .glo "_law_climbs", .glo "_law_is_block", .glo "_law_is_paper", .glo "_law_great", .glo "_law_spot", .glo "_law_much", .glo "_law_priced", .glo "_law_formed", .glo "_law_odd", .glo "_law_paths", .glo "_law_part", .glo "_law_put", .glo "_law_bent", .glo "_law_jar", .glo "_law_mixed", .glo "_law_draw", .glo "_law_one_in", .glo "_law_of", .glo "_law_stem"] : List He.Fa) ++ ([.glo "_law_name", .glo "_law_names", .glo "_law_target", .glo "_law_price", .glo "_law_words", .glo "_law_shape", .glo "_law_callee", .glo "_law_exits", .glo "_law_deed", .glo "_law_program", .glo "law", .free "abs", .free "all", .free "bool", .free "int", .free "isinstance", .free "len", .free "max", .free "range", .free "sorted"] : List He.Fa) ++ ([.free "str", .free "tuple", .free "zip", .str "LETTERS" "abcdefghijklmnopqrstuvwxyz", .str "SIGNS" "abcdefghijklmnopqrstuvwxyz0123456789"] : List He.Fa)
def names : List Str := (["is_number", "is_name", "is_tuple", "are_numbers", "is_ascending", "is_ended", "is_frame", "is_point", "is_exit", "is_amount", "are_pairs", "are_lefts", "are_helds", "is_block", "is_credits", "_law_whole", "_law_is_word", "_law_is_ended", "_law_is_spot", "_law_is_gate"] : List Str) ++ (["_law_is_pairs", "_law_climbs", "_law_is_block", "_law_is_paper", "_law_great", "_law_spot", "_law_much", "_law_priced", "_law_formed", "_law_odd", "_law_paths", "_law_part", "_law_put", "_law_bent", "_law_jar", "_law_mixed", "_law_draw", "_law_one_in", "_law_of", "_law_stem"] : List Str) ++ (["_law_name", "_law_names", "_law_target", "_law_price", "_law_words", "_law_shape", "_law_callee", "_law_exits", "_law_deed", "_law_program", "LETTERS", "SIGNS"] : List Str)
abbrev Tp (K : PySem.W.Frag) (mg : Str → Option Value) : Prop := Top fa fn K mg
end Toy

set_option maxHeartbeats 4000000
/-! readings of the defs, printed by gen.py -/
namespace Toy
open PySem DL
def N_is_number : List Str := ["thing", "low", "high"]
def t_is_number (K : PySem.W.Frag) : TDS :=
  (dSeq (dIfS (dOr (dNot (dTru (dUn (rIsi .int) (dVar 0)))) (dTru (dUn (rIsi .bool) (dVar 0)))) (dRet (dC (.bl false))) dNext)
    (dRet (dChain rLe rLe (dVar 1) (dVar 0) (dVar 2))))
def N_is_name : List Str := ["thing", "sign"]
def t_is_name (K : PySem.W.Frag) : TDS :=
  (dSeq (dIfS (dOr (dNot (dTru (dUn (rIsi .str) (dVar 0)))) (dNot (dTest (dChain rLe rLe (dC (.int 1)) (dCB rLenD (daCons (dVar 0) daNil)) (dC (.int 8)))))) (dRet (dC (.bl false))) dNext)
    (dRet (dAndV (dOp (rInD id) (dOp rIxD (dVar 0) (dC (.int 0))) (dC (.str "abcdefghijklmnopqrstuvwxyz"))) (dCB rAllD (daCons (dLc (dIter (dVar 0)) (dgName 1) dYes (dOp (rInD id) (dVar 1) (dC (.str "abcdefghijklmnopqrstuvwxyz0123456789"))) [1]) daNil)))))
def N_is_tuple : List Str := ["thing", "least", "most"]
def t_is_tuple (K : PySem.W.Frag) : TDS :=
  (dRet (dAndV (dUn (rIsi .tuple) (dVar 0)) (dChain rLe rLe (dVar 1) (dCB rLenD (daCons (dVar 0) daNil)) (dVar 2))))
def N_are_numbers : List Str := ["thing", "many", "low", "high", "number"]
def t_are_numbers (K : PySem.W.Frag) (sp_is_tuple sp_is_number : DSp) : TDS :=
  (dRet (dAndV (dCall sp_is_tuple (daCons (dVar 0) (daCons (dVar 1) (daCons (dVar 1) daNil)))) (dCB rAllD (daCons (dLc (dIter (dVar 0)) (dgName 4) dYes (dCall sp_is_number (daCons (dVar 4) (daCons (dVar 2) (daCons (dVar 3) daNil)))) [4]) daNil))))
def N_is_ascending : List Str := ["row", "one", "two"]
def t_is_ascending (K : PySem.W.Frag) : TDS :=
  (dRet (dCB rAllD (daCons (dLc (fun σ s R => (daCons (dVar 0) (daCons (dSl (rSlD K) (dVar 0) (dPart (dC (.int 1))) dNoPart) daNil)) σ s fun ds s1 => iZipD R ds s1) (dgTup 2 (dgCons (dgName 1) (dgCons (dgName 2) dgNil))) dYes (dOp rLtD (dVar 1) (dVar 2)) [1, 2]) daNil)))
def N_is_ended : List Str := ["program", "thing"]
def t_is_ended (K : PySem.W.Frag) (sp_are_numbers : DSp) : TDS :=
  (dRet (dCall sp_are_numbers (daCons (dVar 1) (daCons (dCB rLenD (daCons (dOp rIxD (dVar 0) (dC (.int 3))) daNil)) (daCons (dC (.int 0)) (daCons (dC (.int 1)) daNil))))))
def N_is_frame : List Str := ["program", "book", "thing"]
def t_is_frame (K : PySem.W.Frag) (sp_is_ended sp_is_number sp_is_tuple : DSp) : TDS :=
  (dSeq (dIfS (dOr (dNot (dTru (dCall sp_is_tuple (daCons (dVar 2) (daCons (dC (.int 3)) (daCons (dC (.int 3)) daNil)))))) (dNot (dTru (dCall sp_is_number (daCons (dOp rIxD (dVar 2) (dC (.int 0))) (daCons (dC (.int 0)) (daCons (dOp rSub (dCB rLenD (daCons (dOp rIxD (dVar 0) (dC (.int 4))) daNil)) (dC (.int 1))) daNil))))))) (dRet (dC (.bl false))) dNext)
    (dRet (dAndV (dCall sp_is_ended (daCons (dVar 0) (daCons (dOp rIxD (dVar 2) (dC (.int 1))) daNil))) (dCall sp_is_number (daCons (dOp rIxD (dVar 2) (dC (.int 2))) (daCons (dC (.int 0)) (daCons (dOp rSub (dCB rLenD (daCons (dOp rIxD (dVar 1) (dC (.int 3))) daNil)) (dC (.int 1))) daNil)))))))
def N_is_point : List Str := ["program", "book", "frame", "thing"]
def t_is_point (K : PySem.W.Frag) (sp_is_ended sp_is_number sp_is_tuple : DSp) : TDS :=
  (dSeq (dIfS (dOr (dNot (dTru (dCall sp_is_tuple (daCons (dVar 3) (daCons (dC (.int 3)) (daCons (dC (.int 3)) daNil)))))) (dNot (dTru (dCall sp_is_number (daCons (dOp rIxD (dVar 3) (dC (.int 0))) (daCons (dC (.int 0)) (daCons (dOp rSub (dCB rLenD (daCons (dOp rIxD (dOp rIxD (dOp rIxD (dVar 0) (dC (.int 4))) (dOp rIxD (dVar 2) (dC (.int 0)))) (dC (.int 1))) daNil)) (dC (.int 1))) daNil))))))) (dRet (dC (.bl false))) dNext)
    (dRet (dAndV (dCall sp_is_ended (daCons (dVar 0) (daCons (dOp rIxD (dVar 3) (dC (.int 1))) daNil))) (dCall sp_is_number (daCons (dOp rIxD (dVar 3) (dC (.int 2))) (daCons (dC (.int 0)) (daCons (dOp rSub (dCB rLenD (daCons (dOp rIxD (dVar 1) (dC (.int 3))) daNil)) (dC (.int 1))) daNil)))))))
def N_is_exit : List Str := ["program", "book", "thing"]
def t_is_exit (K : PySem.W.Frag) (sp_is_ended sp_is_number sp_is_tuple sp_is_name : DSp) : TDS :=
  (dSeq (dIfS (dOr (dNot (dTru (dCall sp_is_tuple (daCons (dVar 2) (daCons (dC (.int 3)) (daCons (dC (.int 3)) daNil)))))) (dNot (dTru (dCall sp_is_name (daCons (dOp rIxD (dVar 2) (dC (.int 0))) daNil))))) (dRet (dC (.bl false))) dNext)
    (dRet (dAndV (dCall sp_is_ended (daCons (dVar 0) (daCons (dOp rIxD (dVar 2) (dC (.int 1))) daNil))) (dCall sp_is_number (daCons (dOp rIxD (dVar 2) (dC (.int 2))) (daCons (dC (.int 0)) (daCons (dOp rSub (dCB rLenD (daCons (dOp rIxD (dVar 1) (dC (.int 3))) daNil)) (dC (.int 1))) daNil)))))))
def N_is_amount : List Str := ["thing"]
def t_is_amount (K : PySem.W.Frag) : TDS :=
  (dRet (dAndV (dUn (rIsi .int) (dVar 0)) (dAndV (dNotV (dUn (rIsi .bool) (dVar 0))) (dOp rGe (dVar 0) (dC (.int 0))))))
def N_are_pairs : List Str := ["thing", "pair"]
def t_are_pairs (K : PySem.W.Frag) (sp_is_tuple : DSp) : TDS :=
  (dRet (dAndV (dUn (rIsi .tuple) (dVar 0)) (dCB rAllD (daCons (dLc (dIter (dVar 0)) (dgName 1) dYes (dCall sp_is_tuple (daCons (dVar 1) (daCons (dC (.int 2)) (daCons (dC (.int 2)) daNil)))) [1]) daNil))))
def N_are_lefts : List Str := ["program", "book", "thing", "pair"]
def t_are_lefts (K : PySem.W.Frag) (sp_is_ascending sp_are_pairs sp_is_exit sp_is_amount : DSp) : TDS :=
  (dSeq (dIfS (dNot (dTru (dCall sp_are_pairs (daCons (dVar 2) daNil)))) (dRet (dC (.bl false))) dNext)
    (dSeq (dIfS (dNot (dTru (dCB rAllD (daCons (dLc (dIter (dVar 2)) (dgName 3) dYes (dAndV (dCall sp_is_exit (daCons (dVar 0) (daCons (dVar 1) (daCons (dOp rIxD (dVar 3) (dC (.int 0))) daNil)))) (dCall sp_is_amount (daCons (dOp rIxD (dVar 3) (dC (.int 1))) daNil))) [3]) daNil)))) (dRet (dC (.bl false))) dNext)
    (dRet (dCall sp_is_ascending (daCons (dLc (dIter (dVar 2)) (dgName 3) dYes (dOp rIxD (dVar 3) (dC (.int 0))) [3]) daNil)))))
def N_are_helds : List Str := ["program", "book", "frame", "thing", "pair"]
def t_are_helds (K : PySem.W.Frag) (sp_is_ascending sp_are_pairs sp_is_point sp_is_amount : DSp) : TDS :=
  (dSeq (dIfS (dNot (dTru (dCall sp_are_pairs (daCons (dVar 3) daNil)))) (dRet (dC (.bl false))) dNext)
    (dSeq (dIfS (dNot (dTru (dCB rAllD (daCons (dLc (dIter (dVar 3)) (dgName 4) dYes (dAndV (dCall sp_is_point (daCons (dVar 0) (daCons (dVar 1) (daCons (dVar 2) (daCons (dOp rIxD (dVar 4) (dC (.int 0))) daNil))))) (dCall sp_is_amount (daCons (dOp rIxD (dVar 4) (dC (.int 1))) daNil))) [4]) daNil)))) (dRet (dC (.bl false))) dNext)
    (dRet (dCall sp_is_ascending (daCons (dLc (dIter (dVar 3)) (dgName 4) dYes (dOp rIxD (dVar 4) (dC (.int 0))) [4]) daNil)))))
def N_is_block : List Str := ["program", "book", "thing"]
def t_is_block (K : PySem.W.Frag) (sp_are_lefts sp_are_helds sp_is_tuple sp_is_frame sp_is_amount : DSp) : TDS :=
  (dSeq (dIfS (dOr (dNot (dTru (dCall sp_is_tuple (daCons (dVar 2) (daCons (dC (.int 4)) (daCons (dC (.int 4)) daNil)))))) (dOr (dNot (dTru (dCall sp_is_frame (daCons (dVar 0) (daCons (dVar 1) (daCons (dOp rIxD (dVar 2) (dC (.int 0))) daNil)))))) (dNot (dTru (dCall sp_is_amount (daCons (dOp rIxD (dVar 2) (dC (.int 1))) daNil)))))) (dRet (dC (.bl false))) dNext)
    (dRet (dAndV (dCall sp_are_lefts (daCons (dVar 0) (daCons (dVar 1) (daCons (dOp rIxD (dVar 2) (dC (.int 2))) daNil)))) (dCall sp_are_helds (daCons (dVar 0) (daCons (dVar 1) (daCons (dOp rIxD (dVar 2) (dC (.int 0))) (daCons (dOp rIxD (dVar 2) (dC (.int 3))) daNil))))))))
def N_is_credits : List Str := ["program", "book", "thing", "block"]
def t_is_credits (K : PySem.W.Frag) (sp_is_ascending sp_is_tuple sp_is_block : DSp) : TDS :=
  (dSeq (dIfS (dOr (dNot (dTru (dCall sp_is_tuple (daCons (dVar 2) (daCons (dC (.int 2)) (daCons (dC (.int 2)) daNil)))))) (dOr (dTest (dOp (rEqD not) (dOp rIxD (dVar 2) (dC (.int 0))) (dC (.str "credits")))) (dNot (dTru (dUn (rIsi .tuple) (dOp rIxD (dVar 2) (dC (.int 1)))))))) (dRet (dC (.bl false))) dNext)
    (dSeq (dIfS (dNot (dTru (dCB rAllD (daCons (dLc (dIter (dOp rIxD (dVar 2) (dC (.int 1)))) (dgName 3) dYes (dCall sp_is_block (daCons (dVar 0) (daCons (dVar 1) (daCons (dVar 3) daNil)))) [3]) daNil)))) (dRet (dC (.bl false))) dNext)
    (dRet (dCall sp_is_ascending (daCons (dLc (dIter (dOp rIxD (dVar 2) (dC (.int 1)))) (dgName 3) dYes (dOp rIxD (dVar 3) (dC (.int 0))) [3]) daNil)))))
def N__law_whole : List Str := ["thing", "low", "high"]
def t__law_whole (K : PySem.W.Frag) : TDS :=
  (dSeq (dIfS (dOr (dNot (dTru (dUn (rIsi .int) (dVar 0)))) (dTru (dUn (rIsi .bool) (dVar 0)))) (dRet (dC (.bl false))) dNext)
    (dRet (dAndV (dOp rGe (dVar 0) (dVar 1)) (dOrV (dOp (rIs id) (dVar 2) (dC .non)) (dOp rLe (dVar 0) (dVar 2))))))
def N__law_is_word : List Str := ["thing", "letters", "signs", "sign"]
def t__law_is_word (K : PySem.W.Frag) : TDS :=
  (dSeq (dAsg (dC (.str "abcdefghijklmnopqrstuvwxyz")) (dgName 1))
    (dSeq (dAsg (dC (.str "abcdefghijklmnopqrstuvwxyz0123456789")) (dgName 2))
    (dSeq (dIfS (dOr (dNot (dTru (dUn (rIsi .str) (dVar 0)))) (dNot (dTest (dChain rLe rLe (dC (.int 1)) (dCB rLenD (daCons (dVar 0) daNil)) (dC (.int 8)))))) (dRet (dC (.bl false))) dNext)
    (dRet (dAndV (dOp (rInD id) (dOp rIxD (dVar 0) (dC (.int 0))) (dVar 1)) (dCB rAllD (daCons (dLc (dIter (dVar 0)) (dgName 3) dYes (dOp (rInD id) (dVar 3) (dVar 2)) [3]) daNil)))))))
def N__law_is_ended : List Str := ["program", "thing", "one"]
def t__law_is_ended (K : PySem.W.Frag) (sp__law_whole : DSp) : TDS :=
  (dSeq (dIfS (dOr (dNot (dTru (dUn (rIsi .tuple) (dVar 1)))) (dTest (dOp (rEqD not) (dCB rLenD (daCons (dVar 1) daNil)) (dCB rLenD (daCons (dOp rIxD (dVar 0) (dC (.int 3))) daNil))))) (dRet (dC (.bl false))) dNext)
    (dRet (dCB rAllD (daCons (dLc (dIter (dVar 1)) (dgName 2) dYes (dCall sp__law_whole (daCons (dVar 2) (daCons (dC (.int 0)) (daCons (dC (.int 1)) daNil)))) [2]) daNil))))
def N__law_is_spot : List Str := ["program", "book", "many", "thing"]
def t__law_is_spot (K : PySem.W.Frag) (sp__law_is_ended sp__law_whole : DSp) : TDS :=
  (dSeq (dIfS (dOr (dNot (dTru (dUn (rIsi .tuple) (dVar 3)))) (dOr (dTest (dOp (rEqD not) (dCB rLenD (daCons (dVar 3) daNil)) (dC (.int 3)))) (dNot (dTru (dCall sp__law_whole (daCons (dOp rIxD (dVar 3) (dC (.int 0))) (daCons (dC (.int 0)) (daCons (dOp rSub (dVar 2) (dC (.int 1))) daNil)))))))) (dRet (dC (.bl false))) dNext)
    (dRet (dAndV (dCall sp__law_is_ended (daCons (dVar 0) (daCons (dOp rIxD (dVar 3) (dC (.int 1))) daNil))) (dCall sp__law_whole (daCons (dOp rIxD (dVar 3) (dC (.int 2))) (daCons (dC (.int 0)) (daCons (dOp rSub (dCB rLenD (daCons (dOp rIxD (dVar 1) (dC (.int 3))) daNil)) (dC (.int 1))) daNil)))))))
def N__law_is_gate : List Str := ["program", "book", "thing"]
def t__law_is_gate (K : PySem.W.Frag) (sp__law_is_ended sp__law_whole sp__law_is_word : DSp) : TDS :=
  (dSeq (dIfS (dOr (dNot (dTru (dUn (rIsi .tuple) (dVar 2)))) (dOr (dTest (dOp (rEqD not) (dCB rLenD (daCons (dVar 2) daNil)) (dC (.int 3)))) (dNot (dTru (dCall sp__law_is_word (daCons (dOp rIxD (dVar 2) (dC (.int 0))) daNil)))))) (dRet (dC (.bl false))) dNext)
    (dRet (dAndV (dCall sp__law_is_ended (daCons (dVar 0) (daCons (dOp rIxD (dVar 2) (dC (.int 1))) daNil))) (dCall sp__law_whole (daCons (dOp rIxD (dVar 2) (dC (.int 2))) (daCons (dC (.int 0)) (daCons (dOp rSub (dCB rLenD (daCons (dOp rIxD (dVar 1) (dC (.int 3))) daNil)) (dC (.int 1))) daNil)))))))
def N__law_is_pairs : List Str := ["thing", "pair"]
def t__law_is_pairs (K : PySem.W.Frag) (sp__law_whole : DSp) : TDS :=
  (dSeq (dIfS (dNot (dTru (dUn (rIsi .tuple) (dVar 0)))) (dRet (dC (.bl false))) dNext)
    (dSeq (dFor (dIter (dVar 0)) (dgName 1) (dIfS (dOr (dNot (dTru (dUn (rIsi .tuple) (dVar 1)))) (dOr (dTest (dOp (rEqD not) (dCB rLenD (daCons (dVar 1) daNil)) (dC (.int 2)))) (dNot (dTru (dCall sp__law_whole (daCons (dOp rIxD (dVar 1) (dC (.int 1))) (daCons (dC (.int 0)) (daCons (dC .non) daNil)))))))) (dRet (dC (.bl false))) dNext))
    (dRet (dC (.bl true)))))
def N__law_climbs : List Str := ["rows", "at"]
def t__law_climbs (K : PySem.W.Frag) : TDS :=
  (dSeq (dFor (fun σ s R => (daCons (dOp rSub (dCB rLenD (daCons (dVar 0) daNil)) (dC (.int 1))) daNil) σ s fun ds s1 => iRng1D R ds s1) (dgName 1) (dIfS (dNot (dTest (dOp rLtD (dOp rIxD (dOp rIxD (dVar 0) (dVar 1)) (dC (.int 0))) (dOp rIxD (dOp rIxD (dVar 0) (dOp rAdd (dVar 1) (dC (.int 1)))) (dC (.int 0)))))) (dRet (dC (.bl false))) dNext))
    (dRet (dC (.bl true))))
def N__law_is_block : List Str := ["program", "book", "thing", "many", "frame", "need", "lefts", "helds", "pair"]
def t__law_is_block (K : PySem.W.Frag) (sp__law_climbs sp__law_is_spot sp__law_whole sp__law_is_pairs sp__law_is_gate : DSp) : TDS :=
  (dSeq (dIfS (dOr (dNot (dTru (dUn (rIsi .tuple) (dVar 2)))) (dTest (dOp (rEqD not) (dCB rLenD (daCons (dVar 2) daNil)) (dC (.int 4))))) (dRet (dC (.bl false))) dNext)
    (dSeq (dAsg (dVar 2) (dgSeq 4 (dgCons (dgName 4) (dgCons (dgName 5) (dgCons (dgName 6) (dgCons (dgName 7) dgNil))))))
    (dSeq (dIfS (dOr (dNot (dTru (dCall sp__law_is_spot (daCons (dVar 0) (daCons (dVar 1) (daCons (dCB rLenD (daCons (dOp rIxD (dVar 0) (dC (.int 4))) daNil)) (daCons (dVar 4) daNil))))))) (dNot (dTru (dCall sp__law_whole (daCons (dVar 5) (daCons (dC (.int 0)) (daCons (dC .non) daNil))))))) (dRet (dC (.bl false))) dNext)
    (dSeq (dIfS (dOr (dNot (dTru (dCall sp__law_is_pairs (daCons (dVar 6) daNil)))) (dNot (dTru (dCall sp__law_is_pairs (daCons (dVar 7) daNil))))) (dRet (dC (.bl false))) dNext)
    (dSeq (dAsg (dCB rLenD (daCons (dOp rIxD (dOp rIxD (dOp rIxD (dVar 0) (dC (.int 4))) (dOp rIxD (dVar 4) (dC (.int 0)))) (dC (.int 1))) daNil)) (dgName 3))
    (dSeq (dIfS (dNot (dTru (dCB rAllD (daCons (dLc (dIter (dVar 6)) (dgName 8) dYes (dCall sp__law_is_gate (daCons (dVar 0) (daCons (dVar 1) (daCons (dOp rIxD (dVar 8) (dC (.int 0))) daNil)))) [8]) daNil)))) (dRet (dC (.bl false))) dNext)
    (dSeq (dIfS (dNot (dTru (dCB rAllD (daCons (dLc (dIter (dVar 7)) (dgName 8) dYes (dCall sp__law_is_spot (daCons (dVar 0) (daCons (dVar 1) (daCons (dVar 3) (daCons (dOp rIxD (dVar 8) (dC (.int 0))) daNil))))) [8]) daNil)))) (dRet (dC (.bl false))) dNext)
    (dRet (dAndV (dCall sp__law_climbs (daCons (dVar 6) daNil)) (dCall sp__law_climbs (daCons (dVar 7) daNil)))))))))))
def N__law_is_paper : List Str := ["program", "book", "thing", "block"]
def t__law_is_paper (K : PySem.W.Frag) (sp__law_climbs sp__law_is_block : DSp) : TDS :=
  (dSeq (dIfS (dOr (dNot (dTru (dUn (rIsi .tuple) (dVar 2)))) (dOr (dTest (dOp (rEqD not) (dCB rLenD (daCons (dVar 2) daNil)) (dC (.int 2)))) (dOr (dTest (dOp (rEqD not) (dOp rIxD (dVar 2) (dC (.int 0))) (dC (.str "credits")))) (dNot (dTru (dUn (rIsi .tuple) (dOp rIxD (dVar 2) (dC (.int 1))))))))) (dRet (dC (.bl false))) dNext)
    (dSeq (dIfS (dNot (dTru (dCB rAllD (daCons (dLc (dIter (dOp rIxD (dVar 2) (dC (.int 1)))) (dgName 3) dYes (dCall sp__law_is_block (daCons (dVar 0) (daCons (dVar 1) (daCons (dVar 3) daNil)))) [3]) daNil)))) (dRet (dC (.bl false))) dNext)
    (dRet (dCall sp__law_climbs (daCons (dOp rIxD (dVar 2) (dC (.int 1))) daNil)))))
def N__law_great : List Str := ["jar", "procs", "name", "rows", "names", "places", "at", "deed", "word"]
def l__law_great_2_2 (K : PySem.W.Frag) (sp__law_names sp__law_stem sp__law_of : DSp) : TDS :=
  (dDrop (dAppend (dVar 5) (dTup (daCons (dOp rIxD (dVar 4) (dVar 6)) (daCons (dVar 7) daNil)))))
def l__law_great_2_1 (K : PySem.W.Frag) (sp__law_names sp__law_stem sp__law_of : DSp) : TDS :=
  (dSeq (dIfS (dTest (dOp rLtD (dOp rAdd (dVar 6) (dC (.int 1))) (dCB rLenD (daCons (dVar 4) daNil)))) (dAsg (dTup (daCons (dC (.str "pay")) (daCons (dTup (daCons (dC (.int 1)) (daCons (dC (.int 0)) (daCons (dUn rNeg (dC (.int 50))) daNil)))) (daCons (dOp rIxD (dVar 4) (dOp rAdd (dVar 6) (dC (.int 1)))) daNil)))) (dgName 7)) dNext)
    (l__law_great_2_2 K sp__law_names sp__law_stem sp__law_of))
def l__law_great_2 (K : PySem.W.Frag) (sp__law_names sp__law_stem sp__law_of : DSp) : TDS :=
  (dSeq (dAsg (dTup (daCons (dC (.str "done")) (daCons (dC (.str "out")) daNil))) (dgName 7))
    (l__law_great_2_1 K sp__law_names sp__law_stem sp__law_of))
def l__law_great_1_3 (K : PySem.W.Frag) (sp__law_names sp__law_stem sp__law_of : DSp) : TDS :=
  (dDrop (dAppend (dVar 1) (dTup (daCons (dVar 2) (daCons (dCB rTupOf (daCons (dVar 5) daNil)) daNil)))))
def l__law_great_1_2 (K : PySem.W.Frag) (sp__law_names sp__law_stem sp__law_of : DSp) : TDS :=
  (dSeq (dFor (fun σ s R => (daCons (dCB rLenD (daCons (dVar 4) daNil)) daNil) σ s fun ds s1 => iRng1D R ds s1) (dgName 6) (l__law_great_2 K sp__law_names sp__law_stem sp__law_of))
    (l__law_great_1_3 K sp__law_names sp__law_stem sp__law_of))
def l__law_great_1_1 (K : PySem.W.Frag) (sp__law_names sp__law_stem sp__law_of : DSp) : TDS :=
  (dSeq (dAsg (dLst daNil) (dgName 5))
    (l__law_great_1_2 K sp__law_names sp__law_stem sp__law_of))
def l__law_great_1 (K : PySem.W.Frag) (sp__law_names sp__law_stem sp__law_of : DSp) : TDS :=
  (dSeq (dAsg (dCall sp__law_names (daCons (dVar 0) (daCons (dCall sp__law_of (daCons (dVar 0) (daCons (dLst (daCons (dC (.int 1)) (daCons (dC (.int 2)) (daCons (dC (.int 11)) (daCons (dC (.int 12)) daNil))))) daNil))) daNil))) (dgName 4))
    (l__law_great_1_1 K sp__law_names sp__law_stem sp__law_of))
def b__law_great_3 (K : PySem.W.Frag) (sp__law_names sp__law_stem sp__law_of : DSp) : TDS :=
  (dRet (dTup (daCons (dC (.str "program")) (daCons (dCall sp__law_stem (daCons (dVar 0) daNil)) (daCons (dCB rTupOf (daCons (dCall sp__law_names (daCons (dVar 0) (daCons (dC (.int 3)) daNil))) daNil)) (daCons (dVar 3) (daCons (dCB rTupOf (daCons (dVar 1) daNil)) daNil)))))))
def b__law_great_2 (K : PySem.W.Frag) (sp__law_names sp__law_stem sp__law_of : DSp) : TDS :=
  (dSeq (dAsg (dCB rTupOf (daCons (dLc (dIter (dCall sp__law_names (daCons (dVar 0) (daCons (dC (.int 2)) daNil)))) (dgName 8) dYes (dTup (daCons (dVar 8) (daCons (dCB rTupOf (daCons (dCall sp__law_names (daCons (dVar 0) (daCons (dC (.int 3)) daNil))) daNil)) daNil))) [8]) daNil)) (dgName 3))
    (b__law_great_3 K sp__law_names sp__law_stem sp__law_of))
def b__law_great_1 (K : PySem.W.Frag) (sp__law_names sp__law_stem sp__law_of : DSp) : TDS :=
  (dSeq (dFor (dIter (dCall sp__law_names (daCons (dVar 0) (daCons (dC (.int 5)) daNil)))) (dgName 2) (l__law_great_1 K sp__law_names sp__law_stem sp__law_of))
    (b__law_great_2 K sp__law_names sp__law_stem sp__law_of))
def t__law_great (K : PySem.W.Frag) (sp__law_names sp__law_stem sp__law_of : DSp) : TDS :=
  (dSeq (dAsg (dLst daNil) (dgName 1))
    (b__law_great_1 K sp__law_names sp__law_stem sp__law_of))
def N__law_spot : List Str := ["jar", "program", "book", "many", "number", "page", "row"]
def t__law_spot (K : PySem.W.Frag) (sp__law_one_in sp__law_draw : DSp) : TDS :=
  (dSeq (dAsg (dIf (dTru (dCall sp__law_one_in (daCons (dVar 0) (daCons (dC (.int 3)) daNil)))) (dOp rSub (dVar 3) (dC (.int 1))) (dCall sp__law_draw (daCons (dVar 0) (daCons (dVar 3) daNil)))) (dgName 4))
    (dSeq (dAsg (dIf (dTru (dCall sp__law_one_in (daCons (dVar 0) (daCons (dC (.int 3)) daNil)))) (dOp rSub (dCB rLenD (daCons (dOp rIxD (dVar 2) (dC (.int 3))) daNil)) (dC (.int 1))) (dCall sp__law_draw (daCons (dVar 0) (daCons (dCB rLenD (daCons (dOp rIxD (dVar 2) (dC (.int 3))) daNil)) daNil)))) (dgName 5))
    (dRet (dTup (daCons (dVar 4) (daCons (dCB rTupOf (daCons (dLc (dIter (dOp rIxD (dVar 1) (dC (.int 3)))) (dgName 6) dYes (dCall sp__law_draw (daCons (dVar 0) (daCons (dC (.int 2)) daNil))) [6]) daNil)) (daCons (dVar 5) daNil)))))))
def N__law_much : List Str := ["jar"]
def t__law_much (K : PySem.W.Frag) (sp__law_of : DSp) : TDS :=
  (dRet (dCall sp__law_of (daCons (dVar 0) (daCons (dLst (daCons (dC (.int 0)) (daCons (dC (.int 0)) (daCons (dC (.int 1)) (daCons (dC (.int 1)) (daCons (dC (.int 2)) (daCons (dC (.int 3)) (daCons (dC (.int 50)) (daCons (dC (.int 1000000)) (daCons (dOp rPow (dC (.int 10)) (dC (.int 30))) daNil)))))))))) daNil))))
def N__law_priced : List Str := ["jar", "things", "met", "thing"]
def l__law_priced_1 (K : PySem.W.Frag) (sp__law_much : DSp) : TDS :=
  (dIfS (dTest (dOp (rInD not) (dVar 3) (dVar 2))) (dDrop (dAppend (dVar 2) (dVar 3))) dNext)
def b__law_priced_2 (K : PySem.W.Frag) (sp__law_much : DSp) : TDS :=
  (dRet (dCB rTupOf (daCons (dLc (dIter (dCB rSortedD (daCons (dVar 2) daNil))) (dgName 3) dYes (dTup (daCons (dVar 3) (daCons (dCall sp__law_much (daCons (dVar 0) daNil)) daNil))) [3]) daNil)))
def b__law_priced_1 (K : PySem.W.Frag) (sp__law_much : DSp) : TDS :=
  (dSeq (dFor (dIter (dVar 1)) (dgName 3) (l__law_priced_1 K sp__law_much))
    (b__law_priced_2 K sp__law_much))
def t__law_priced (K : PySem.W.Frag) (sp__law_much : DSp) : TDS :=
  (dSeq (dAsg (dLst daNil) (dgName 2))
    (b__law_priced_1 K sp__law_much))
def N__law_formed : List Str := ["jar", "program", "book", "blocks", "frames", "frame", "need", "many", "exits", "points", "turn"]
def l__law_formed_1_3 (K : PySem.W.Frag) (sp__law_priced sp__law_spot sp__law_draw sp__law_stem : DSp) : TDS :=
  (dDrop (dAppend (dVar 3) (dTup (daCons (dVar 5) (daCons (dVar 6) (daCons (dCall sp__law_priced (daCons (dVar 0) (daCons (dVar 8) daNil))) (daCons (dCall sp__law_priced (daCons (dVar 0) (daCons (dVar 9) daNil))) daNil)))))))
def l__law_formed_1_2 (K : PySem.W.Frag) (sp__law_priced sp__law_spot sp__law_draw sp__law_stem : DSp) : TDS :=
  (dSeq (dAsg (dLc (fun σ s R => (daCons (dCall sp__law_draw (daCons (dVar 0) (daCons (dC (.int 7)) daNil))) daNil) σ s fun ds s1 => iRng1D R ds s1) (dgName 10) dYes (dCall sp__law_spot (daCons (dVar 0) (daCons (dVar 1) (daCons (dVar 2) (daCons (dVar 7) daNil))))) [10]) (dgName 9))
    (l__law_formed_1_3 K sp__law_priced sp__law_spot sp__law_draw sp__law_stem))
def l__law_formed_1_1 (K : PySem.W.Frag) (sp__law_priced sp__law_spot sp__law_draw sp__law_stem : DSp) : TDS :=
  (dSeq (dAsg (dLc (fun σ s R => (daCons (dCall sp__law_draw (daCons (dVar 0) (daCons (dC (.int 4)) daNil))) daNil) σ s fun ds s1 => iRng1D R ds s1) (dgName 10) dYes (dOp rAdd (dTup (daCons (dCall sp__law_stem (daCons (dVar 0) daNil)) daNil)) (dSl (rSlD K) (dCall sp__law_spot (daCons (dVar 0) (daCons (dVar 1) (daCons (dVar 2) (daCons (dC (.int 1)) daNil))))) (dPart (dC (.int 1))) dNoPart)) [10]) (dgName 8))
    (l__law_formed_1_2 K sp__law_priced sp__law_spot sp__law_draw sp__law_stem))
def l__law_formed_1 (K : PySem.W.Frag) (sp__law_priced sp__law_spot sp__law_draw sp__law_stem : DSp) : TDS :=
  (dSeq (dAsg (dCB rLenD (daCons (dOp rIxD (dOp rIxD (dOp rIxD (dVar 1) (dC (.int 4))) (dOp rIxD (dVar 5) (dC (.int 0)))) (dC (.int 1))) daNil)) (dgName 7))
    (l__law_formed_1_1 K sp__law_priced sp__law_spot sp__law_draw sp__law_stem))
def b__law_formed_3 (K : PySem.W.Frag) (sp__law_priced sp__law_spot sp__law_draw sp__law_stem : DSp) : TDS :=
  (dRet (dTup (daCons (dC (.str "credits")) (daCons (dCB rTupOf (daCons (dVar 3) daNil)) daNil))))
def b__law_formed_2 (K : PySem.W.Frag) (sp__law_priced sp__law_spot sp__law_draw sp__law_stem : DSp) : TDS :=
  (dSeq (dFor (dIter (dVar 4)) (dgTup 2 (dgCons (dgName 5) (dgCons (dgName 6) dgNil))) (l__law_formed_1 K sp__law_priced sp__law_spot sp__law_draw sp__law_stem))
    (b__law_formed_3 K sp__law_priced sp__law_spot sp__law_draw sp__law_stem))
def b__law_formed_1 (K : PySem.W.Frag) (sp__law_priced sp__law_spot sp__law_draw sp__law_stem : DSp) : TDS :=
  (dSeq (dAsg (dCall sp__law_priced (daCons (dVar 0) (daCons (dLc (fun σ s R => (daCons (dCall sp__law_draw (daCons (dVar 0) (daCons (dC (.int 5)) daNil))) daNil) σ s fun ds s1 => iRng1D R ds s1) (dgName 10) dYes (dCall sp__law_spot (daCons (dVar 0) (daCons (dVar 1) (daCons (dVar 2) (daCons (dCB rLenD (daCons (dOp rIxD (dVar 1) (dC (.int 4))) daNil)) daNil))))) [10]) daNil))) (dgName 4))
    (b__law_formed_2 K sp__law_priced sp__law_spot sp__law_draw sp__law_stem))
def t__law_formed (K : PySem.W.Frag) (sp__law_priced sp__law_spot sp__law_draw sp__law_stem : DSp) : TDS :=
  (dSeq (dAsg (dLst daNil) (dgName 3))
    (b__law_formed_1 K sp__law_priced sp__law_spot sp__law_draw sp__law_stem))
def N__law_odd : List Str := ["jar", "thing", "at", "moved", "doubled", "less", "longer"]
def t__law_odd (K : PySem.W.Frag) (sp__law_of sp__law_draw : DSp) : TDS :=
  (dSeq (dIfS (dAnd (dTru (dUn (rIsi .tuple) (dVar 1))) (dTest (dOp rGt (dCB rLenD (daCons (dVar 1) daNil)) (dC (.int 0))))) (dSeq (dAsg (dCall sp__law_draw (daCons (dVar 0) (daCons (dCB rLenD (daCons (dVar 1) daNil)) daNil))) (dgName 2))
    (dSeq (dAsg (dOp rAdd (dOp rAdd (dOp rAdd (dSl (rSlD K) (dVar 1) dNoPart (dPart (dVar 2))) (dSl (rSlD K) (dVar 1) (dPart (dOp rAdd (dVar 2) (dC (.int 1)))) (dPart (dOp rAdd (dVar 2) (dC (.int 2)))))) (dSl (rSlD K) (dVar 1) (dPart (dVar 2)) (dPart (dOp rAdd (dVar 2) (dC (.int 1)))))) (dSl (rSlD K) (dVar 1) (dPart (dOp rAdd (dVar 2) (dC (.int 2)))) dNoPart)) (dgName 3))
    (dSeq (dAsg (dOp rAdd (dOp rAdd (dSl (rSlD K) (dVar 1) dNoPart (dPart (dVar 2))) (dSl (rSlD K) (dVar 1) (dPart (dVar 2)) (dPart (dOp rAdd (dVar 2) (dC (.int 1)))))) (dSl (rSlD K) (dVar 1) (dPart (dVar 2)) dNoPart)) (dgName 4))
    (dSeq (dAsg (dOp rAdd (dSl (rSlD K) (dVar 1) dNoPart (dPart (dVar 2))) (dSl (rSlD K) (dVar 1) (dPart (dOp rAdd (dVar 2) (dC (.int 1)))) dNoPart)) (dgName 5))
    (dRet (dCall sp__law_of (daCons (dVar 0) (daCons (dLst (daCons (dVar 3) (daCons (dVar 4) (daCons (dVar 5) (daCons (dVar 4) (daCons (dVar 3) (daCons (dOp rAdd (dVar 1) (dTup (daCons (dC (.int 0)) daNil))) (daCons (dOp rAdd (dVar 1) (dTup (daCons (dC .non) daNil))) (daCons (dTup (daCons (dVar 1) daNil)) (daCons (dTup daNil) (daCons (dC .non) daNil))))))))))) daNil)))))))) dNext)
    (dSeq (dIfS (dTru (dUn (rIsi .tuple) (dVar 1))) (dRet (dCall sp__law_of (daCons (dVar 0) (daCons (dLst (daCons (dC .non) (daCons (dC (.int 0)) (daCons (dC (.str "")) (daCons (dTup (daCons (dC (.int 0)) daNil)) (daCons (dTup (daCons (dTup daNil) daNil)) (daCons (dTup (daCons (dC .non) daNil)) (daCons (dC (.bl false)) daNil)))))))) daNil)))) dNext)
    (dSeq (dIfS (dTru (dUn (rIsi .str) (dVar 1))) (dSeq (dAsg (dLst (daCons (dOp rAdd (dVar 1) (dC (.str "a"))) (daCons (dOp rAdd (dVar 1) (dC (.str "0"))) (daCons (dOp rAdd (dVar 1) (dC (.str "12345678"))) (daCons (dOp rAdd (dC (.str "9")) (dSl (rSlD K) (dVar 1) dNoPart (dPart (dC (.int 3))))) (daCons (dOp rAdd (dSl (rSlD K) (dVar 1) dNoPart (dPart (dC (.int 3)))) (dC (.str "Z"))) (daCons (dOp rAdd (dSl (rSlD K) (dVar 1) dNoPart (dPart (dC (.int 2)))) (dC (.str " a"))) daNil))))))) (dgName 6))
    (dRet (dCall sp__law_of (daCons (dVar 0) (daCons (dOp rAdd (dVar 6) (dLst (daCons (dC (.str "")) (daCons (dC (.str "end")) (daCons (dC (.str "credits")) (daCons (dC .non) (daCons (dC (.int 0)) (daCons (dC (.bl true)) (daCons (dTup (daCons (dVar 1) daNil)) daNil))))))))) daNil))))) dNext)
    (dRet (dCall sp__law_of (daCons (dVar 0) (daCons (dLst (daCons (dOp rAdd (dVar 1) (dC (.int 1))) (daCons (dOp rSub (dVar 1) (dC (.int 1))) (daCons (dUn rNeg (dC (.int 1))) (daCons (dOp rSub (dUn rNeg (dC (.int 1))) (dVar 1)) (daCons (dOp (rEqD id) (dVar 1) (dC (.int 1))) (daCons (dC (.bl true)) (daCons (dC (.bl false)) (daCons (dC .non) (daCons (dC (.str "1")) (daCons (dTup (daCons (dVar 1) daNil)) (daCons (dC (.int 12)) (daCons (dC (.int 14)) (daCons (dC (.int 2)) daNil)))))))))))))) daNil)))))))
def N__law_paths : List Str := ["thing", "found", "layer", "depth", "deeper", "way", "part", "at"]
def l__law_paths_3 (K : PySem.W.Frag) : TDS :=
  (dDrop (dAppend (dVar 4) (dTup (daCons (dOp rAdd (dVar 5) (dTup (daCons (dVar 7) daNil))) (daCons (dOp rIxD (dVar 6) (dVar 7)) daNil)))))
def l__law_paths_2 (K : PySem.W.Frag) : TDS :=
  (dIfS (dTru (dUn (rIsi .tuple) (dVar 6))) (dFor (fun σ s R => (daCons (dCB rLenD (daCons (dVar 6) daNil)) daNil) σ s fun ds s1 => iRng1D R ds s1) (dgName 7) (l__law_paths_3 K)) dNext)
def l__law_paths_1_3 (K : PySem.W.Frag) : TDS :=
  (dAsg (dVar 4) (dgName 2))
def l__law_paths_1_2 (K : PySem.W.Frag) : TDS :=
  (dSeq (dFor (dIter (dVar 2)) (dgTup 2 (dgCons (dgName 5) (dgCons (dgName 6) dgNil))) (l__law_paths_2 K))
    (l__law_paths_1_3 K))
def l__law_paths_1_1 (K : PySem.W.Frag) : TDS :=
  (dSeq (dAsg (dLst daNil) (dgName 4))
    (l__law_paths_1_2 K))
def l__law_paths_1 (K : PySem.W.Frag) : TDS :=
  (dSeq (dAsg (dOp rAdd (dVar 1) (dLc (dIter (dVar 2)) (dgTup 2 (dgCons (dgName 5) (dgCons (dgName 6) dgNil))) dYes (dVar 5) [5, 6])) (dgName 1))
    (l__law_paths_1_1 K))
def b__law_paths_3 (K : PySem.W.Frag) : TDS :=
  (dRet (dVar 1))
def b__law_paths_2 (K : PySem.W.Frag) : TDS :=
  (dSeq (dFor (fun σ s R => (daCons (dC (.int 10)) daNil) σ s fun ds s1 => iRng1D R ds s1) (dgName 3) (l__law_paths_1 K))
    (b__law_paths_3 K))
def b__law_paths_1 (K : PySem.W.Frag) : TDS :=
  (dSeq (dAsg (dLst (daCons (dTup (daCons (dTup daNil) (daCons (dVar 0) daNil))) daNil)) (dgName 2))
    (b__law_paths_2 K))
def t__law_paths (K : PySem.W.Frag) : TDS :=
  (dSeq (dAsg (dLst daNil) (dgName 1))
    (b__law_paths_1 K))
def N__law_part : List Str := ["thing", "way", "at"]
def t__law_part (K : PySem.W.Frag) : TDS :=
  (dSeq (dFor (dIter (dVar 1)) (dgName 2) (dAsg (dOp rIxD (dVar 0) (dVar 2)) (dgName 0)))
    (dRet (dVar 0)))
def N__law_put : List Str := ["thing", "way", "other", "at"]
def t__law_put (K : PySem.W.Frag) (sp__law_put : DSp) : TDS :=
  (dSeq (dIfS (dTest (dOp (rEqD id) (dCB rLenD (daCons (dVar 1) daNil)) (dC (.int 0)))) (dRet (dVar 2)) dNext)
    (dSeq (dAsg (dOp rIxD (dVar 1) (dC (.int 0))) (dgName 3))
    (dRet (dOp rAdd (dOp rAdd (dSl (rSlD K) (dVar 0) dNoPart (dPart (dVar 3))) (dTup (daCons (dCall sp__law_put (daCons (dOp rIxD (dVar 0) (dVar 3)) (daCons (dSl (rSlD K) (dVar 1) (dPart (dC (.int 1))) dNoPart) (daCons (dVar 2) daNil)))) daNil))) (dSl (rSlD K) (dVar 0) (dPart (dOp rAdd (dVar 3) (dC (.int 1)))) dNoPart)))))
def N__law_bent : List Str := ["jar", "thing", "many", "ways", "short", "found", "turn", "way"]
def l__law_bent_1_1 (K : PySem.W.Frag) (sp__law_paths sp__law_of sp__law_put sp__law_odd sp__law_part : DSp) : TDS :=
  (dDrop (dAppend (dVar 5) (dCall sp__law_put (daCons (dVar 1) (daCons (dVar 7) (daCons (dCall sp__law_odd (daCons (dVar 0) (daCons (dCall sp__law_part (daCons (dVar 1) (daCons (dVar 7) daNil))) daNil))) daNil))))))
def l__law_bent_1 (K : PySem.W.Frag) (sp__law_paths sp__law_of sp__law_put sp__law_odd sp__law_part : DSp) : TDS :=
  (dSeq (dAsg (dCall sp__law_of (daCons (dVar 0) (daCons (dIf (dTest (dOp rLtD (dVar 6) (dOp rFdiv (dVar 2) (dC (.int 2))))) (dVar 4) (dVar 3)) daNil))) (dgName 7))
    (l__law_bent_1_1 K sp__law_paths sp__law_of sp__law_put sp__law_odd sp__law_part))
def b__law_bent_4 (K : PySem.W.Frag) (sp__law_paths sp__law_of sp__law_put sp__law_odd sp__law_part : DSp) : TDS :=
  (dRet (dVar 5))
def b__law_bent_3 (K : PySem.W.Frag) (sp__law_paths sp__law_of sp__law_put sp__law_odd sp__law_part : DSp) : TDS :=
  (dSeq (dFor (fun σ s R => (daCons (dVar 2) daNil) σ s fun ds s1 => iRng1D R ds s1) (dgName 6) (l__law_bent_1 K sp__law_paths sp__law_of sp__law_put sp__law_odd sp__law_part))
    (b__law_bent_4 K sp__law_paths sp__law_of sp__law_put sp__law_odd sp__law_part))
def b__law_bent_2 (K : PySem.W.Frag) (sp__law_paths sp__law_of sp__law_put sp__law_odd sp__law_part : DSp) : TDS :=
  (dSeq (dAsg (dLst daNil) (dgName 5))
    (b__law_bent_3 K sp__law_paths sp__law_of sp__law_put sp__law_odd sp__law_part))
def b__law_bent_1 (K : PySem.W.Frag) (sp__law_paths sp__law_of sp__law_put sp__law_odd sp__law_part : DSp) : TDS :=
  (dSeq (dAsg (dLc (dIter (dVar 3)) (dgName 7) (dTest (dOp rLe (dCB rLenD (daCons (dVar 7) daNil)) (dC (.int 4)))) (dVar 7) [7]) (dgName 4))
    (b__law_bent_2 K sp__law_paths sp__law_of sp__law_put sp__law_odd sp__law_part))
def t__law_bent (K : PySem.W.Frag) (sp__law_paths sp__law_of sp__law_put sp__law_odd sp__law_part : DSp) : TDS :=
  (dSeq (dAsg (dCall sp__law_paths (daCons (dVar 1) daNil)) (dgName 3))
    (b__law_bent_1 K sp__law_paths sp__law_of sp__law_put sp__law_odd sp__law_part))
def N__law_jar : List Str := ["script", "salt", "cells", "cell"]
def t__law_jar (K : PySem.W.Frag) : TDS :=
  (dSeq (dAsg (dLc (dIter (dSl (rSlD K) (dVar 0) dNoPart (dPart (dC (.int 63))))) (dgName 3) dYes (dCB rIntOf (daCons (dVar 3) daNil)) [3]) (dgName 2))
    (dRet (dDisp ((.inr "cells", (dVar 2)) :: ((.inr "at", (dC (.int 0))) :: ((.inr "turn", (dOp rAdd (dVar 1) (dOp rMul (dC (.int 7)) (dCB rLenD (daCons (dVar 2) daNil))))) :: ((.inr "stock", (dC (.int 0))) :: [])))))))
def N__law_mixed : List Str := ["cell", "turn", "one", "two"]
def t__law_mixed (K : PySem.W.Frag) : TDS :=
  (dSeq (dAsg (dOp rMod (dCB rIntOf (daCons (dOp rAdd (dOp rAdd (dOp rAdd (dOp rMul (dCB rAbs (daCons (dVar 0) daNil)) (dC (.int 2))) (dIf (dTest (dOp rLtD (dVar 0) (dC (.int 0)))) (dC (.int 1)) (dC (.int 0)))) (dOp rMul (dVar 1) (dC (.int 69621)))) (dC (.int 12345))) daNil)) (dC (.int 2147483647))) (dgName 2))
    (dSeq (dAsg (dOp rMod (dCB rIntOf (daCons (dOp rAdd (dOp rAdd (dOp rMul (dVar 2) (dC (.int 48271))) (dOp rMul (dOp rMul (dVar 1) (dVar 1)) (dC (.int 16807)))) (dC (.int 11))) daNil)) (dC (.int 2147483629))) (dgName 3))
    (dRet (dOp rMod (dCB rIntOf (daCons (dOp rAdd (dOp rAdd (dOp rMul (dVar 3) (dVar 3)) (dOp rMul (dVar 2) (dC (.int 7)))) (dVar 1)) daNil)) (dC (.int 2147483587))))))
def N__law_draw : List Str := ["jar", "many", "stock", "cells", "cell"]
def t__law_draw (K : PySem.W.Frag) (sp__law_mixed : DSp) : TDS :=
  (dSeq (dDPut (dVar 0) (dC (.str "turn")) (dOp rAdd (dDGet (dVar 0) (dC (.str "turn"))) (dC (.int 1))))
    (dSeq (dAsg (dDGet (dVar 0) (dC (.str "stock"))) (dgName 2))
    (dSeq (dIfS (dTest (dOp rGe (dVar 2) (dVar 1))) (dSeq (dDPut (dVar 0) (dC (.str "stock")) (dOp rFdiv (dVar 2) (dVar 1)))
    (dRet (dOp rMod (dCB rIntOf (daCons (dVar 2) daNil)) (dVar 1)))) dNext)
    (dSeq (dAsg (dDGet (dVar 0) (dC (.str "cells"))) (dgName 3))
    (dSeq (dAsg (dIf (dTest (dOp rGt (dCB rLenD (daCons (dVar 3) daNil)) (dC (.int 0)))) (dOp rIxD (dVar 3) (dOp rMod (dCB rIntOf (daCons (dDGet (dVar 0) (dC (.str "at"))) daNil)) (dCB rLenD (daCons (dVar 3) daNil)))) (dC (.int 0))) (dgName 4))
    (dSeq (dDPut (dVar 0) (dC (.str "at")) (dOp rAdd (dDGet (dVar 0) (dC (.str "at"))) (dC (.int 1))))
    (dSeq (dIfS (dAnd (dTest (dOp rGe (dCB rAbs (daCons (dVar 4) daNil)) (dOp rPow (dC (.int 10)) (dC (.int 18))))) (dTest (dOp rLe (dDGet (dVar 0) (dC (.str "at"))) (dCB rLenD (daCons (dVar 3) daNil))))) (dSeq (dDPut (dVar 0) (dC (.str "stock")) (dOp rFdiv (dCB rAbs (daCons (dVar 4) daNil)) (dVar 1)))
    (dRet (dOp rMod (dCB rIntOf (daCons (dCB rAbs (daCons (dVar 4) daNil)) daNil)) (dVar 1)))) dNext)
    (dRet (dOp rMod (dOp rFdiv (dCB rIntOf (daCons (dCall sp__law_mixed (daCons (dVar 4) (daCons (dDGet (dVar 0) (dC (.str "turn"))) daNil))) daNil)) (dC (.int 3))) (dVar 1))))))))))
def N__law_one_in : List Str := ["jar", "many"]
def t__law_one_in (K : PySem.W.Frag) (sp__law_draw : DSp) : TDS :=
  (dRet (dOp (rEqD id) (dCall sp__law_draw (daCons (dVar 0) (daCons (dVar 1) daNil))) (dOp rSub (dVar 1) (dC (.int 1)))))
def N__law_of : List Str := ["jar", "row"]
def t__law_of (K : PySem.W.Frag) (sp__law_draw : DSp) : TDS :=
  (dRet (dOp rIxD (dVar 1) (dCall sp__law_draw (daCons (dVar 0) (daCons (dCB rLenD (daCons (dVar 1) daNil)) daNil)))))
def N__law_stem : List Str := ["jar", "letters", "signs", "word", "many", "at"]
def t__law_stem (K : PySem.W.Frag) (sp__law_draw sp__law_one_in : DSp) : TDS :=
  (dSeq (dAsg (dC (.str "abcdefghijklmnopqrstuvwxyz")) (dgName 1))
    (dSeq (dAsg (dC (.str "abcdefghijklmnopqrstuvwxyz0123456789")) (dgName 2))
    (dSeq (dAsg (dOp rIxD (dVar 1) (dCall sp__law_draw (daCons (dVar 0) (daCons (dC (.int 26)) daNil)))) (dgName 3))
    (dSeq (dAsg (dIf (dTru (dCall sp__law_one_in (daCons (dVar 0) (daCons (dC (.int 6)) daNil)))) (dC (.int 7)) (dCall sp__law_draw (daCons (dVar 0) (daCons (dC (.int 3)) daNil)))) (dgName 4))
    (dSeq (dFor (fun σ s R => (daCons (dVar 4) daNil) σ s fun ds s1 => iRng1D R ds s1) (dgName 5) (dAsg (dOp rAdd (dVar 3) (dOp rIxD (dVar 2) (dCall sp__law_draw (daCons (dVar 0) (daCons (dC (.int 36)) daNil))))) (dgName 3)))
    (dRet (dVar 3)))))))
def N__law_name : List Str := ["jar", "taken", "word", "number", "near", "other"]
def l__law_name_1_1 (K : PySem.W.Frag) (sp__law_stem sp__law_one_in sp__law_of : DSp) : TDS :=
  (dIfS (dTest (dOp (rInD not) (dVar 5) (dVar 1))) (dRet (dVar 5)) dNext)
def l__law_name_1 (K : PySem.W.Frag) (sp__law_stem sp__law_one_in sp__law_of : DSp) : TDS :=
  (dSeq (dAsg (dOp rAdd (dOp rAdd (dC (.str "n")) (dCB rStrOf (daCons (dVar 3) daNil))) (dSl (rSlD K) (dVar 2) dNoPart (dPart (dC (.int 4))))) (dgName 5))
    (l__law_name_1_1 K sp__law_stem sp__law_one_in sp__law_of))
def b__law_name_4 (K : PySem.W.Frag) (sp__law_stem sp__law_one_in sp__law_of : DSp) : TDS :=
  (dRet (dVar 2))
def b__law_name_3 (K : PySem.W.Frag) (sp__law_stem sp__law_one_in sp__law_of : DSp) : TDS :=
  (dSeq (dFor (fun σ s R => (daCons (dOp rAdd (dCB rLenD (daCons (dVar 1) daNil)) (dC (.int 2))) daNil) σ s fun ds s1 => iRng1D R ds s1) (dgName 3) (l__law_name_1 K sp__law_stem sp__law_one_in sp__law_of))
    (b__law_name_4 K sp__law_stem sp__law_one_in sp__law_of))
def b__law_name_2 (K : PySem.W.Frag) (sp__law_stem sp__law_one_in sp__law_of : DSp) : TDS :=
  (dSeq (dIfS (dAnd (dTest (dOp (rInD not) (dVar 2) (dVar 1))) (dTest (dOp (rEqD not) (dVar 2) (dC (.str "end"))))) (dRet (dVar 2)) dNext)
    (b__law_name_3 K sp__law_stem sp__law_one_in sp__law_of))
def b__law_name_1 (K : PySem.W.Frag) (sp__law_stem sp__law_one_in sp__law_of : DSp) : TDS :=
  (dSeq (dIfS (dAnd (dTest (dOp rGt (dCB rLenD (daCons (dVar 1) daNil)) (dC (.int 0)))) (dTru (dCall sp__law_one_in (daCons (dVar 0) (daCons (dC (.int 4)) daNil))))) (dSeq (dAsg (dCall sp__law_of (daCons (dVar 0) (daCons (dVar 1) daNil))) (dgName 4))
    (dAsg (dOp rAdd (dIf (dTest (dOp (rEqD id) (dCB rLenD (daCons (dVar 4) daNil)) (dC (.int 8)))) (dSl (rSlD K) (dVar 4) dNoPart (dPart (dC (.int 7)))) (dVar 4)) (dCall sp__law_of (daCons (dVar 0) (daCons (dLst (daCons (dC (.str "a")) (daCons (dC (.str "b")) (daCons (dC (.str "0")) (daCons (dC (.str "9")) daNil))))) daNil)))) (dgName 2))) dNext)
    (b__law_name_2 K sp__law_stem sp__law_one_in sp__law_of))
def t__law_name (K : PySem.W.Frag) (sp__law_stem sp__law_one_in sp__law_of : DSp) : TDS :=
  (dSeq (dAsg (dCall sp__law_stem (daCons (dVar 0) daNil)) (dgName 2))
    (b__law_name_1 K sp__law_stem sp__law_one_in sp__law_of))
def N__law_names : List Str := ["jar", "many", "found", "at"]
def l__law_names_1 (K : PySem.W.Frag) (sp__law_name : DSp) : TDS :=
  (dDrop (dAppend (dVar 2) (dCall sp__law_name (daCons (dVar 0) (daCons (dVar 2) daNil)))))
def b__law_names_2 (K : PySem.W.Frag) (sp__law_name : DSp) : TDS :=
  (dRet (dVar 2))
def b__law_names_1 (K : PySem.W.Frag) (sp__law_name : DSp) : TDS :=
  (dSeq (dFor (fun σ s R => (daCons (dVar 1) daNil) σ s fun ds s1 => iRng1D R ds s1) (dgName 3) (l__law_names_1 K sp__law_name))
    (b__law_names_2 K sp__law_name))
def t__law_names (K : PySem.W.Frag) (sp__law_name : DSp) : TDS :=
  (dSeq (dAsg (dLst daNil) (dgName 2))
    (b__law_names_1 K sp__law_name))
def N__law_target : List Str := ["jar", "at", "many"]
def t__law_target (K : PySem.W.Frag) (sp__law_draw sp__law_one_in : DSp) : TDS :=
  (dSeq (dIfS (dAnd (dTest (dOp rLtD (dOp rAdd (dVar 1) (dC (.int 1))) (dVar 2))) (dNot (dTru (dCall sp__law_one_in (daCons (dVar 0) (daCons (dC (.int 3)) daNil)))))) (dRet (dOp rAdd (dOp rAdd (dVar 1) (dC (.int 1))) (dCall sp__law_draw (daCons (dVar 0) (daCons (dOp rSub (dOp rSub (dVar 2) (dVar 1)) (dC (.int 1))) daNil))))) dNext)
    (dRet (dCall sp__law_draw (daCons (dVar 0) (daCons (dVar 2) daNil)))))
def N__law_price : List Str := ["jar", "wide", "way"]
def t__law_price (K : PySem.W.Frag) (sp__law_draw sp__law_of : DSp) : TDS :=
  (dSeq (dAsg (dCall sp__law_draw (daCons (dVar 0) (daCons (dC (.int 12)) daNil))) (dgName 2))
    (dSeq (dIfS (dAnd (dTest (dOp (rEqD id) (dVar 2) (dC (.int 0)))) (dTru (dVar 1))) (dRet (dCall sp__law_of (daCons (dVar 0) (daCons (dLst (daCons (dUn rNeg (dC (.int 50))) (daCons (dC (.int 50)) (daCons (dC (.int 49)) (daCons (dUn rNeg (dC (.int 49))) daNil))))) daNil)))) dNext)
    (dSeq (dIfS (dTest (dOp rLe (dVar 2) (dC (.int 2)))) (dRet (dOp rSub (dUn rNeg (dC (.int 1))) (dCall sp__law_draw (daCons (dVar 0) (daCons (dC (.int 4)) daNil))))) dNext)
    (dSeq (dIfS (dTest (dOp (rEqD id) (dVar 2) (dC (.int 3)))) (dRet (dC (.int 0))) dNext)
    (dRet (dOp rAdd (dC (.int 1)) (dCall sp__law_draw (daCons (dVar 0) (daCons (dC (.int 6)) daNil)))))))))
def N__law_words : List Str := ["jar", "proc", "many", "reads", "calls", "starts", "asks", "words", "at", "pool"]
def l__law_words_1_6 (K : PySem.W.Frag) (sp__law_one_in sp__law_of : DSp) : TDS :=
  (dDrop (dAppend (dVar 7) (dCall sp__law_of (daCons (dVar 0) (daCons (dVar 9) daNil)))))
def l__law_words_1_5 (K : PySem.W.Frag) (sp__law_one_in sp__law_of : DSp) : TDS :=
  (dSeq (dIfS (dAnd (dTest (dOp rGt (dVar 8) (dC (.int 0)))) (dTru (dCall sp__law_one_in (daCons (dVar 0) (daCons (dC (.int 6)) daNil))))) (dAsg (dLst (daCons (dC (.str "done")) daNil)) (dgName 9)) dNext)
    (l__law_words_1_6 K sp__law_one_in sp__law_of))
def l__law_words_1_4 (K : PySem.W.Frag) (sp__law_one_in sp__law_of : DSp) : TDS :=
  (dSeq (dIfS (dAnd (dTru (dVar 6)) (dTest (dOp (rEqD id) (dVar 1) (dC (.int 0))))) (dAsg (dOp rAdd (dVar 9) (dLst (daCons (dC (.str "ask")) (daCons (dC (.str "ask")) daNil)))) (dgName 9)) dNext)
    (l__law_words_1_5 K sp__law_one_in sp__law_of))
def l__law_words_1_3 (K : PySem.W.Frag) (sp__law_one_in sp__law_of : DSp) : TDS :=
  (dSeq (dIfS (dTru (dVar 5)) (dAsg (dOp rAdd (dVar 9) (dLst (daCons (dC (.str "start")) daNil))) (dgName 9)) dNext)
    (l__law_words_1_4 K sp__law_one_in sp__law_of))
def l__law_words_1_2 (K : PySem.W.Frag) (sp__law_one_in sp__law_of : DSp) : TDS :=
  (dSeq (dIfS (dTru (dVar 4)) (dAsg (dOp rAdd (dVar 9) (dLst (daCons (dC (.str "call")) (daCons (dC (.str "call")) daNil)))) (dgName 9)) dNext)
    (l__law_words_1_3 K sp__law_one_in sp__law_of))
def l__law_words_1_1 (K : PySem.W.Frag) (sp__law_one_in sp__law_of : DSp) : TDS :=
  (dSeq (dIfS (dTru (dVar 3)) (dAsg (dOp rAdd (dVar 9) (dLst (daCons (dC (.str "read")) (daCons (dC (.str "read")) (daCons (dC (.str "read")) daNil))))) (dgName 9)) dNext)
    (l__law_words_1_2 K sp__law_one_in sp__law_of))
def l__law_words_1 (K : PySem.W.Frag) (sp__law_one_in sp__law_of : DSp) : TDS :=
  (dSeq (dAsg (dLst (daCons (dC (.str "pay")) (daCons (dC (.str "pay")) (daCons (dC (.str "pick")) (daCons (dC (.str "pay")) daNil))))) (dgName 9))
    (l__law_words_1_1 K sp__law_one_in sp__law_of))
def b__law_words_3 (K : PySem.W.Frag) (sp__law_one_in sp__law_of : DSp) : TDS :=
  (dRet (dVar 7))
def b__law_words_2 (K : PySem.W.Frag) (sp__law_one_in sp__law_of : DSp) : TDS :=
  (dSeq (dIfS (dNot (dTru (dCall sp__law_one_in (daCons (dVar 0) (daCons (dC (.int 9)) daNil))))) (dAsg (dC (.str "done")) (fun z σ s Q => (dVar 7) σ s fun x s2 => (dOp rSub (dVar 2) (dC (.int 1))) σ s2 fun y s3 => ∃ a ds i j, x = .ref a ∧ s3 a = some (.lst ds) ∧ y = .int i ∧ L2.ixN ds.length i = some j ∧ Q σ (s3.set a (.lst (ds.set j z))))) dNext)
    (b__law_words_3 K sp__law_one_in sp__law_of))
def b__law_words_1 (K : PySem.W.Frag) (sp__law_one_in sp__law_of : DSp) : TDS :=
  (dSeq (dFor (fun σ s R => (daCons (dVar 2) daNil) σ s fun ds s1 => iRng1D R ds s1) (dgName 8) (l__law_words_1 K sp__law_one_in sp__law_of))
    (b__law_words_2 K sp__law_one_in sp__law_of))
def t__law_words (K : PySem.W.Frag) (sp__law_one_in sp__law_of : DSp) : TDS :=
  (dSeq (dAsg (dLst daNil) (dgName 7))
    (b__law_words_1 K sp__law_one_in sp__law_of))
def N__law_shape : List Str := ["jar", "asks", "purses", "rows", "procs", "calm", "words", "proc", "many", "reads", "calls", "starts", "at"]
def l__law_shape_1_4 (K : PySem.W.Frag) (sp__law_of sp__law_one_in sp__law_draw sp__law_words : DSp) : TDS :=
  (dDrop (dAppend (dVar 6) (dCall sp__law_words (daCons (dVar 0) (daCons (dVar 7) (daCons (dVar 8) (daCons (dVar 9) (daCons (dVar 10) (daCons (dVar 11) (daCons (dVar 1) daNil))))))))))
def l__law_shape_1_3 (K : PySem.W.Frag) (sp__law_of sp__law_one_in sp__law_draw sp__law_words : DSp) : TDS :=
  (dSeq (dAsg (dOp rLtD (dVar 5) (dVar 4)) (dgName 11))
    (l__law_shape_1_4 K sp__law_of sp__law_one_in sp__law_draw sp__law_words))
def l__law_shape_1_2 (K : PySem.W.Frag) (sp__law_of sp__law_one_in sp__law_draw sp__law_words : DSp) : TDS :=
  (dSeq (dAsg (dAndV (dOp rGt (dVar 4) (dC (.int 1))) (dOrV (dOp rLtD (dVar 7) (dVar 5)) (dOp rLtD (dVar 5) (dVar 4)))) (dgName 10))
    (l__law_shape_1_3 K sp__law_of sp__law_one_in sp__law_draw sp__law_words))
def l__law_shape_1_1 (K : PySem.W.Frag) (sp__law_of sp__law_one_in sp__law_draw sp__law_words : DSp) : TDS :=
  (dSeq (dAsg (dAndV (dOp rGt (dCB rLenD (daCons (dVar 3) daNil)) (dC (.int 0))) (dOrV (dOp (rEqD id) (dVar 7) (dC (.int 0))) (dOp rLtD (dVar 7) (dVar 5)))) (dgName 9))
    (l__law_shape_1_2 K sp__law_of sp__law_one_in sp__law_draw sp__law_words))
def l__law_shape_1 (K : PySem.W.Frag) (sp__law_of sp__law_one_in sp__law_draw sp__law_words : DSp) : TDS :=
  (dSeq (dAsg (dOp rAdd (dC (.int 2)) (dCall sp__law_draw (daCons (dVar 0) (daCons (dC (.int 5)) daNil)))) (dgName 8))
    (l__law_shape_1_1 K sp__law_of sp__law_one_in sp__law_draw sp__law_words))
def b__law_shape_6 (K : PySem.W.Frag) (sp__law_of sp__law_one_in sp__law_draw sp__law_words : DSp) : TDS :=
  (dRet (dLst (daCons (dVar 2) (daCons (dVar 3) (daCons (dVar 6) (daCons (dVar 5) daNil))))))
def b__law_shape_5 (K : PySem.W.Frag) (sp__law_of sp__law_one_in sp__law_draw sp__law_words : DSp) : TDS :=
  (dSeq (dFor (fun σ s R => (daCons (dVar 4) daNil) σ s fun ds s1 => iRng1D R ds s1) (dgName 7) (l__law_shape_1 K sp__law_of sp__law_one_in sp__law_draw sp__law_words))
    (b__law_shape_6 K sp__law_of sp__law_one_in sp__law_draw sp__law_words))
def b__law_shape_4 (K : PySem.W.Frag) (sp__law_of sp__law_one_in sp__law_draw sp__law_words : DSp) : TDS :=
  (dSeq (dAsg (dLst daNil) (dgName 6))
    (b__law_shape_5 K sp__law_of sp__law_one_in sp__law_draw sp__law_words))
def b__law_shape_3 (K : PySem.W.Frag) (sp__law_of sp__law_one_in sp__law_draw sp__law_words : DSp) : TDS :=
  (dSeq (dAsg (dIf (dTru (dCall sp__law_one_in (daCons (dVar 0) (daCons (dC (.int 3)) daNil)))) (dVar 4) (dOp rAdd (dC (.int 1)) (dCall sp__law_draw (daCons (dVar 0) (daCons (dVar 4) daNil))))) (dgName 5))
    (b__law_shape_4 K sp__law_of sp__law_one_in sp__law_draw sp__law_words))
def b__law_shape_2 (K : PySem.W.Frag) (sp__law_of sp__law_one_in sp__law_draw sp__law_words : DSp) : TDS :=
  (dSeq (dAsg (dCall sp__law_of (daCons (dVar 0) (daCons (dLst (daCons (dC (.int 1)) (daCons (dC (.int 1)) (daCons (dC (.int 2)) (daCons (dC (.int 2)) (daCons (dC (.int 2)) (daCons (dC (.int 3)) (daCons (dC (.int 3)) daNil)))))))) daNil))) (dgName 4))
    (b__law_shape_3 K sp__law_of sp__law_one_in sp__law_draw sp__law_words))
def b__law_shape_1 (K : PySem.W.Frag) (sp__law_of sp__law_one_in sp__law_draw sp__law_words : DSp) : TDS :=
  (dSeq (dAsg (dLc (fun σ s R => (daCons (dCall sp__law_of (daCons (dVar 0) (daCons (dLst (daCons (dC (.int 0)) (daCons (dC (.int 1)) (daCons (dC (.int 1)) (daCons (dC (.int 1)) (daCons (dC (.int 2)) (daCons (dC (.int 2)) daNil))))))) daNil))) daNil) σ s fun ds s1 => iRng1D R ds s1) (dgName 12) dYes (dOp rAdd (dC (.int 1)) (dCall sp__law_draw (daCons (dVar 0) (daCons (dC (.int 3)) daNil)))) [12]) (dgName 3))
    (b__law_shape_2 K sp__law_of sp__law_one_in sp__law_draw sp__law_words))
def t__law_shape (K : PySem.W.Frag) (sp__law_of sp__law_one_in sp__law_draw sp__law_words : DSp) : TDS :=
  (dSeq (dAsg (dCall sp__law_of (daCons (dVar 0) (daCons (dLst (daCons (dC (.int 1)) (daCons (dC (.int 1)) (daCons (dC (.int 2)) (daCons (dC (.int 2)) (daCons (dC (.int 3)) daNil)))))) daNil))) (dgName 2))
    (b__law_shape_1 K sp__law_of sp__law_one_in sp__law_draw sp__law_words))
def N__law_callee : List Str := ["jar", "proc", "calm", "procs", "start", "low"]
def t__law_callee (K : PySem.W.Frag) (sp__law_draw : DSp) : TDS :=
  (dSeq (dAsg (dIf (dOr (dTru (dVar 4)) (dTest (dOp rGe (dVar 1) (dVar 2)))) (dVar 2) (dC (.int 1))) (dgName 5))
    (dSeq (dAsg (dCB rMax (daCons (dC (.int 1)) (daCons (dVar 5) daNil))) (dgName 5))
    (dRet (dOp rAdd (dVar 5) (dCall sp__law_draw (daCons (dVar 0) (daCons (dOp rSub (dVar 3) (dVar 5)) daNil)))))))
def N__law_exits : List Str := ["deeds", "found", "word", "name"]
def l__law_exits_1 (K : PySem.W.Frag) : TDS :=
  (dIfS (dAnd (dTest (dOp (rEqD id) (dVar 2) (dC (.str "done")))) (dTest (dOp (rInD not) (dVar 3) (dVar 1)))) (dDrop (dAppend (dVar 1) (dVar 3))) dNext)
def b__law_exits_2 (K : PySem.W.Frag) : TDS :=
  (dRet (dCB rSortedD (daCons (dVar 1) daNil)))
def b__law_exits_1 (K : PySem.W.Frag) : TDS :=
  (dSeq (dFor (dIter (dVar 0)) (dgTup 2 (dgCons (dgName 2) (dgCons (dgName 3) dgNil))) (l__law_exits_1 K))
    (b__law_exits_2 K))
def t__law_exits (K : PySem.W.Frag) : TDS :=
  (dSeq (dAsg (dLst daNil) (dgName 1))
    (b__law_exits_1 K))
def N__law_deed : List Str := ["jar", "names", "plan", "proc", "at", "exits", "rows", "wide", "word", "many", "callee", "ways", "purses", "kinds", "words", "calm", "amounts", "row", "targets", "name", "kind", "purse", "one"]
def b__law_deed_10 (K : PySem.W.Frag) (sp__law_callee sp__law_draw sp__law_price sp__law_target : DSp) : TDS :=
  (dRet (dTup (daCons (dC (.str "call")) (daCons (dOp rIxD (dOp rIxD (dVar 5) (dVar 10)) (dC (.int 0))) (daCons (dCB rTupOf (daCons (dVar 11) daNil)) daNil)))))
def b__law_deed_9 (K : PySem.W.Frag) (sp__law_callee sp__law_draw sp__law_price sp__law_target : DSp) : TDS :=
  (dSeq (dAsg (dLc (dIter (dOp rIxD (dOp rIxD (dVar 5) (dVar 10)) (dC (.int 1)))) (dgName 19) dYes (dTup (daCons (dVar 19) (daCons (dOp rIxD (dVar 1) (dCall sp__law_target (daCons (dVar 0) (daCons (dVar 4) (daCons (dVar 9) daNil))))) daNil))) [19]) (dgName 11))
    (b__law_deed_10 K sp__law_callee sp__law_draw sp__law_price sp__law_target))
def b__law_deed_8 (K : PySem.W.Frag) (sp__law_callee sp__law_draw sp__law_price sp__law_target : DSp) : TDS :=
  (dSeq (dIfS (dTest (dOp (rEqD id) (dVar 8) (dC (.str "start")))) (dRet (dTup (daCons (dC (.str "start")) (daCons (dOp rIxD (dOp rIxD (dVar 5) (dVar 10)) (dC (.int 0))) (daCons (dOp rIxD (dVar 1) (dCall sp__law_target (daCons (dVar 0) (daCons (dVar 4) (daCons (dVar 9) daNil))))) daNil))))) dNext)
    (b__law_deed_9 K sp__law_callee sp__law_draw sp__law_price sp__law_target))
def b__law_deed_7 (K : PySem.W.Frag) (sp__law_callee sp__law_draw sp__law_price sp__law_target : DSp) : TDS :=
  (dSeq (dAsg (dCall sp__law_callee (daCons (dVar 0) (daCons (dVar 3) (daCons (dVar 15) (daCons (dCB rLenD (daCons (dVar 14) daNil)) (daCons (dOp (rEqD id) (dVar 8) (dC (.str "start"))) daNil)))))) (dgName 10))
    (b__law_deed_8 K sp__law_callee sp__law_draw sp__law_price sp__law_target))
def b__law_deed_6 (K : PySem.W.Frag) (sp__law_callee sp__law_draw sp__law_price sp__law_target : DSp) : TDS :=
  (dSeq (dIfS (dOr (dTest (dOp (rEqD id) (dVar 8) (dC (.str "pick")))) (dTest (dOp (rEqD id) (dVar 8) (dC (.str "ask"))))) (dRet (dTup (daCons (dVar 8) (daCons (dCB rTupOf (daCons (dLc (fun σ s R => (daCons (dOp rAdd (dC (.int 2)) (dCall sp__law_draw (daCons (dVar 0) (daCons (dC (.int 2)) daNil)))) daNil) σ s fun ds s1 => iRng1D R ds s1) (dgName 22) dYes (dOp rIxD (dVar 1) (dCall sp__law_target (daCons (dVar 0) (daCons (dVar 4) (daCons (dVar 9) daNil))))) [22]) daNil)) daNil)))) dNext)
    (b__law_deed_7 K sp__law_callee sp__law_draw sp__law_price sp__law_target))
def b__law_deed_5 (K : PySem.W.Frag) (sp__law_callee sp__law_draw sp__law_price sp__law_target : DSp) : TDS :=
  (dSeq (dIfS (dTest (dOp (rEqD id) (dVar 8) (dC (.str "read")))) (dSeq (dAsg (dCall sp__law_draw (daCons (dVar 0) (daCons (dCB rLenD (daCons (dVar 13) daNil)) daNil))) (dgName 17))
    (dSeq (dAsg (dLc (fun σ s R => (daCons (dOp rAdd (dOp rIxD (dVar 13) (dVar 17)) (dC (.int 1))) daNil) σ s fun ds s1 => iRng1D R ds s1) (dgName 20) dYes (dOp rIxD (dVar 1) (dCall sp__law_target (daCons (dVar 0) (daCons (dVar 4) (daCons (dVar 9) daNil))))) [20]) (dgName 18))
    (dRet (dTup (daCons (dC (.str "read")) (daCons (dOp rIxD (dOp rIxD (dVar 6) (dVar 17)) (dC (.int 0))) (daCons (dCB rTupOf (daCons (dVar 18) daNil)) daNil))))))) dNext)
    (b__law_deed_6 K sp__law_callee sp__law_draw sp__law_price sp__law_target))
def b__law_deed_4 (K : PySem.W.Frag) (sp__law_callee sp__law_draw sp__law_price sp__law_target : DSp) : TDS :=
  (dSeq (dIfS (dTest (dOp (rEqD id) (dVar 8) (dC (.str "pay")))) (dSeq (dAsg (dCB rTupOf (daCons (dLc (fun σ s R => (daCons (dVar 12) daNil) σ s fun ds s1 => iRng1D R ds s1) (dgName 21) dYes (dCall sp__law_price (daCons (dVar 0) (daCons (dVar 7) daNil))) [21]) daNil)) (dgName 16))
    (dRet (dTup (daCons (dC (.str "pay")) (daCons (dVar 16) (daCons (dOp rIxD (dVar 1) (dCall sp__law_target (daCons (dVar 0) (daCons (dVar 4) (daCons (dVar 9) daNil))))) daNil)))))) dNext)
    (b__law_deed_5 K sp__law_callee sp__law_draw sp__law_price sp__law_target))
def b__law_deed_3 (K : PySem.W.Frag) (sp__law_callee sp__law_draw sp__law_price sp__law_target : DSp) : TDS :=
  (dSeq (dIfS (dTest (dOp (rEqD id) (dVar 8) (dC (.str "done")))) (dRet (dTup (daCons (dC (.str "done")) (daCons (dOp rIxD (dOp rIxD (dOp rIxD (dVar 14) (dVar 3)) (dVar 4)) (dC (.int 1))) daNil)))) dNext)
    (b__law_deed_4 K sp__law_callee sp__law_draw sp__law_price sp__law_target))
def b__law_deed_2 (K : PySem.W.Frag) (sp__law_callee sp__law_draw sp__law_price sp__law_target : DSp) : TDS :=
  (dSeq (dAsg (dCB rLenD (daCons (dVar 1) daNil)) (dgName 9))
    (b__law_deed_3 K sp__law_callee sp__law_draw sp__law_price sp__law_target))
def b__law_deed_1 (K : PySem.W.Frag) (sp__law_callee sp__law_draw sp__law_price sp__law_target : DSp) : TDS :=
  (dSeq (dAsg (dOp rIxD (dOp rIxD (dOp rIxD (dVar 14) (dVar 3)) (dVar 4)) (dC (.int 0))) (dgName 8))
    (b__law_deed_2 K sp__law_callee sp__law_draw sp__law_price sp__law_target))
def t__law_deed (K : PySem.W.Frag) (sp__law_callee sp__law_draw sp__law_price sp__law_target : DSp) : TDS :=
  (dSeq (dAsg (dVar 2) (dgSeq 4 (dgCons (dgName 12) (dgCons (dgName 13) (dgCons (dgName 14) (dgCons (dgName 15) dgNil))))))
    (b__law_deed_1 K sp__law_callee sp__law_draw sp__law_price sp__law_target))
def N__law_program : List Str := ["jar", "asks", "wide", "gates", "told", "row", "plan", "rows", "rownames", "procnames", "exits", "procs", "proc", "purses", "kinds", "words", "calm", "marked", "word", "name", "many", "names", "places", "at"]
def l__law_program_2 (K : PySem.W.Frag) (sp__law_shape sp__law_names sp__law_stem sp__law_exits sp__law_deed sp__law_draw : DSp) : TDS :=
  (dDrop (dAppend (dVar 17) (dTup (daCons (dVar 18) (daCons (dOp rIxD (dVar 3) (dCall sp__law_draw (daCons (dVar 0) (daCons (dC (.int 2)) daNil)))) daNil)))))
def l__law_program_1_2 (K : PySem.W.Frag) (sp__law_shape sp__law_names sp__law_stem sp__law_exits sp__law_deed sp__law_draw : DSp) : TDS :=
  (dDrop (dAppend (dVar 4) (dVar 17)))
def l__law_program_1_1 (K : PySem.W.Frag) (sp__law_shape sp__law_names sp__law_stem sp__law_exits sp__law_deed sp__law_draw : DSp) : TDS :=
  (dSeq (dFor (dIter (dVar 5)) (dgName 18) (l__law_program_2 K sp__law_shape sp__law_names sp__law_stem sp__law_exits sp__law_deed sp__law_draw))
    (l__law_program_1_2 K sp__law_shape sp__law_names sp__law_stem sp__law_exits sp__law_deed sp__law_draw))
def l__law_program_1 (K : PySem.W.Frag) (sp__law_shape sp__law_names sp__law_stem sp__law_exits sp__law_deed sp__law_draw : DSp) : TDS :=
  (dSeq (dAsg (dLst daNil) (dgName 17))
    (l__law_program_1_1 K sp__law_shape sp__law_names sp__law_stem sp__law_exits sp__law_deed sp__law_draw))
def l__law_program_3 (K : PySem.W.Frag) (sp__law_shape sp__law_names sp__law_stem sp__law_exits sp__law_deed sp__law_draw : DSp) : TDS :=
  (dDrop (dAppend (dVar 7) (dTup (daCons (dVar 19) (daCons (dCB rTupOf (daCons (dCall sp__law_names (daCons (dVar 0) (daCons (dVar 20) daNil))) daNil)) daNil)))))
def l__law_program_5 (K : PySem.W.Frag) (sp__law_shape sp__law_names sp__law_stem sp__law_exits sp__law_deed sp__law_draw : DSp) : TDS :=
  (dDrop (dAppend (dVar 22) (dTup (daCons (dOp rIxD (dVar 21) (dVar 23)) (daCons (dCall sp__law_deed (daCons (dVar 0) (daCons (dVar 21) (daCons (dVar 6) (daCons (dVar 12) (daCons (dVar 23) (daCons (dVar 10) (daCons (dVar 7) (daCons (dVar 2) daNil))))))))) daNil)))))
def l__law_program_4_3 (K : PySem.W.Frag) (sp__law_shape sp__law_names sp__law_stem sp__law_exits sp__law_deed sp__law_draw : DSp) : TDS :=
  (dDrop (dAppend (dVar 11) (dTup (daCons (dOp rIxD (dVar 9) (dVar 12)) (daCons (dCB rTupOf (daCons (dVar 22) daNil)) daNil)))))
def l__law_program_4_2 (K : PySem.W.Frag) (sp__law_shape sp__law_names sp__law_stem sp__law_exits sp__law_deed sp__law_draw : DSp) : TDS :=
  (dSeq (dFor (fun σ s R => (daCons (dCB rLenD (daCons (dVar 21) daNil)) daNil) σ s fun ds s1 => iRng1D R ds s1) (dgName 23) (l__law_program_5 K sp__law_shape sp__law_names sp__law_stem sp__law_exits sp__law_deed sp__law_draw))
    (l__law_program_4_3 K sp__law_shape sp__law_names sp__law_stem sp__law_exits sp__law_deed sp__law_draw))
def l__law_program_4_1 (K : PySem.W.Frag) (sp__law_shape sp__law_names sp__law_stem sp__law_exits sp__law_deed sp__law_draw : DSp) : TDS :=
  (dSeq (dAsg (dLst daNil) (dgName 22))
    (l__law_program_4_2 K sp__law_shape sp__law_names sp__law_stem sp__law_exits sp__law_deed sp__law_draw))
def l__law_program_4 (K : PySem.W.Frag) (sp__law_shape sp__law_names sp__law_stem sp__law_exits sp__law_deed sp__law_draw : DSp) : TDS :=
  (dSeq (dAsg (dCall sp__law_names (daCons (dVar 0) (daCons (dCB rLenD (daCons (dOp rIxD (dVar 15) (dVar 12)) daNil)) daNil))) (dgName 21))
    (l__law_program_4_1 K sp__law_shape sp__law_names sp__law_stem sp__law_exits sp__law_deed sp__law_draw))
def b__law_program_12 (K : PySem.W.Frag) (sp__law_shape sp__law_names sp__law_stem sp__law_exits sp__law_deed sp__law_draw : DSp) : TDS :=
  (dRet (dTup (daCons (dC (.str "program")) (daCons (dCall sp__law_stem (daCons (dVar 0) daNil)) (daCons (dCB rTupOf (daCons (dCall sp__law_names (daCons (dVar 0) (daCons (dVar 13) daNil))) daNil)) (daCons (dCB rTupOf (daCons (dVar 7) daNil)) (daCons (dCB rTupOf (daCons (dVar 11) daNil)) daNil)))))))
def b__law_program_11 (K : PySem.W.Frag) (sp__law_shape sp__law_names sp__law_stem sp__law_exits sp__law_deed sp__law_draw : DSp) : TDS :=
  (dSeq (dFor (fun σ s R => (daCons (dCB rLenD (daCons (dVar 15) daNil)) daNil) σ s fun ds s1 => iRng1D R ds s1) (dgName 12) (l__law_program_4 K sp__law_shape sp__law_names sp__law_stem sp__law_exits sp__law_deed sp__law_draw))
    (b__law_program_12 K sp__law_shape sp__law_names sp__law_stem sp__law_exits sp__law_deed sp__law_draw))
def b__law_program_10 (K : PySem.W.Frag) (sp__law_shape sp__law_names sp__law_stem sp__law_exits sp__law_deed sp__law_draw : DSp) : TDS :=
  (dSeq (dAsg (dLst daNil) (dgName 11))
    (b__law_program_11 K sp__law_shape sp__law_names sp__law_stem sp__law_exits sp__law_deed sp__law_draw))
def b__law_program_9 (K : PySem.W.Frag) (sp__law_shape sp__law_names sp__law_stem sp__law_exits sp__law_deed sp__law_draw : DSp) : TDS :=
  (dSeq (dAsg (dLc (fun σ s R => (daCons (dVar 9) (daCons (dVar 4) daNil)) σ s fun ds s1 => iZipD R ds s1) (dgTup 2 (dgCons (dgName 19) (dgCons (dgName 5) dgNil))) dYes (dTup (daCons (dVar 19) (daCons (dCall sp__law_exits (daCons (dVar 5) daNil)) daNil))) [19, 5]) (dgName 10))
    (b__law_program_10 K sp__law_shape sp__law_names sp__law_stem sp__law_exits sp__law_deed sp__law_draw))
def b__law_program_8 (K : PySem.W.Frag) (sp__law_shape sp__law_names sp__law_stem sp__law_exits sp__law_deed sp__law_draw : DSp) : TDS :=
  (dSeq (dAsg (dCall sp__law_names (daCons (dVar 0) (daCons (dCB rLenD (daCons (dVar 15) daNil)) daNil))) (dgName 9))
    (b__law_program_9 K sp__law_shape sp__law_names sp__law_stem sp__law_exits sp__law_deed sp__law_draw))
def b__law_program_7 (K : PySem.W.Frag) (sp__law_shape sp__law_names sp__law_stem sp__law_exits sp__law_deed sp__law_draw : DSp) : TDS :=
  (dSeq (dFor (fun σ s R => (daCons (dVar 8) (daCons (dVar 14) daNil)) σ s fun ds s1 => iZipD R ds s1) (dgTup 2 (dgCons (dgName 19) (dgCons (dgName 20) dgNil))) (l__law_program_3 K sp__law_shape sp__law_names sp__law_stem sp__law_exits sp__law_deed sp__law_draw))
    (b__law_program_8 K sp__law_shape sp__law_names sp__law_stem sp__law_exits sp__law_deed sp__law_draw))
def b__law_program_6 (K : PySem.W.Frag) (sp__law_shape sp__law_names sp__law_stem sp__law_exits sp__law_deed sp__law_draw : DSp) : TDS :=
  (dSeq (dAsg (dCall sp__law_names (daCons (dVar 0) (daCons (dCB rLenD (daCons (dVar 14) daNil)) daNil))) (dgName 8))
    (b__law_program_7 K sp__law_shape sp__law_names sp__law_stem sp__law_exits sp__law_deed sp__law_draw))
def b__law_program_5 (K : PySem.W.Frag) (sp__law_shape sp__law_names sp__law_stem sp__law_exits sp__law_deed sp__law_draw : DSp) : TDS :=
  (dSeq (dAsg (dLst daNil) (dgName 7))
    (b__law_program_6 K sp__law_shape sp__law_names sp__law_stem sp__law_exits sp__law_deed sp__law_draw))
def b__law_program_4 (K : PySem.W.Frag) (sp__law_shape sp__law_names sp__law_stem sp__law_exits sp__law_deed sp__law_draw : DSp) : TDS :=
  (dSeq (dAsg (dLst (daCons (dVar 13) (daCons (dVar 14) (daCons (dVar 4) (daCons (dVar 16) daNil))))) (dgName 6))
    (b__law_program_5 K sp__law_shape sp__law_names sp__law_stem sp__law_exits sp__law_deed sp__law_draw))
def b__law_program_3 (K : PySem.W.Frag) (sp__law_shape sp__law_names sp__law_stem sp__law_exits sp__law_deed sp__law_draw : DSp) : TDS :=
  (dSeq (dFor (dIter (dVar 15)) (dgName 5) (l__law_program_1 K sp__law_shape sp__law_names sp__law_stem sp__law_exits sp__law_deed sp__law_draw))
    (b__law_program_4 K sp__law_shape sp__law_names sp__law_stem sp__law_exits sp__law_deed sp__law_draw))
def b__law_program_2 (K : PySem.W.Frag) (sp__law_shape sp__law_names sp__law_stem sp__law_exits sp__law_deed sp__law_draw : DSp) : TDS :=
  (dSeq (dAsg (dLst daNil) (dgName 4))
    (b__law_program_3 K sp__law_shape sp__law_names sp__law_stem sp__law_exits sp__law_deed sp__law_draw))
def b__law_program_1 (K : PySem.W.Frag) (sp__law_shape sp__law_names sp__law_stem sp__law_exits sp__law_deed sp__law_draw : DSp) : TDS :=
  (dSeq (dAsg (dCall sp__law_names (daCons (dVar 0) (daCons (dC (.int 2)) daNil))) (dgName 3))
    (b__law_program_2 K sp__law_shape sp__law_names sp__law_stem sp__law_exits sp__law_deed sp__law_draw))
def t__law_program (K : PySem.W.Frag) (sp__law_shape sp__law_names sp__law_stem sp__law_exits sp__law_deed sp__law_draw : DSp) : TDS :=
  (dSeq (dAsg (dCall sp__law_shape (daCons (dVar 0) (daCons (dVar 1) daNil))) (dgSeq 4 (dgCons (dgName 13) (dgCons (dgName 14) (dgCons (dgName 15) (dgCons (dgName 16) dgNil))))))
    (b__law_program_1 K sp__law_shape sp__law_names sp__law_stem sp__law_exits sp__law_deed sp__law_draw))
def N_law : List Str := ["script", "jar", "program", "names", "book", "paper", "other", "things", "thing", "block", "told", "beyond", "near", "purse", "name"]
def l_law_1_1 (K : PySem.W.Frag) (sp__law_jar sp__law_names sp__law_formed sp__law_of sp__law_one_in sp__law_great sp__law_program sp__law_stem sp__law_bent sp_is_credits sp_is_block sp__law_is_paper sp__law_is_block : DSp) : TDS :=
  (dIfS (dOr (dNot (dTru (dUn (rIsi .bool) (dVar 10)))) (dTest (dOp (rEqD not) (dVar 10) (dCall sp__law_is_paper (daCons (dVar 2) (daCons (dVar 4) (daCons (dVar 8) daNil))))))) (dRet (dC (.bl false))) dNext)
def l_law_1 (K : PySem.W.Frag) (sp__law_jar sp__law_names sp__law_formed sp__law_of sp__law_one_in sp__law_great sp__law_program sp__law_stem sp__law_bent sp_is_credits sp_is_block sp__law_is_paper sp__law_is_block : DSp) : TDS :=
  (dSeq (dAsg (dCall sp_is_credits (daCons (dVar 2) (daCons (dVar 4) (daCons (dVar 8) daNil)))) (dgName 10))
    (l_law_1_1 K sp__law_jar sp__law_names sp__law_formed sp__law_of sp__law_one_in sp__law_great sp__law_program sp__law_stem sp__law_bent sp_is_credits sp_is_block sp__law_is_paper sp__law_is_block))
def l_law_3_1 (K : PySem.W.Frag) (sp__law_jar sp__law_names sp__law_formed sp__law_of sp__law_one_in sp__law_great sp__law_program sp__law_stem sp__law_bent sp_is_credits sp_is_block sp__law_is_paper sp__law_is_block : DSp) : TDS :=
  (dIfS (dOr (dNot (dTru (dUn (rIsi .bool) (dVar 10)))) (dTest (dOp (rEqD not) (dVar 10) (dCall sp__law_is_block (daCons (dVar 2) (daCons (dVar 4) (daCons (dVar 8) daNil))))))) (dRet (dC (.bl false))) dNext)
def l_law_3 (K : PySem.W.Frag) (sp__law_jar sp__law_names sp__law_formed sp__law_of sp__law_one_in sp__law_great sp__law_program sp__law_stem sp__law_bent sp_is_credits sp_is_block sp__law_is_paper sp__law_is_block : DSp) : TDS :=
  (dSeq (dAsg (dCall sp_is_block (daCons (dVar 2) (daCons (dVar 4) (daCons (dVar 8) daNil)))) (dgName 10))
    (l_law_3_1 K sp__law_jar sp__law_names sp__law_formed sp__law_of sp__law_one_in sp__law_great sp__law_program sp__law_stem sp__law_bent sp_is_credits sp_is_block sp__law_is_paper sp__law_is_block))
def l_law_2_2 (K : PySem.W.Frag) (sp__law_jar sp__law_names sp__law_formed sp__law_of sp__law_one_in sp__law_great sp__law_program sp__law_stem sp__law_bent sp_is_credits sp_is_block sp__law_is_paper sp__law_is_block : DSp) : TDS :=
  (dFor (dIter (dOp rAdd (dVar 12) (dCall sp__law_bent (daCons (dVar 1) (daCons (dVar 9) (daCons (dC (.int 4)) daNil)))))) (dgName 8) (l_law_3 K sp__law_jar sp__law_names sp__law_formed sp__law_of sp__law_one_in sp__law_great sp__law_program sp__law_stem sp__law_bent sp_is_credits sp_is_block sp__law_is_paper sp__law_is_block))
def l_law_2_1 (K : PySem.W.Frag) (sp__law_jar sp__law_names sp__law_formed sp__law_of sp__law_one_in sp__law_great sp__law_program sp__law_stem sp__law_bent sp_is_credits sp_is_block sp__law_is_paper sp__law_is_block : DSp) : TDS :=
  (dSeq (dAsg (dLst (daCons (dVar 9) (daCons (dSl (rSlD K) (dVar 9) dNoPart (dPart (dC (.int 3)))) (daCons (dOp rAdd (dVar 9) (dTup (daCons (dC (.int 0)) daNil))) (daCons (dOp rAdd (dSl (rSlD K) (dVar 9) dNoPart (dPart (dC (.int 3)))) (dTup (daCons (dOp rAdd (dSl (rSlD K) (dOp rIxD (dVar 9) (dC (.int 3))) dNoPart (dPart (dC (.int 1)))) (dOp rIxD (dVar 9) (dC (.int 3)))) daNil))) (daCons (dOp rAdd (dSl (rSlD K) (dVar 9) dNoPart (dPart (dC (.int 2)))) (dTup (daCons (dVar 11) (daCons (dOp rIxD (dVar 9) (dC (.int 3))) daNil)))) daNil)))))) (dgName 12))
    (l_law_2_2 K sp__law_jar sp__law_names sp__law_formed sp__law_of sp__law_one_in sp__law_great sp__law_program sp__law_stem sp__law_bent sp_is_credits sp_is_block sp__law_is_paper sp__law_is_block))
def l_law_2 (K : PySem.W.Frag) (sp__law_jar sp__law_names sp__law_formed sp__law_of sp__law_one_in sp__law_great sp__law_program sp__law_stem sp__law_bent sp_is_credits sp_is_block sp__law_is_paper sp__law_is_block : DSp) : TDS :=
  (dSeq (dAsg (dTup (daCons (dTup (daCons (dTup (daCons (dC (.str "out")) (daCons (dOp rIxD (dOp rIxD (dVar 9) (dC (.int 0))) (dC (.int 1))) (daCons (dCB rLenD (daCons (dOp rIxD (dVar 4) (dC (.int 3))) daNil)) daNil)))) (daCons (dC (.int 0)) daNil))) daNil)) (dgName 11))
    (l_law_2_1 K sp__law_jar sp__law_names sp__law_formed sp__law_of sp__law_one_in sp__law_great sp__law_program sp__law_stem sp__law_bent sp_is_credits sp_is_block sp__law_is_paper sp__law_is_block))
def b_law_9 (K : PySem.W.Frag) (sp__law_jar sp__law_names sp__law_formed sp__law_of sp__law_one_in sp__law_great sp__law_program sp__law_stem sp__law_bent sp_is_credits sp_is_block sp__law_is_paper sp__law_is_block : DSp) : TDS :=
  (dRet (dAndV (dOp (rIs id) (dCall sp_is_credits (daCons (dVar 2) (daCons (dVar 4) (daCons (dVar 5) daNil)))) (dC (.bl true))) (dOp (rIs id) (dCall sp_is_credits (daCons (dVar 2) (daCons (dVar 4) (daCons (dTup (daCons (dC (.str "credits")) (daCons (dTup daNil) daNil))) daNil)))) (dC (.bl true)))))
def b_law_8 (K : PySem.W.Frag) (sp__law_jar sp__law_names sp__law_formed sp__law_of sp__law_one_in sp__law_great sp__law_program sp__law_stem sp__law_bent sp_is_credits sp_is_block sp__law_is_paper sp__law_is_block : DSp) : TDS :=
  (dSeq (dFor (dIter (dOp rIxD (dVar 5) (dC (.int 1)))) (dgName 9) (l_law_2 K sp__law_jar sp__law_names sp__law_formed sp__law_of sp__law_one_in sp__law_great sp__law_program sp__law_stem sp__law_bent sp_is_credits sp_is_block sp__law_is_paper sp__law_is_block))
    (b_law_9 K sp__law_jar sp__law_names sp__law_formed sp__law_of sp__law_one_in sp__law_great sp__law_program sp__law_stem sp__law_bent sp_is_credits sp_is_block sp__law_is_paper sp__law_is_block))
def b_law_7 (K : PySem.W.Frag) (sp__law_jar sp__law_names sp__law_formed sp__law_of sp__law_one_in sp__law_great sp__law_program sp__law_stem sp__law_bent sp_is_credits sp_is_block sp__law_is_paper sp__law_is_block : DSp) : TDS :=
  (dSeq (dFor (dIter (dOp rAdd (dVar 7) (dCall sp__law_bent (daCons (dVar 1) (daCons (dVar 5) (daCons (dC (.int 14)) daNil)))))) (dgName 8) (l_law_1 K sp__law_jar sp__law_names sp__law_formed sp__law_of sp__law_one_in sp__law_great sp__law_program sp__law_stem sp__law_bent sp_is_credits sp_is_block sp__law_is_paper sp__law_is_block))
    (b_law_8 K sp__law_jar sp__law_names sp__law_formed sp__law_of sp__law_one_in sp__law_great sp__law_program sp__law_stem sp__law_bent sp_is_credits sp_is_block sp__law_is_paper sp__law_is_block))
def b_law_6 (K : PySem.W.Frag) (sp__law_jar sp__law_names sp__law_formed sp__law_of sp__law_one_in sp__law_great sp__law_program sp__law_stem sp__law_bent sp_is_credits sp_is_block sp__law_is_paper sp__law_is_block : DSp) : TDS :=
  (dSeq (dAsg (dLst (daCons (dVar 5) (daCons (dTup (daCons (dC (.str "credits")) (daCons (dSl (rSlD K) (dOp rIxD (dVar 5) (dC (.int 1))) dNoPart (dPart (dC (.int 1)))) daNil))) (daCons (dTup (daCons (dC (.str "credits")) (daCons (dOp rAdd (dOp rIxD (dVar 5) (dC (.int 1))) (dSl (rSlD K) (dOp rIxD (dVar 5) (dC (.int 1))) (dPart (dUn rNeg (dC (.int 1)))) dNoPart)) daNil))) (daCons (dVar 6) daNil))))) (dgName 7))
    (b_law_7 K sp__law_jar sp__law_names sp__law_formed sp__law_of sp__law_one_in sp__law_great sp__law_program sp__law_stem sp__law_bent sp_is_credits sp_is_block sp__law_is_paper sp__law_is_block))
def b_law_5 (K : PySem.W.Frag) (sp__law_jar sp__law_names sp__law_formed sp__law_of sp__law_one_in sp__law_great sp__law_program sp__law_stem sp__law_bent sp_is_credits sp_is_block sp__law_is_paper sp__law_is_block : DSp) : TDS :=
  (dSeq (dAsg (dCall sp__law_of (daCons (dVar 1) (daCons (dLst (daCons (dC .non) (daCons (dC (.bl true)) (daCons (dC (.int 0)) (daCons (dC (.str "credits")) (daCons (dTup daNil) (daCons (dTup (daCons (dC (.str "credits")) daNil)) (daCons (dTup (daCons (dC (.str "credits")) (daCons (dC .non) daNil))) (daCons (dTup (daCons (dC (.str "credits")) (daCons (dC (.str "")) (daCons (dTup daNil) daNil)))) (daCons (dTup (daCons (dTup daNil) (daCons (dTup daNil) daNil))) daNil)))))))))) daNil))) (dgName 6))
    (b_law_6 K sp__law_jar sp__law_names sp__law_formed sp__law_of sp__law_one_in sp__law_great sp__law_program sp__law_stem sp__law_bent sp_is_credits sp_is_block sp__law_is_paper sp__law_is_block))
def b_law_4 (K : PySem.W.Frag) (sp__law_jar sp__law_names sp__law_formed sp__law_of sp__law_one_in sp__law_great sp__law_program sp__law_stem sp__law_bent sp_is_credits sp_is_block sp__law_is_paper sp__law_is_block : DSp) : TDS :=
  (dSeq (dAsg (dCall sp__law_formed (daCons (dVar 1) (daCons (dVar 2) (daCons (dVar 4) daNil)))) (dgName 5))
    (b_law_5 K sp__law_jar sp__law_names sp__law_formed sp__law_of sp__law_one_in sp__law_great sp__law_program sp__law_stem sp__law_bent sp_is_credits sp_is_block sp__law_is_paper sp__law_is_block))
def b_law_3 (K : PySem.W.Frag) (sp__law_jar sp__law_names sp__law_formed sp__law_of sp__law_one_in sp__law_great sp__law_program sp__law_stem sp__law_bent sp_is_credits sp_is_block sp__law_is_paper sp__law_is_block : DSp) : TDS :=
  (dSeq (dAsg (dTup (daCons (dC (.str "book")) (daCons (dCall sp__law_stem (daCons (dVar 1) daNil)) (daCons (dCB rTupOf (daCons (dLc (dIter (dOp rIxD (dVar 2) (dC (.int 2)))) (dgName 13) dYes (dC (.int 0)) [13]) daNil)) (daCons (dCB rTupOf (daCons (dLc (dIter (dVar 3)) (dgName 14) dYes (dTup (daCons (dVar 14) (daCons (dTup daNil) daNil))) [14]) daNil)) daNil))))) (dgName 4))
    (b_law_4 K sp__law_jar sp__law_names sp__law_formed sp__law_of sp__law_one_in sp__law_great sp__law_program sp__law_stem sp__law_bent sp_is_credits sp_is_block sp__law_is_paper sp__law_is_block))
def b_law_2 (K : PySem.W.Frag) (sp__law_jar sp__law_names sp__law_formed sp__law_of sp__law_one_in sp__law_great sp__law_program sp__law_stem sp__law_bent sp_is_credits sp_is_block sp__law_is_paper sp__law_is_block : DSp) : TDS :=
  (dSeq (dAsg (dCall sp__law_names (daCons (dVar 1) (daCons (dCall sp__law_of (daCons (dVar 1) (daCons (dLst (daCons (dC (.int 1)) (daCons (dC (.int 1)) (daCons (dC (.int 2)) (daCons (dC (.int 3)) (daCons (dC (.int 14)) daNil)))))) daNil))) daNil))) (dgName 3))
    (b_law_3 K sp__law_jar sp__law_names sp__law_formed sp__law_of sp__law_one_in sp__law_great sp__law_program sp__law_stem sp__law_bent sp_is_credits sp_is_block sp__law_is_paper sp__law_is_block))
def b_law_1 (K : PySem.W.Frag) (sp__law_jar sp__law_names sp__law_formed sp__law_of sp__law_one_in sp__law_great sp__law_program sp__law_stem sp__law_bent sp_is_credits sp_is_block sp__law_is_paper sp__law_is_block : DSp) : TDS :=
  (dSeq (dAsg (dIf (dTru (dCall sp__law_one_in (daCons (dVar 1) (daCons (dC (.int 3)) daNil)))) (dCall sp__law_great (daCons (dVar 1) daNil)) (dCall sp__law_program (daCons (dVar 1) (daCons (dC (.bl true)) (daCons (dC (.bl true)) daNil))))) (dgName 2))
    (b_law_2 K sp__law_jar sp__law_names sp__law_formed sp__law_of sp__law_one_in sp__law_great sp__law_program sp__law_stem sp__law_bent sp_is_credits sp_is_block sp__law_is_paper sp__law_is_block))
def t_law (K : PySem.W.Frag) (sp__law_jar sp__law_names sp__law_formed sp__law_of sp__law_one_in sp__law_great sp__law_program sp__law_stem sp__law_bent sp_is_credits sp_is_block sp__law_is_paper sp__law_is_block : DSp) : TDS :=
  (dSeq (dAsg (dCall sp__law_jar (daCons (dVar 0) (daCons (dC (.int 26)) daNil))) (dgName 1))
    (b_law_1 K sp__law_jar sp__law_names sp__law_formed sp__law_of sp__law_one_in sp__law_great sp__law_program sp__law_stem sp__law_bent sp_is_credits sp_is_block sp__law_is_paper sp__law_is_block))
end Toy

set_option maxHeartbeats 2000000
namespace Toy
open PySem DL
local macro_rules | `(tactic| walk_at "rd") => `(tactic| simp only [dSeq, dAsg, dRet, dRetN, dIfS, dNext, dDrop, dPar, dVar, dC, dOp, dUn, dAndV, dOrV, dNotV, dIf, dTest, dTru, dAnd, dOr, dNot, dTup, dLst, daNil, daCons, dCall, dCB, dChain, dSl, dPart_i, dNoPart,
  dDGet, dDPut, dAppend, dgName, dgTup, dgNil, dgCons, dFor, dIter, dAug, dLc, dYes, dDisp, dPairs, isC, isCc,
  rAdd_i, rAdd_s, rAdd_t, rAdd_l, rIAdd_i, rIAdd_s, rIAdd_l, rSub_i, rMul_i, rMul_l, rFdiv_i, rMod_i, rPow_i, rNeg_i, rEq_ii, rEq_ss, rEq_ns, rEq_sn, rEq_is, rEq_si, rEq_bs, rEq_sb, rEq_bb, rEq_nn, rEq_tt, rEq_nt, rEq_tn, rLt_i, rLtD_i, rLtD_s, rLtD_t, rIn_ss, rIn_r, rIn_t, inC_l, inC_d, dgSeq_t, dgSeq_l, rSorted_l, iEnum_l, iZip_l, iZip_t, iRev_l, iRev_t, rGt_i, rLe_i, rGe_i, rLe_s, rLt_s,
  rIs_nn, rIs_bb, rIs_in, rIs_sn, rIs_bn, rIs_rn, rIs_tn, rTru_n, rTru_b, rTru_i, rTru_s, rTru_t, rTru_l, rIx_t, rIx_l, rIx_s, rLen_s, rLen_t, rLen_l, rAbs_i, rInt_i, rStr_i, rMax_i, rMin_i, rTupOf_l, rTupOf_t, rListOf_l, rListOf_t, rAll_l, rAny_l, rSum_l,
  rIsi_r, rIsi_n, rIsi_b, rIsi_i, rIsi_s, rIsi_t, iD_t, iD_s, iD_l, iR1, iR2, rSl_t, rSl_s, rSl_l,
  endsOf, startD, List.map_cons, List.map_nil, List.length_cons, List.length_nil, Nat.reduceAdd, Nat.reduceSub, List.replicate, List.cons_append, List.nil_append, List.getElem?_cons_zero, List.getElem?_cons_succ, List.set_cons_zero, List.set_cons_succ,
  Option.some.injEq, exists_eq_left', exists_eq_left, List.cons.injEq, D.int.injEq, D.tup.injEq, D.bl.injEq, D.str.injEq, D.ref.injEq, and_true, true_and, and_self, id_eq, size0, size1, size2, size3, size4, size5, size6, size7, size8, sizel0, sizel1, sizel2, sizel3, sizel4, sizel5, sizel6, sizel7, lenOf_l, lenOf_d, List.length_map, Int.reduceToNat, Int.reducePow, Int.reduceNeg, Int.reduceLT, Int.reduceLE, atI_0, atI_1, atI_2, atI_3, atI_4, reduceCtorEq, false_and, or_false, false_or, exists_const, exists_false, ite_true, ite_false,
  Bool.false_eq_true, if_true, if_false, decide_eq_true_eq, Bool.not_eq_true', decide_eq_false_iff_not, Bool.not_true, Bool.not_false, and_assoc, exists_and_left, D.key, S.set_same, S.set_set, C.lst.injEq, C.dic.injEq, jd_cells, jd_at, jd_turn, jd_stock, jp_at, jp_turn, jp_stock, jd_len, wipeD])

def sp_mixed : DSp := fun ds s Q => ∃ a b, ds = [.int a, .int b] ∧ 0 ≤ b ∧ b < 10000000000000 ∧ ∀ r, 0 ≤ r → Q (.int r) s
theorem emod_nn (a b : Int) (h : 0 < b) : 0 ≤ a.fmod b := by rw [Int.fmod_eq_emod_of_nonneg _ (by omega)]; exact Int.emod_nonneg _ (by omega)
theorem emod_lt (a b : Int) (h : 0 < b) : a.fmod b < b := by rw [Int.fmod_eq_emod_of_nonneg _ (by omega)]; exact Int.emod_lt_of_pos _ h
theorem rd_mixed (K : PySem.W.Frag) : ∀ ds s Q, sp_mixed ds s Q → t__law_mixed K (endsOf Q) (startD N__law_mixed ds) s := by
  rintro ds s Q ⟨a, b, rfl, h0, h1, q⟩
  unfold t__law_mixed N__law_mixed
  walk_at "rd"
  have sm : ∀ x b : Int, 0 < b → b < 2 ^ 63 → (x.fmod b).natAbs < 2 ^ 64 := fun x b h1 h2 => by
    have := emod_nn x b h1; have := emod_lt x b h1; omega
  refine ⟨mul_okr (by decide), ?_⟩
  split <;> exact ⟨mul_okr (by decide), by decide, mul_okr (by decide), mul_okl (by omega), mul_okr (by decide), by decide, mul_okl (sm _ _ (by decide) (by decide)), mul_okr (by decide), by decide, fin (q _ (emod_nn _ _ (by decide)))⟩
theorem rd_draw (K : PySem.W.Frag) : ∀ ds s Q, sp_draw ds s Q → t__law_draw K sp_mixed (endsOf Q) (startD N__law_draw ds) s := by
  rintro ds s Q ⟨j, c, n, m, rfl, hm0, hm, ⟨⟨a, t, k, ns, e1, ha, ht, htn, hk, e2, hl⟩, ne⟩, q⟩
  have cj : DL.S.set (s) j = DL.S.set s j := rfl
  have nx : ∀ (a t k : Int) (s' : S), s' = s.set j (.dic (jd c a t k)) → 0 ≤ a → 0 ≤ t → t + (n : Int) ≤ 1000000000000 → 0 ≤ k → Fr j s s' ∧ Jar s' j c n := by
    rintro a t k _ rfl h1 h2 h3 h4
    exact ⟨Fr.set, ⟨⟨a, t, k, ns, S.set_same, h1, h2, h3, h4, by rw [S.set_ne ne]; exact e2, hl⟩, ne⟩⟩
  have fd : ∀ x : Int, 0 ≤ x → 0 ≤ x.fdiv m := fun x h => by rw [Int.fdiv_eq_ediv_of_nonneg _ (by omega)]; exact Int.ediv_nonneg h (by omega)
  unfold t__law_draw N__law_draw
  simp only [dSeq, dDPut, dOp, dDGet, dVar, dC, dAsg, startD, List.map_cons, List.map_nil, List.length_cons, List.length_nil, Nat.reduceAdd, Nat.reduceSub, List.replicate, List.cons_append, List.nil_append, List.getElem?_cons_zero, Option.some.injEq, exists_eq_left']
  walk_at "rd"
  refine ⟨_, e1, ?_⟩
  walk_at "rd"
  refine ⟨_, e1, ?_⟩
  walk_at "rd"
  split <;> rename_i h1
  · obtain ⟨f, J⟩ := nx _ (t + 1) _ _ rfl ha (by omega) (by omega) (fd k hk)
    exact ⟨div_okc hm0 hm, by omega, fin (q _ _ (emod_nn _ _ hm0) (emod_lt _ _ hm0) f J)⟩
  simp only [S.set_ne ne, e2, lenOf_l, Option.some.injEq, exists_eq_left', List.length_map]
  split <;> rename_i h2
  · refine ⟨by omega, ?_⟩
    walk_at "rd"
    have i0 := emod_nn a ns.length h2
    have i1 := emod_lt a ns.length h2
    have hi : (a.fmod ns.length).toNat < ns.length := by omega
    refine ⟨.int ns[(a.fmod ns.length).toNat], ?_, ?_⟩
    · have e3 : a.fmod ns.length = (((a.fmod ns.length).toNat : Nat) : Int) := by omega
      conv => lhs; arg 2; rw [e3]
      exact atI_nat' (by simp [hi])
    generalize ns[(a.fmod ns.length).toNat] = x
    walk_at "rd"
    simp only [S.set_ne ne, e2, lenOf_l, Option.some.injEq, exists_eq_left', List.length_map]
    refine ⟨⟨by decide, by decide, by decide⟩, ?_⟩
    split <;> rename_i h3
    · split <;> rename_i h4
      · obtain ⟨f, J⟩ := nx _ (t + 1) _ _ rfl (show 0 ≤ a + 1 by omega) (by omega) (by omega) (fd (x.natAbs : Int) (by omega))
        exact ⟨div_okc hm0 hm, by omega, fin (q _ _ (emod_nn _ _ hm0) (emod_lt _ _ hm0) f J)⟩
      · refine ⟨_, _, rfl, by omega, by omega, fun r hr => ?_⟩
        walk_at "rd"
        obtain ⟨f, J⟩ := nx _ (t + 1) _ _ rfl (show 0 ≤ a + 1 by omega) (by omega) (by omega) hk
        exact ⟨div_okc (by decide) (by decide), by omega, fin (q _ _ (emod_nn _ _ hm0) (emod_lt _ _ hm0) f J)⟩
    · refine ⟨_, _, rfl, by omega, by omega, fun r hr => ?_⟩
      walk_at "rd"
      obtain ⟨f, J⟩ := nx _ (t + 1) _ _ rfl (show 0 ≤ a + 1 by omega) (by omega) (by omega) hk
      exact ⟨div_okc (by decide) (by decide), by omega, fin (q _ _ (emod_nn _ _ hm0) (emod_lt _ _ hm0) f J)⟩
  · refine ⟨⟨by decide, by decide, by decide⟩, ?_⟩
    rw [if_neg (by decide)]
    refine ⟨_, _, rfl, by omega, by omega, fun r hr => ?_⟩
    walk_at "rd"
    obtain ⟨f, J⟩ := nx _ (t + 1) _ _ rfl (show 0 ≤ a + 1 by omega) (by omega) (by omega) hk
    exact ⟨div_okc (by decide) (by decide), by omega, fin (q _ _ (emod_nn _ _ hm0) (emod_lt _ _ hm0) f J)⟩
/-- one of a list's, a tuple's things -/
def sp_of : DSp := fun ds s Q => ∃ j c n r xs, ds = [.ref j, r] ∧ Jar s j c (n + 1) ∧ ((∃ p, r = .ref p ∧ s p = some (.lst xs) ∧ p ≠ j) ∨ r = .tup xs) ∧ xs ≠ [] ∧ xs.length < 2 ^ 63 ∧ ∀ x s', x ∈ xs → Fr j s s' → Jar s' j c n → Q x s'
theorem rd_of (K : PySem.W.Frag) : ∀ ds s Q, sp_of ds s Q → t__law_of K sp_draw (endsOf Q) (startD N__law_of ds) s := by
  rintro ds s Q ⟨j, c, n, r, xs, rfl, J, hr, hne, hlen, q⟩
  have hpos : 0 < xs.length := List.length_pos_iff.mpr hne
  unfold t__law_of N__law_of
  rcases hr with ⟨p, rfl, e, hp⟩ | rfl
  · walk_at "rd"
    simp only [e, lenOf_l, Option.some.injEq, exists_eq_left']
    refine ⟨_, c, n, _, rfl, by omega, by omega, J, fun r s' h0 h1 f J' => ?_⟩
    walk_at "rd"
    have hi : r.toNat < xs.length := by omega
    refine ⟨xs, by rw [f p hp]; exact e, xs[r.toNat], ?_, fin (q _ _ (List.getElem_mem hi) f J')⟩
    have e3 : r = ((r.toNat : Nat) : Int) := by omega
    conv => lhs; arg 2; rw [e3]
    exact atI_nat' (by simp [hi])
  · walk_at "rd"
    refine ⟨_, c, n, _, rfl, by omega, by omega, J, fun r s' h0 h1 f J' => ?_⟩
    walk_at "rd"
    have hi : r.toNat < xs.length := by omega
    refine ⟨xs[r.toNat], ?_, fin (q _ _ (List.getElem_mem hi) f J')⟩
    have e3 : r = ((r.toNat : Nat) : Int) := by omega
    conv => lhs; arg 2; rw [e3]
    exact atI_nat' (by simp [hi])
/-- the jar is made -/
def sp_jar (K : PySem.W.Frag) : DSp := fun ds s Q => ∃ a k ns, ds = [.ref a, .int k] ∧ (s a = some (.lst ((ns : List Int).map .int)) ∨ s a = some (.ro (ns.map .int)) ∨ KRo K a (ns.map .int)) ∧ ns.length ≤ 63 ∧ 0 ≤ k ∧ k ≤ 1000 ∧
  ∀ j c s', s j = none → s c = none → (∀ b, b ≠ j → b ≠ c → s b ≠ none → s' b = s b) → Jar s' j c 900000000000 → Q (.ref j) s'
theorem rd_jar (K : PySem.W.Frag) : ∀ ds s Q, sp_jar K ds s Q → t__law_jar K (endsOf Q) (startD N__law_jar ds) s := by
  rintro ds s Q ⟨a, k, ns, rfl, hs, hl, hk0, hk1, q⟩
  unfold t__law_jar N__law_jar
  walk_at "rd"
  refine ⟨ns.map .int, hs, fun p hp => ?_⟩
  have hc : cutD (ns.map .int) none (some 63) = ns.map D.int := by
    refine cut_all ⟨rfl, ?_⟩
    rw [List.length_map]
    show HT.sIx ns.length ns.length (some ((63 : Nat) : Int)) = ns.length
    rw [HT.sIx_nat]; omega
  rw [hc]
  intro c hc1
  have hcp : c ≠ p := fun z => by rw [z, S.set_same] at hc1; cases hc1
  have hc0 : s c = none := by rw [S.set_ne hcp] at hc1; exact hc1
  refine lcD_pure (fun d => d) (s.set p (.lst (ns.map .int))) (ns.map .int) [] ?_ ?_ ?_ ?_
  · intro d hd acc Q' hq
    obtain ⟨n, _, rfl⟩ := List.mem_map.mp hd
    walk_at "rd"
    exact hq
  · intro acc
    rw [S.set_ne hcp.symm, S.set_same]
  · simp only [List.length_nil, List.length_map]
    exact size_small' (by omega)
  · rw [List.map_id', List.nil_append]
    intro j hj
    have hjc : j ≠ c := fun z => by rw [z, S.set_same] at hj; cases hj
    have hjp : j ≠ p := fun z => by rw [z, S.set_ne hcp.symm, S.set_same] at hj; cases hj
    have hj0 : s j = none := by rw [S.set_ne hjc, S.set_ne hjp] at hj; exact hj
    rw [S.set_ne hjc.symm, S.set_same]
    refine ⟨_, rfl, mul_okl (by decide), ?_⟩
    rw [jd_fold]
    refine ⟨(s.set c (.lst (ns.map .int))).set j (.dic (jd c 0 (k + 7 * (ns.map D.int).length) 0)), ?_, ?_⟩
    · intro b x e
      by_cases h1 : b = j
      · subst h1; rw [S.set_same] at e ⊢; exact e
      · rw [S.set_ne h1] at e ⊢
        by_cases h2 : b = c
        · subst h2; rw [S.set_same] at e ⊢; exact e
        · rw [S.set_ne h2] at e ⊢
          rw [S.set_ne (fun z => by rw [z, hp] at e; cases e)]; exact e
    · refine q j c _ hj0 hc0 (fun b h1 h2 _ => by rw [S.set_ne h1, S.set_ne h2]) ⟨⟨0, _, 0, ns, S.set_same, Int.le_refl _, ?_, ?_, Int.le_refl _, ?_, hl⟩, hjc.symm⟩
      · rw [List.length_map]; omega
      · rw [List.length_map]; omega
      · rw [S.set_ne hjc.symm, S.set_same]
end Toy

set_option maxHeartbeats 2000000
/-! k26: what a thing in form is -/
namespace Toy
open PySem DL
def plain : D → Prop | .ref _ => False | _ => True
mutual
/-- no address, texts that are short -/
def gd : D → Bool
  | .str x => PyData.strOk x && decide (x.length ≤ 1000)
  | .tup ds => gds ds
  | .ref _ => false | .non => true | .bl _ => true | .int _ => true
def gds : List D → Bool
  | [] => true | d :: ds => gd d && gds ds
end
theorem gd_t (ds : List D) : gd (.tup ds) = gds ds := by rw [gd]
theorem gds_mem : ∀ {ds : List D}, gds ds = true → ∀ d ∈ ds, gd d = true
  | [], _, d, h => absurd h (by simp)
  | x :: ds, g, d, h => by
    rw [gds, Bool.and_eq_true] at g
    rcases List.mem_cons.mp h with rfl | h
    · exact g.1
    · exact gds_mem g.2 d h
theorem gds_of : ∀ {ds : List D}, (∀ d ∈ ds, gd d = true) → gds ds = true
  | [], _ => by rw [gds]
  | x :: ds, h => by rw [gds, h x List.mem_cons_self, gds_of fun d hd => h d (List.mem_cons_of_mem _ hd)]; rfl
theorem gd_plain {d : D} (h : gd d = true) : plain d := by cases d <;> simp_all [gd, plain]
mutual
theorem gd_ok : ∀ d : D, gd d = true → d.ok = true
  | .non, _ => rfl | .bl _, _ => rfl | .int _, _ => rfl
  | .str x, h => by rw [gd, Bool.and_eq_true] at h; exact h.1
  | .ref _, h => by simp [gd] at h
  | .tup ds, h => by rw [gd_t] at h; show D.oks ds = true; exact gds_ok ds h
theorem gds_ok : ∀ ds : List D, gds ds = true → D.oks ds = true
  | [], _ => rfl
  | d :: ds, h => by rw [gds, Bool.and_eq_true] at h; rw [D.oks, gd_ok d h.1, gds_ok ds h.2]; rfl
end
/-- a thing: good, of some depth -/
structure Th (k : Nat) (d : D) : Prop where
  g : gd d = true
  d : d.dep ≤ k
theorem Th.mono {j k : Nat} {d : D} (h : Th j d) (l : j ≤ k) : Th k d := ⟨h.g, Nat.le_trans h.d l⟩
theorem Th.sub {k : Nat} {ds : List D} (h : Th (k + 1) (.tup ds)) {d : D} (m : d ∈ ds) : Th k d := by
  have h1 := h.g; have h2 := h.d
  rw [gd_t] at h1; rw [D.dep] at h2
  have := deps_mem m
  exact ⟨gds_mem h1 d m, by omega⟩
theorem deps_le {k : Nat} : ∀ {ds : List D}, (∀ d ∈ ds, d.dep ≤ k) → D.deps ds ≤ k
  | [], _ => by rw [D.deps]; omega
  | x :: ds, h => by rw [D.deps]; have := h x List.mem_cons_self; have := deps_le fun d hd => h d (List.mem_cons_of_mem _ hd); omega
theorem Th.tup {k : Nat} {ds : List D} (h : ∀ d ∈ ds, Th k d) : Th (k + 1) (.tup ds) :=
  ⟨by rw [gd_t]; exact gds_of fun d m => (h d m).g, by rw [D.dep]; have := deps_le fun d m => (h d m).d; omega⟩
theorem Th.fine {k : Nat} {d : D} (h : Th k d) (l : k ≤ 60) : d.fine = true := by
  unfold D.fine; rw [gd_ok d h.g]; have := h.d; simp; omega
theorem Th.plain {k : Nat} {d : D} (h : Th k d) : plain d := gd_plain h.g
theorem Th.int {k : Nat} (i : Int) : Th k (.int i) := ⟨rfl, by rw [D.dep]; omega⟩
theorem Th.non {k : Nat} : Th k .non := ⟨rfl, by rw [D.dep]; omega⟩
theorem Th.bl {k : Nat} (b : Bool) : Th k (.bl b) := ⟨rfl, by rw [D.dep]; omega⟩
theorem Th.str {k : Nat} {x : Str} (h : PyData.strOk x = true) (l : x.length ≤ 1000) : Th k (.str x) := ⟨by rw [gd, h]; simpa using l, by rw [D.dep]; omega⟩
theorem Th.strOk {k : Nat} {x : Str} (h : Th k (.str x)) : PyData.strOk x = true ∧ x.length ≤ 1000 := by
  have := h.g; rw [gd, Bool.and_eq_true] at this; exact ⟨this.1, by simpa using this.2⟩
theorem sz {n : Nat} (h : n ≤ 1000) : n ≤ sizeLine := size_small (by omega)

/-! ### the judges -/
def wholeB : D → Int → Option Int → Bool
  | .int i, lo, none => decide (lo ≤ i)
  | .int i, lo, some hi => decide (lo ≤ i) && decide (i ≤ hi)
  | _, _, _ => false
def lets : List Nat := ("abcdefghijklmnopqrstuvwxyz" : Str).cps.toList
def sgs : List Nat := ("abcdefghijklmnopqrstuvwxyz0123456789" : Str).cps.toList
def wordL (l : List Nat) : Bool := decide (1 ≤ l.length) && decide (l.length ≤ 8) && (match l with | [] => false | c :: _ => decide (c ∈ lets)) && l.all fun c => decide (c ∈ sgs)
def nameB : D → Bool
  | .str x => wordL x.cps.toList
  | _ => false
def isTup (d : D) (lo hi : Int) : Bool := match d with | .tup xs => decide (lo ≤ xs.length) && decide ((xs.length : Int) ≤ hi) | _ => false
def numsB (d : D) (n : Nat) (lo hi : Int) : Bool := match d with | .tup xs => decide (xs.length = n) && xs.all fun x => wholeB x lo (some hi) | _ => false
def climb : List D → Bool
  | a :: b :: r => D.lt a b && climb (b :: r)
  | _ => true
def spotB (R B many : Nat) (d : D) : Bool := match d with | .tup [a, e, g] => wholeB a 0 (some ((many : Int) - 1)) && (numsB e R 0 1 && wholeB g 0 (some ((B : Int) - 1))) | _ => false
def gateB (R B : Nat) (d : D) : Bool := match d with | .tup [a, e, g] => nameB a && (numsB e R 0 1 && wholeB g 0 (some ((B : Int) - 1))) | _ => false
def pairB (d : D) : Bool := match d with | .tup [_, b] => wholeB b 0 none | _ => false
def fstD : D → D | .tup (a :: _) => a | d => d
/-- pairs, each key by p, ascending -/
def rowsB (p : D → Bool) (d : D) : Bool := match d with | .tup ps => ps.all pairB && (ps.all (fun q => p (fstD q)) && climb (ps.map fstD)) | _ => false
/-- a program: rows, the places of its procs; a book: its pages -/
structure Pg (p : D) (R : Nat) (Ls : List Nat) : Prop where
  ex : ∃ a b c rs ps, p = .tup [a, b, c, .tup rs, .tup ps] ∧ rs.length = R ∧ ps.length = Ls.length ∧ ∀ i, i < Ls.length → ∃ nm pl, ps[i]? = some (.tup [nm, .tup pl]) ∧ Ls[i]? = some pl.length
  pos : 0 < Ls.length
  all : ∀ n ∈ Ls, 0 < n
  small : R ≤ 1000 ∧ Ls.length ≤ 1000 ∧ ∀ n ∈ Ls, n ≤ 1000
structure Bk (b : D) (B : Nat) : Prop where
  ex : ∃ x y z ps, b = .tup [x, y, z, .tup ps] ∧ ps.length = B
  pos : 0 < B
  small : B ≤ 1000
def atF (Ls : List Nat) : D → Nat
  | .tup (.int i :: _) => Ls.getD i.toNat 0
  | _ => 0
def blockB (R B : Nat) (Ls : List Nat) (d : D) : Bool := match d with
  | .tup [f, n, l, h] => spotB R B Ls.length f && (wholeB n 0 none && (rowsB (gateB R B) l && rowsB (spotB R B (atF Ls f)) h))
  | _ => false
def creditsB (R B : Nat) (Ls : List Nat) (d : D) : Bool := match d with
  | .tup [w, .tup bs] => D.eqv w (.str "credits") && (bs.all (blockB R B Ls) && climb (bs.map fstD))
  | _ => false
/-! ### alike -/
theorem alike_def (d f : D) : D.alike d f = PySem.W.alike d.pd f.pd := rfl
theorem whole_int {d : D} {lo : Int} {hi : Option Int} (h : wholeB d lo hi = true) : ∃ i, d = .int i ∧ lo ≤ i ∧ ∀ x, hi = some x → i ≤ x := by
  cases d with
  | int i => cases hi with
    | none => exact ⟨i, rfl, by simpa [wholeB] using h, fun x e => nomatch e⟩
    | some x => simp [wholeB] at h; exact ⟨i, rfl, h.1, fun y e => by cases e; exact h.2⟩
  | _ => simp [wholeB] at h
theorem nums_ints {d : D} {n : Nat} {lo hi : Int} (h : numsB d n lo hi = true) : ∃ ns : List Int, d = .tup (ns.map .int) ∧ ns.length = n ∧ ∀ x ∈ ns, lo ≤ x ∧ x ≤ hi := by
  cases d with
  | tup xs =>
    simp only [numsB, Bool.and_eq_true, decide_eq_true_eq, List.all_eq_true] at h
    obtain ⟨hl, h⟩ := h
    have : ∀ xs : List D, (∀ x ∈ xs, wholeB x lo (some hi) = true) → ∃ ns : List Int, xs = ns.map .int ∧ ∀ x ∈ ns, lo ≤ x ∧ x ≤ hi := by
      intro xs
      induction xs with
      | nil => intro _; exact ⟨[], rfl, by simp⟩
      | cons x xs ih =>
        intro h
        obtain ⟨i, e, h1, h2⟩ := whole_int (h x List.mem_cons_self)
        obtain ⟨ns, e2, h3⟩ := ih fun y hy => h y (List.mem_cons_of_mem _ hy)
        refine ⟨i :: ns, by rw [e, e2]; rfl, fun y hy => ?_⟩
        rcases List.mem_cons.mp hy with rfl | hy
        · exact ⟨h1, h2 hi rfl⟩
        · exact h3 y hy
    obtain ⟨ns, e, h3⟩ := this xs h
    exact ⟨ns, by rw [e], by rw [← hl, e, List.length_map], h3⟩
  | _ => simp [numsB] at h
theorem alike_intsD : ∀ xs ys : List Int, PySem.W.alikeAll (D.pds (xs.map .int)) (D.pds (ys.map .int)) = true
  | [], ys => by simp [D.pds, PySem.W.alikeAll]
  | x :: xs, [] => by simp [D.pds, PySem.W.alikeAll]
  | x :: xs, y :: ys => by simp only [List.map_cons, D.pds, PySem.W.alikeAll, D.pd, PySem.W.alike, alike_intsD xs ys, Bool.true_and]
theorem spot_shape {R B many : Nat} {d : D} (h : spotB R B many d = true) : ∃ (a : Int) (ns : List Int) (g : Int), d = .tup [.int a, .tup (ns.map .int), .int g] ∧ ns.length = R ∧ 0 ≤ a ∧ a < many ∧ 0 ≤ g ∧ g < B := by
  unfold spotB at h
  split at h
  · rename_i a e g
    simp only [Bool.and_eq_true] at h
    obtain ⟨i, rfl, h1, h2⟩ := whole_int h.1
    obtain ⟨ns, rfl, h3, _⟩ := nums_ints h.2.1
    obtain ⟨k, rfl, h4, h5⟩ := whole_int h.2.2
    have := h2 _ rfl; have := h5 _ rfl
    exact ⟨i, ns, k, rfl, h3, h1, by omega, h4, by omega⟩
  · cases h
theorem gate_shape {R B : Nat} {d : D} (h : gateB R B d = true) : ∃ (x : Str) (ns : List Int) (g : Int), d = .tup [.str x, .tup (ns.map .int), .int g] ∧ ns.length = R ∧ wordL x.cps.toList = true := by
  unfold gateB at h
  split at h
  · rename_i a e g
    simp only [Bool.and_eq_true] at h
    cases a with
    | str x =>
      obtain ⟨ns, rfl, h3, _⟩ := nums_ints h.2.1
      obtain ⟨k, rfl, h4, h5⟩ := whole_int h.2.2
      exact ⟨x, ns, k, rfl, h3, h.1⟩
    | _ => simp [nameB] at h
  · cases h
theorem alike_spot {R B m m' : Nat} {d f : D} (h : spotB R B m d = true) (h' : spotB R B m' f = true) : D.alike d f = true := by
  obtain ⟨a, ns, g, rfl, _⟩ := spot_shape h
  obtain ⟨a', ns', g', rfl, _⟩ := spot_shape h'
  simp only [alike_def, D.pd, D.pds, PySem.W.alike, PySem.W.alikeAll, alike_intsD, Bool.and_self]
theorem alike_gate {R B : Nat} {d f : D} (h : gateB R B d = true) (h' : gateB R B f = true) : D.alike d f = true := by
  obtain ⟨a, ns, g, rfl, _⟩ := gate_shape h
  obtain ⟨a', ns', g', rfl, _⟩ := gate_shape h'
  simp only [alike_def, D.pd, D.pds, PySem.W.alike, PySem.W.alikeAll, alike_intsD, Bool.and_self]
theorem dep_ints : ∀ ns : List Int, D.deps (ns.map D.int) = 0
  | [] => by simp [D.deps]
  | n :: ns => by simp [D.deps, D.dep, dep_ints ns]
end Toy

set_option maxHeartbeats 2000000
namespace Toy
open PySem DL
local macro_rules | `(tactic| walk_at "rd") => `(tactic| simp only [dSeq, dAsg, dRet, dRetN, dIfS, dNext, dDrop, dPar, dVar, dC, dOp, dUn, dAndV, dOrV, dNotV, dIf, dTest, dTru, dAnd, dOr, dNot, dTup, dLst, daNil, daCons, dCall, dCB, dChain, dSl, dPart_i, dNoPart,
  dDGet, dDPut, dAppend, dgName, dgTup, dgNil, dgCons, dFor, dIter, dAug, dLc, dYes, dDisp, dPairs, isC, isCc,
  rAdd_i, rAdd_s, rAdd_t, rAdd_l, rIAdd_i, rIAdd_s, rIAdd_l, rSub_i, rMul_i, rMul_l, rFdiv_i, rMod_i, rPow_i, rNeg_i, rEq_ii, rEq_ss, rEq_ns, rEq_sn, rEq_is, rEq_si, rEq_bs, rEq_sb, rEq_bb, rEq_nn, rEq_tt, rEq_nt, rEq_tn, rLt_i, rLtD_i, rLtD_s, rLtD_t, rIn_ss, rIn_r, rIn_t, inC_l, inC_d, dgSeq_t, dgSeq_l, rSorted_l, iEnum_l, iZip_l, iZip_t, iRev_l, iRev_t, rGt_i, rLe_i, rGe_i, rLe_s, rLt_s,
  rIs_nn, rIs_bb, rIs_in, rIs_sn, rIs_bn, rIs_rn, rIs_tn, rTru_n, rTru_b, rTru_i, rTru_s, rTru_t, rTru_l, rIx_t, rIx_l, rIx_s, rLen_s, rLen_t, rLen_l, rAbs_i, rInt_i, rStr_i, rMax_i, rMin_i, rTupOf_l, rTupOf_t, rListOf_l, rListOf_t, rAll_l, rAny_l, rSum_l,
  rIsi_r, rIsi_n, rIsi_b, rIsi_i, rIsi_s, rIsi_t, iD_t, iD_s, iD_l, iR1, iR2, rSl_t, rSl_s, rSl_l,
  endsOf, startD, List.map_cons, List.map_nil, List.length_cons, List.length_nil, Nat.reduceAdd, Nat.reduceSub, List.replicate, List.cons_append, List.nil_append, List.getElem?_cons_zero, List.getElem?_cons_succ, List.set_cons_zero, List.set_cons_succ,
  Option.some.injEq, exists_eq_left', exists_eq_left, List.cons.injEq, D.int.injEq, D.tup.injEq, D.bl.injEq, D.str.injEq, D.ref.injEq, and_true, true_and, and_self, id_eq, size0, size1, size2, size3, size4, size5, size6, size7, size8, sizel0, sizel1, sizel2, sizel3, sizel4, sizel5, sizel6, sizel7, lenOf_l, lenOf_d, List.length_map, Int.reduceToNat, Int.reducePow, Int.reduceNeg, Int.reduceLT, Int.reduceLE, atI_0, atI_1, atI_2, atI_3, atI_4, reduceCtorEq, false_and, or_false, false_or, exists_const, exists_false, ite_true, ite_false,
  Bool.false_eq_true, if_true, if_false, decide_eq_true_eq, Bool.not_eq_true', decide_eq_false_iff_not, Bool.not_true, Bool.not_false, and_assoc, exists_and_left, D.key, S.set_same, S.set_set, C.lst.injEq, C.dic.injEq, jd_cells, jd_at, jd_turn, jd_stock, jp_at, jp_turn, jp_stock, jd_len, wipeD])

section
variable {j c : Addr} {b s : S} {n : Nat} {Q : QD}
theorem of_l {p : Addr} {xs : List D} (h : St j c b (n + 1) s) (e : s p = some (.lst xs)) (hp : p ≠ j) (hx : xs ≠ []) (hl : xs.length < 2 ^ 63) (k : ∀ x s', x ∈ xs → St j c b n s' → Ext j s s' → Q x s') : sp_of [.ref j, .ref p] s Q :=
  ⟨j, c, n, _, xs, rfl, h.jar, .inl ⟨p, rfl, e, hp⟩, hx, hl, fun x s' m f J => k x s' m (h.next f.ext J) f.ext⟩
theorem of_t {xs : List D} (h : St j c b (n + 1) s) (hx : xs ≠ []) (hl : xs.length < 2 ^ 63) (k : ∀ x s', x ∈ xs → St j c b n s' → Ext j s s' → Q x s') : sp_of [.ref j, .tup xs] s Q :=
  ⟨j, c, n, _, xs, rfl, h.jar, .inr rfl, hx, hl, fun x s' m f J => k x s' m (h.next f.ext J) f.ext⟩
/-- one of a new list's things -/
theorem of_new {p : Addr} {xs : List D} (h : St j c b (n + 1) s) (hp : s p = none) (hx : xs ≠ []) (hl : xs.length < 2 ^ 63) (k : ∀ x s', x ∈ xs → St j c b n s' → Ext j s s' → Q x s') : sp_of [.ref j, .ref p] (s.set p (.lst xs)) Q :=
  of_l (h.new hp) S.set_same (h.fresh hp).2.1 hx hl fun x s' m h' e => k x s' m h' ((Ext.new hp).trans e)
end
def sp_one_in : DSp := spG 1 (fun as s j => ∃ m : Int, as = [.int m] ∧ 0 < m ∧ m < 2 ^ 64) (fun _ _ d _ => ∃ t : Bool, d = .bl t)
theorem rd_one_in (K : PySem.W.Frag) : ∀ ds s Q, sp_one_in ds s Q → t__law_one_in K sp_draw (endsOf Q) (startD N__law_one_in ds) s := by
  rintro ds s Q ⟨j, c, n, as, rfl, ⟨m, rfl, h0, h1⟩, J, q⟩
  have S := St.start J
  unfold t__law_one_in N__law_one_in
  walk_at "rd"
  refine draw_g S h0 h1 fun r s' _ _ S e => ?_
  walk_at "rd"
  exact fin (q _ s' S.ext S.jar ⟨_, rfl⟩)
/-! ### names -/
theorem len_cps' (x : Str) : x.length = x.cps.toList.length := by simp [Str.length]
theorem app_cps (x y : Str) : (x ++ y).cps.toList = x.cps.toList ++ y.cps.toList := by
  show (x.cps ++ y.cps).toList = _
  simp
theorem app_len (x y : Str) : (x ++ y).length = x.length + y.length := by simp only [len_cps', app_cps, List.length_append]
structure Nm (x : Str) : Prop where
  w : wordL x.cps.toList = true
theorem Nm.len {x : Str} (h : Nm x) : 1 ≤ x.length ∧ x.length ≤ 8 := by
  have := h.w
  unfold wordL at this
  simp only [Bool.and_eq_true, decide_eq_true_eq] at this
  rw [len_cps']; omega
theorem sgs_lt : ∀ c ∈ sgs, c < 0x110000 := by decide +kernel
theorem lets_sgs : ∀ c ∈ lets, c ∈ sgs := by decide +kernel
theorem strOk_of {x : Str} (h : ∀ c ∈ x.cps.toList, c ∈ sgs) : PyData.strOk x = true := by
  unfold PyData.strOk
  rw [Array.all_eq_true_iff_forall_mem]
  intro c hc
  simpa using sgs_lt c (h c (by simpa using hc))
theorem Nm.all {x : Str} (h : Nm x) : ∀ c ∈ x.cps.toList, c ∈ sgs := by
  have := h.w
  unfold wordL at this
  simp only [Bool.and_eq_true, decide_eq_true_eq, List.all_eq_true] at this
  exact this.2
theorem Nm.ok {x : Str} (h : Nm x) : PyData.strOk x = true := strOk_of h.all
theorem Nm.of {x : Str} {a : Nat} {l : List Nat} (e : x.cps.toList = a :: l) (h1 : a ∈ lets) (h2 : ∀ c ∈ l, c ∈ sgs) (h3 : l.length ≤ 7) : Nm x := by
  refine ⟨?_⟩
  rw [e]
  unfold wordL
  simp only [Bool.and_eq_true, decide_eq_true_eq, List.all_eq_true, List.length_cons]
  refine ⟨⟨⟨by omega, by omega⟩, h1⟩, fun c hc => ?_⟩
  rcases List.mem_cons.mp hc with rfl | hc
  · exact lets_sgs _ h1
  · exact h2 c hc
theorem Nm.cons {x : Str} (h : Nm x) : ∃ a l, x.cps.toList = a :: l ∧ a ∈ lets ∧ (∀ c ∈ l, c ∈ sgs) ∧ l.length ≤ 7 := by
  have h1 := h.len
  have h2 := h.all
  rw [len_cps'] at h1
  have h3 := h.w
  unfold wordL at h3
  cases e : x.cps.toList with
  | nil => rw [e] at h1; simp at h1
  | cons a l =>
    rw [e] at h1 h2 h3
    simp only [Bool.and_eq_true, decide_eq_true_eq] at h3
    exact ⟨a, l, rfl, h3.1.2, fun c hc => h2 c (List.mem_cons_of_mem _ hc), by simp at h1; omega⟩
theorem one_sign (c : Nat) : (⟨#[c]⟩ : Str).cps.toList = [c] := rfl
theorem lets_len : lets.length = 26 := by decide +kernel
theorem sgs_len : sgs.length = 36 := by decide +kernel
theorem at_lets {r : Int} (h0 : 0 ≤ r) (h1 : r < 26) : ∃ c, c ∈ lets ∧ L2.atI (Str.ofString "abcdefghijklmnopqrstuvwxyz").cps.toList r = some c := by
  have : r.toNat < lets.length := by rw [lets_len]; omega
  refine ⟨lets[r.toNat], List.getElem_mem _, ?_⟩
  have e : r = ((r.toNat : Nat) : Int) := by omega
  conv => lhs; arg 2; rw [e]
  exact atI_nat' (xs := lets) (by simp [this])
theorem at_sgs {r : Int} (h0 : 0 ≤ r) (h1 : r < 36) : ∃ c, c ∈ sgs ∧ L2.atI (Str.ofString "abcdefghijklmnopqrstuvwxyz0123456789").cps.toList r = some c := by
  have : r.toNat < sgs.length := by rw [sgs_len]; omega
  refine ⟨sgs[r.toNat], List.getElem_mem _, ?_⟩
  have e : r = ((r.toNat : Nat) : Int) := by omega
  conv => lhs; arg 2; rw [e]
  exact atI_nat' (xs := sgs) (by simp [this])
theorem lit26 : (Str.ofString "abcdefghijklmnopqrstuvwxyz").length = 26 := by decide +kernel
theorem lit36 : (Str.ofString "abcdefghijklmnopqrstuvwxyz0123456789").length = 36 := by decide +kernel
theorem rng_len (lo : Int) (n : Nat) : (rngD lo n).length = n := by simp [rngD]
theorem rng_get {lo : Int} {n i : Nat} {d : D} (h : (rngD lo n)[i]? = some d) : d = .int (lo + (i : Nat)) ∧ i < n := by
  unfold rngD at h
  rw [List.getElem?_map] at h
  obtain ⟨k, hk, rfl⟩ := Option.map_eq_some_iff.mp h
  obtain ⟨hi, e⟩ := List.getElem?_eq_some_iff.mp hk
  simp at hi e
  subst e
  exact ⟨rfl, hi⟩
def sp_stem : DSp := spG 12 (fun as _ _ => as = []) (fun _ _ d _ => ∃ x, d = .str x ∧ Nm x)
theorem rd_stem (K : PySem.W.Frag) : ∀ ds s Q, sp_stem ds s Q → t__law_stem K sp_draw sp_one_in (endsOf Q) (startD N__law_stem ds) s := by
  rintro ds s0 Q ⟨j, c, n, as, rfl, rfl, J, q⟩
  have S := St.start J
  unfold t__law_stem N__law_stem
  walk_at "rd"
  refine draw_g (n := n + 11) (S.mono (by omega)) (by decide) (by decide) fun r s1 h0 h1 S e => ?_
  walk_at "rd"
  obtain ⟨a, ha, e1⟩ := at_lets h0 h1
  rw [lit26]
  refine ⟨sz (by omega), a, e1, ?_⟩
  refine call_g (n := n + 10) (S.mono (by omega)) ⟨6, rfl, by decide, by decide⟩ fun d s2 S e ⟨t, ht⟩ => ?_
  subst ht
  walk_at "rd"
  have go : ∀ (m : Int) s, 0 ≤ m → m ≤ 7 → St j c s0 (n + 9) s → -(2 ^ 62) ≤ m ∧ m < 2 ^ 62 ∧ forD (dgName 5)
      (dAsg (dOp rAdd (dVar 3) (dOp rIxD (dVar 2) (dCall sp_draw (daCons (dVar 0) (daCons (dC (.int 36)) daNil))))) (dgName 3)) (fun _ => True)
      { nx := dRet (dVar 3) (endsOf Q), rt := (endsOf Q).rt, bk := (endsOf Q).bk, ct := (endsOf Q).ct } (rngD 0 m.toNat)
      [some (.ref j), some (.str (Str.ofString "abcdefghijklmnopqrstuvwxyz")), some (.str (Str.ofString "abcdefghijklmnopqrstuvwxyz0123456789")), some (.str ⟨#[a]⟩), some (.int m), none] s := by
    intro m s hm0 hm1 S
    refine ⟨by omega, by omega, ?_⟩
    refine for_inv (fun i σ s => i ≤ m.toNat ∧ ∃ x l o, σ = [some (.ref j), some (.str (Str.ofString "abcdefghijklmnopqrstuvwxyz")), some (.str (Str.ofString "abcdefghijklmnopqrstuvwxyz0123456789")), some (.str x), some (.int m), o] ∧ St j c s0 (n + (9 - i)) s ∧ x.cps.toList = a :: l ∧ l.length = i ∧ ∀ c ∈ l, c ∈ sgs) (rngD 0 m.toNat) 0 _ s (fun _ _ _ _ => trivial) ?_ ?_ ?_
    · rintro i d σ s hd ⟨hi, x, l, o, rfl, S, e1, e2, e3⟩ N hN
      obtain ⟨rfl, hi'⟩ := rng_get hd
      have hxl : x.length ≤ 8 := by rw [len_cps', e1, List.length_cons]; omega
      walk_at "rd"
      refine draw_g (n := n + (9 - (0 + i + 1))) (S.mono (by omega)) (by decide) (by decide) fun r s1 h0 h1 S e => ?_
      walk_at "rd"
      obtain ⟨k, hk, e4⟩ := at_sgs h0 h1
      rw [lit36]
      refine ⟨sz (by omega), k, e4, ?_, hN _ _ ⟨by omega, _, l ++ [k], _, rfl, S, ?_, ?_, ?_⟩⟩
      · rw [show (⟨#[k]⟩ : Str).length = 1 from rfl]; exact sz (by omega)
      · rw [app_cps, e1, one_sign, List.cons_append]
      · rw [List.length_append, e2]; rfl
      · intro y hy
        rcases List.mem_append.mp hy with hy | hy
        · exact e3 y hy
        · rw [List.mem_singleton.mp hy]; exact hk
    · rintro σ s ⟨hi, x, l, o, rfl, S, e1, e2, e3⟩
      rw [Nat.zero_add, rng_len] at hi e2
      walk_at "rd"
      exact fin (q _ s S.ext (S.jar.mono (by omega)) ⟨x, rfl, Nm.of e1 ha e3 (by rw [e2]; omega)⟩)
    · exact ⟨by omega, _, [], _, rfl, S, rfl, rfl, by simp⟩
  cases t
  · rw [if_neg (by decide)]
    refine draw_g (n := n + 9) (S.mono (by omega)) (by decide) (by decide) fun r s3 h0 h1 S e => ?_
    exact go r s3 h0 (by omega) S
  · rw [if_pos rfl]
    exact (go 7 s2 (by decide) (by decide) (S.mono (by omega))).2.2
end Toy

set_option maxHeartbeats 2000000
namespace Toy
open PySem DL
local macro_rules | `(tactic| walk_at "rd") => `(tactic| simp only [dSeq, dAsg, dRet, dRetN, dIfS, dNext, dDrop, dPar, dVar, dC, dOp, dUn, dAndV, dOrV, dNotV, dIf, dTest, dTru, dAnd, dOr, dNot, dTup, dLst, daNil, daCons, dCall, dCB, dChain, dSl, dPart_i, dNoPart,
  dDGet, dDPut, dAppend, dgName, dgTup, dgNil, dgCons, dFor, dIter, dAug, dLc, dYes, dDisp, dPairs, isC, isCc,
  rAdd_i, rAdd_s, rAdd_t, rAdd_l, rIAdd_i, rIAdd_s, rIAdd_l, rSub_i, rMul_i, rMul_l, rFdiv_i, rMod_i, rPow_i, rNeg_i, rEq_ii, rEq_ss, rEq_ns, rEq_sn, rEq_is, rEq_si, rEq_bs, rEq_sb, rEq_bb, rEq_nn, rEq_tt, rEq_nt, rEq_tn, rLt_i, rLtD_i, rLtD_s, rLtD_t, rIn_ss, rIn_r, rIn_t, inC_l, inC_d, dgSeq_t, dgSeq_l, rSorted_l, iEnum_l, iZip_l, iZip_t, iRev_l, iRev_t, rGt_i, rLe_i, rGe_i, rLe_s, rLt_s,
  rIs_nn, rIs_bb, rIs_in, rIs_sn, rIs_bn, rIs_rn, rIs_tn, rTru_n, rTru_b, rTru_i, rTru_s, rTru_t, rTru_l, rIx_t, rIx_l, rIx_s, rLen_s, rLen_t, rLen_l, rAbs_i, rInt_i, rStr_i, rMax_i, rMin_i, rTupOf_l, rTupOf_t, rListOf_l, rListOf_t, rAll_l, rAny_l, rSum_l,
  rIsi_r, rIsi_n, rIsi_b, rIsi_i, rIsi_s, rIsi_t, iD_t, iD_s, iD_l, iR1, iR2, rSl_t, rSl_s, rSl_l,
  endsOf, startD, List.map_cons, List.map_nil, List.length_cons, List.length_nil, Nat.reduceAdd, Nat.reduceSub, List.replicate, List.cons_append, List.nil_append, List.getElem?_cons_zero, List.getElem?_cons_succ, List.set_cons_zero, List.set_cons_succ,
  Option.some.injEq, exists_eq_left', exists_eq_left, List.cons.injEq, D.int.injEq, D.tup.injEq, D.bl.injEq, D.str.injEq, D.ref.injEq, and_true, true_and, and_self, id_eq, size0, size1, size2, size3, size4, size5, size6, size7, size8, sizel0, sizel1, sizel2, sizel3, sizel4, sizel5, sizel6, sizel7, lenOf_l, lenOf_d, List.length_map, Int.reduceToNat, Int.reducePow, Int.reduceNeg, Int.reduceLT, Int.reduceLE, atI_0, atI_1, atI_2, atI_3, atI_4, reduceCtorEq, false_and, or_false, false_or, exists_const, exists_false, ite_true, ite_false,
  Bool.false_eq_true, if_true, if_false, decide_eq_true_eq, Bool.not_eq_true', decide_eq_false_iff_not, Bool.not_true, Bool.not_false, and_assoc, exists_and_left, D.key, S.set_same, S.set_set, C.lst.injEq, C.dic.injEq, jd_cells, jd_at, jd_turn, jd_stock, jp_at, jp_turn, jp_stock, jd_len, wipeD])

def Strs (xs : List D) : Prop := ∀ x ∈ xs, ∃ z, x = .str z ∧ Nm z
theorem fine_str {x : Str} (h : PyData.strOk x = true) : (D.str x).fine = true := by
  unfold D.fine; simp [D.ok, D.dep, h]
theorem Strs.oks : ∀ {xs : List D}, Strs xs → D.oks xs = true
  | [], _ => rfl
  | x :: xs, h => by
    obtain ⟨z, rfl, hz⟩ := h x List.mem_cons_self
    rw [D.oks, Strs.oks fun y m => h y (List.mem_cons_of_mem _ m)]
    simp [D.ok, hz.ok]
theorem Strs.deps : ∀ {xs : List D}, Strs xs → D.deps xs = 0
  | [], _ => rfl
  | x :: xs, h => by
    obtain ⟨z, rfl, hz⟩ := h x List.mem_cons_self
    rw [D.deps, Strs.deps fun y m => h y (List.mem_cons_of_mem _ m)]; rfl
theorem Strs.fine {xs : List D} (h : Strs xs) : (D.tup xs).fine = true := by
  unfold D.fine; simp [D.ok, D.dep, h.oks, h.deps]
theorem num_sgs : ∀ i : Nat, i < 40 → (∀ c ∈ (Str.ofString (toString ((i : Nat) : Int))).cps.toList, c ∈ sgs) ∧ (Str.ofString (toString ((i : Nat) : Int))).cps.toList.length ≤ 2 := by decide +kernel
theorem cut_take (x : Str) (k : Nat) : (L2.cutS x none (some (k : Int))).cps.toList = x.cps.toList.take k := by
  unfold L2.cutS
  rw [HT.sIx_none, HT.sIx_nat, len_cps']
  simp only [List.drop_zero, Nat.sub_zero]
  rw [Nat.min_comm, ← List.take_take]
  exact List.take_of_length_le (by rw [List.length_take]; omega)
theorem lit1 (x : String) (c : Nat) (h : (Str.ofString x).cps.toList = [c]) : (Str.ofString x).length = 1 := by rw [len_cps', h]; rfl
def sp_name : DSp := spG 20 (fun as s j => ∃ p xs, as = [.ref p] ∧ p ≠ j ∧ s p = some (.lst xs) ∧ xs.length ≤ 30 ∧ Strs xs) (fun _ _ d _ => ∃ z, d = .str z ∧ Nm z)
theorem cps_n : (Str.ofString "n").cps.toList = [110] := by decide +kernel
theorem cps_a : (Str.ofString "a").cps.toList = [97] := by decide +kernel
theorem cps_b : (Str.ofString "b").cps.toList = [98] := by decide +kernel
theorem cps_0 : (Str.ofString "0").cps.toList = [48] := by decide +kernel
theorem cps_9 : (Str.ofString "9").cps.toList = [57] := by decide +kernel
theorem rd_name (K : PySem.W.Frag) : ∀ ds s Q, sp_name ds s Q → t__law_name K sp_stem sp_one_in sp_of (endsOf Q) (startD N__law_name ds) s := by
  rintro ds s0 Q ⟨j, c, n, as, rfl, ⟨p, xs, rfl, hpj, hp, hl, hx⟩, J, q⟩
  have S := St.start J
  have at_ : ∀ {s}, Ext j s0 s → s p = some (.lst xs) := fun e => e p _ hpj hp
  -- the end: a word is looked up
  have rest : ∀ (x : Str) (o : Option D) (s : DL.S), Nm x → St j c s0 n s → b__law_name_2 K sp_stem sp_one_in sp_of (endsOf Q) [some (.ref j), some (.ref p), some (.str x), none, o, none] s := by
    intro x o s h S
    have last : ∀ o1 o2, b__law_name_4 K sp_stem sp_one_in sp_of (endsOf Q) [some (.ref j), some (.ref p), some (.str x), o1, o, o2] s := by
      intro o1 o2
      unfold b__law_name_4
      walk_at "rd"
      exact fin (q _ s S.ext S.jar ⟨x, rfl, h⟩)
    have more : b__law_name_3 K sp_stem sp_one_in sp_of (endsOf Q) [some (.ref j), some (.ref p), some (.str x), none, o, none] s := by
      unfold b__law_name_3
      walk_at "rd"
      refine ⟨_, by rw [at_ S.ext]; rfl, by omega, by omega, ?_⟩
      refine for_inv (fun i σ s' => s' = s ∧ ∃ o1 o2, σ = [some (.ref j), some (.ref p), some (.str x), o1, o, o2]) _ 0 _ s (fun _ _ _ _ => trivial) ?_ ?_ ⟨rfl, _, _, rfl⟩
      · rintro i d σ s' hd ⟨rfl, o1, o2, rfl⟩ N hN
        obtain ⟨rfl, hi⟩ := rng_get hd
        have hi : i < 40 := by omega
        obtain ⟨n1, n2⟩ := num_sgs i hi
        have e0 : (0 : Int) + (i : Nat) = ((i : Nat) : Int) := by omega
        have hxl := h.len
        have cl : (L2.cutS x none (some 4)).cps.toList = x.cps.toList.take 4 := cut_take x 4
        unfold l__law_name_1
        walk_at "rd"
        rw [e0]
        have ln : (Str.ofString "n").length = 1 := lit1 _ _ cps_n
        have lt : (Str.ofString (toString ((i : Nat) : Int))).length ≤ 2 := by rw [len_cps']; exact n2
        have lc : (L2.cutS x none (some 4)).length ≤ 4 := by rw [len_cps', cl, List.length_take]; omega
        have w1 : (Str.ofString "n" ++ Str.ofString (toString ((i : Nat) : Int)) ++ L2.cutS x none (some 4)).cps.toList = 110 :: ((Str.ofString (toString ((i : Nat) : Int))).cps.toList ++ x.cps.toList.take 4) := by
          rw [app_cps, app_cps, cps_n, cl]; rfl
        have nm : Nm (Str.ofString "n" ++ Str.ofString (toString ((i : Nat) : Int)) ++ L2.cutS x none (some 4)) := by
          refine Nm.of w1 (by decide +kernel) (fun c hc => ?_) ?_
          · rcases List.mem_append.mp hc with hc | hc
            · exact n1 c hc
            · exact h.all c (List.mem_of_mem_take hc)
          · rw [List.length_append, List.length_take]; rw [len_cps'] at lt; omega
        refine ⟨?_, sz (by omega), sz (by omega), sz (by rw [app_len]; omega), ?_⟩
        · have : ((i : Nat) : Int).natAbs < 2 ^ 40 := by omega
          have := PySem.Flt.log2_lt_of (show 0 < 40 by decide) this
          omega
        unfold l__law_name_1_1
        walk_at "rd"
        refine ⟨_, at_ S.ext, ?_⟩
        walk_at "rd"
        refine ⟨fine_str nm.ok, hx.fine, ?_⟩
        split
        · exact fin (q _ s' S.ext S.jar ⟨_, rfl, nm⟩)
        · exact hN _ _ ⟨rfl, _, _, rfl⟩
      · rintro σ s' ⟨rfl, o1, o2, rfl⟩
        exact last o1 o2
    unfold b__law_name_2
    walk_at "rd"
    refine ⟨_, at_ S.ext, ?_⟩
    walk_at "rd"
    refine ⟨fine_str h.ok, hx.fine, ?_⟩
    split
    · split
      · exact fin (q _ s S.ext S.jar ⟨x, rfl, h⟩)
      · exact more
    · exact more
  unfold t__law_name N__law_name
  walk_at "rd"
  refine call_g (n := n + 8) (S.mono (by omega)) rfl fun d s1 S1 e1 ⟨x, hd, h⟩ => ?_
  subst hd
  unfold b__law_name_1
  walk_at "rd"
  refine ⟨_, by rw [at_ S1.ext]; rfl, ?_⟩
  split <;> rename_i h0
  · skip
    refine call_g (n := n + 7) (S1.mono (by omega)) ⟨4, rfl, by decide, by decide⟩ fun d s2 S2 e2 ⟨t, ht⟩ => ?_
    subst ht
    try walk_at "rd"
    cases t
    · rw [if_neg (by decide)]
      exact rest x none s2 h (S2.mono (by omega))
    · rw [if_pos rfl]
      refine of_l (n := n + 6) (S2.mono (by omega)) (at_ S2.ext) hpj (by rintro rfl; simp at h0) (by omega) fun y s3 m S3 e3 => ?_
      obtain ⟨z, rfl, hz⟩ := hx y m
      have hzl := hz.len
      walk_at "rd"
      refine ⟨sz (by omega), ?_⟩
      have go : ∀ (w : Str) (s : DL.S), Nm w → w.length ≤ 7 → St j c s0 (n + 6) s → ∀ p1, s p1 = none → sp_of [.ref j, .ref p1] (s.set p1 (.lst [.str (Str.ofString "a"), .str (Str.ofString "b"), .str (Str.ofString "0"), .str (Str.ofString "9")])) fun x s1 =>
          rAdd (.str w) x s1 fun d s' => b__law_name_2 K sp_stem sp_one_in sp_of { nx := fun x s' => ∃ s'', Sub s'' s' ∧ Q D.non s'', rt := fun d s' => ∃ s'', Sub s'' s' ∧ Q d s'' } [some (.ref j), some (.ref p), some d, none, some (.str z), none] s' := by
        intro w s hw hwl S p1 hp1
        refine of_new (n := n + 5) (S.mono (by omega)) hp1 (by simp) (by decide) fun y s4 m S4 e4 => ?_
        obtain ⟨a, l, e1, e2, e3, e5⟩ := hw.cons
        have fin4 : ∀ (u : String) (k : Nat), (Str.ofString u).cps.toList = [k] → k ∈ sgs → y = .str (Str.ofString u) → rAdd (.str w) y s4 fun d s' => b__law_name_2 K sp_stem sp_one_in sp_of { nx := fun x s' => ∃ s'', Sub s'' s' ∧ Q D.non s'', rt := fun d s' => ∃ s'', Sub s'' s' ∧ Q d s'' } [some (.ref j), some (.ref p), some d, none, some (.str z), none] s' := by
          rintro u k hk hs rfl
          refine ⟨?_, ?_⟩
          · rw [lit1 u k hk]; exact sz (by omega)
          · refine rest _ _ s4 (Nm.of (a := a) (l := l ++ [k]) ?_ e2 (fun c hc => ?_) ?_) (S4.mono (by omega))
            · rw [app_cps, e1, hk, List.cons_append]
            · rcases List.mem_append.mp hc with hc | hc
              · exact e3 c hc
              · rw [List.mem_singleton.mp hc]; exact hs
            · rw [List.length_append]
              rw [len_cps', e1, List.length_cons] at hwl
              simp; omega
        simp only [List.mem_cons, List.not_mem_nil, or_false] at m
        rcases m with rfl | rfl | rfl | rfl
        · exact fin4 "a" _ cps_a (by decide +kernel) rfl
        · exact fin4 "b" _ cps_b (by decide +kernel) rfl
        · exact fin4 "0" _ cps_0 (by decide +kernel) rfl
        · exact fin4 "9" _ cps_9 (by decide +kernel) rfl
      split <;> rename_i h8
      · refine ⟨sz (by omega), go _ s3 ?_ ?_ S3⟩
        · obtain ⟨a, l, e1, e2, e3, e5⟩ := hz.cons
          have cl : (L2.cutS z none (some 7)).cps.toList = z.cps.toList.take 7 := cut_take z 7
          refine Nm.of (a := a) (l := l.take 6) (by rw [cl, e1]; rfl) e2 (fun c hc => e3 c (List.mem_of_mem_take hc)) (by rw [List.length_take]; omega)
        · have cl : (L2.cutS z none (some 7)).cps.toList = z.cps.toList.take 7 := cut_take z 7
          rw [len_cps', cl, List.length_take]; omega
      · exact go z s3 hz (by omega) S3
  · exact rest x none s1 h (S1.mono (by omega))
theorem Strs.snoc {xs : List D} {z : Str} (h : Strs xs) (hz : Nm z) : Strs (xs ++ [.str z]) := fun x m => by
  rcases List.mem_append.mp m with m | m
  · exact h x m
  · exact ⟨z, List.mem_singleton.mp m, hz⟩
/-- a new list is told -/
def newL (P : List D → Prop) (s : S) (d : D) (s' : S) (j : Addr) : Prop := ∃ p xs, d = .ref p ∧ s p = none ∧ p ≠ j ∧ s' p = some (.lst xs) ∧ P xs
def sp_names : DSp := fun ds s Q => ∃ m : Nat, m ≤ 20 ∧ spG 500 (fun as _ _ => as = [.int m]) (fun _ s d s' => ∃ p xs, d = .ref p ∧ s p = none ∧ s' p = some (.lst xs) ∧ xs.length = m ∧ Strs xs) ds s Q
theorem rd_names (K : PySem.W.Frag) : ∀ ds s Q, sp_names ds s Q → t__law_names K sp_name (endsOf Q) (startD N__law_names ds) s := by
  rintro ds s0 Q ⟨m, hm, j, c, n, as, rfl, rfl, J, q⟩
  have S := St.start J
  unfold t__law_names N__law_names
  walk_at "rd"
  intro p hp
  unfold b__law_names_1
  walk_at "rd"
  refine ⟨by omega, by omega, ?_⟩
  have hpj := (S.fresh hp).2.1
  refine for_inv (fun i σ s => i ≤ m ∧ ∃ xs o, σ = [some (.ref j), some (.int m), some (.ref p), o] ∧ St j c s0 (n + (m - i) * 20) s ∧ s p = some (.lst xs) ∧ xs.length = i ∧ Strs xs) _ 0 _ _ (fun _ _ _ _ => trivial) ?_ ?_ ?_
  · rintro i d σ s hd ⟨hi, xs, o, rfl, S, e, hl, hx⟩ N hN
    obtain ⟨rfl, hi'⟩ := rng_get hd
    have hi' : i < m := by omega
    unfold l__law_names_1
    walk_at "rd"
    refine ⟨⟨_, e⟩, ?_⟩
    refine call_g (n := n + (m - (0 + i + 1)) * 20) (S.mono ?_) ⟨p, xs, rfl, hpj, e, by omega, hx⟩ fun d s1 S1 e1 ⟨z, hd, h⟩ => ?_
    · have : (m - (0 + i)) = (m - (0 + i + 1)) + 1 := by omega
      rw [this, Nat.succ_mul]; omega
    · subst hd
      have ep := e1 p _ hpj e
      refine ⟨xs, ep, size_small' (by omega), ?_⟩
      exact hN _ _ ⟨by omega, xs ++ [.str z], _, rfl, S1.put hp, DL.S.set_same, by rw [List.length_append, hl]; rfl, hx.snoc h⟩
  · rintro σ s ⟨hi, xs, o, rfl, S, e, hl, hx⟩
    rw [rng_len] at hl
    unfold b__law_names_2
    walk_at "rd"
    exact fin (q _ s S.ext (S.jar.mono (by omega)) ⟨p, xs, rfl, hp, e, by omega, hx⟩)
  · exact ⟨by omega, [], _, rfl, (S.new hp).mono (by omega), DL.S.set_same, rfl, fun x m => by simp at m⟩
def sp_target : DSp := fun ds s Q => ∃ a m : Nat, a < m ∧ m ≤ 1000 ∧ spG 3 (fun as _ _ => as = [.int a, .int m]) (fun _ _ d _ => ∃ r : Int, d = .int r ∧ 0 ≤ r ∧ r < m) ds s Q
theorem rd_target (K : PySem.W.Frag) : ∀ ds s Q, sp_target ds s Q → t__law_target K sp_draw sp_one_in (endsOf Q) (startD N__law_target ds) s := by
  rintro ds s0 Q ⟨a, m, ha, hm, j, c, n, as, rfl, rfl, J, q⟩
  have S := St.start J
  unfold t__law_target N__law_target
  walk_at "rd"
  have last : ∀ s, St j c s0 (n + 1) s → sp_draw [.ref j, .int m] s fun d s' => ∃ s'', Sub s'' s' ∧ Q d s'' := fun s S => by
    refine draw_g S (by omega) (by omega) fun r s1 h0 h1 S e => ?_
    exact fin (q _ s1 S.ext S.jar ⟨r, rfl, h0, h1⟩)
  split <;> rename_i h
  · refine call_g (n := n + 2) (S.mono (by omega)) ⟨3, rfl, by decide, by decide⟩ fun d s1 S e ⟨t, ht⟩ => ?_
    subst ht
    rw [rTru_b]
    cases t
    · rw [if_pos rfl]
      refine draw_g (n := n + 1) (S.mono (by omega)) (by omega) (by omega) fun r s1 h0 h1 S e => ?_
      walk_at "rd"
      exact fin (q _ s1 S.ext (S.jar.mono (by omega)) ⟨_, rfl, by omega, by omega⟩)
    · rw [if_neg (by decide)]
      exact last s1 (S.mono (by omega))
  · exact last s0 (S.mono (by omega))
def sp_price : DSp := spG 3 (fun as _ _ => ∃ w : Bool, as = [.bl w]) (fun _ _ d _ => ∃ r : Int, d = .int r ∧ -50 ≤ r ∧ r ≤ 50)
theorem rd_price (K : PySem.W.Frag) : ∀ ds s Q, sp_price ds s Q → t__law_price K sp_draw sp_of (endsOf Q) (startD N__law_price ds) s := by
  rintro ds s0 Q ⟨j, c, n, as, rfl, ⟨w, rfl⟩, J, q⟩
  have S := St.start J
  unfold t__law_price N__law_price
  walk_at "rd"
  refine draw_g (n := n + 2) (S.mono (by omega)) (by decide) (by decide) fun r s1 h0 h1 S e => ?_
  walk_at "rd"
  have last : (if r ≤ 2 then sp_draw [.ref j, .int 4] s1 fun x s1 => rSub (.int (-1)) x s1 fun d s' => ∃ s'', Sub s'' s' ∧ Q d s'' else
      if r = 3 then ∃ s'', Sub s'' s1 ∧ Q (.int 0) s'' else sp_draw [.ref j, .int 6] s1 fun x s1 => rAdd (.int 1) x s1 fun d s' => ∃ s'', Sub s'' s' ∧ Q d s'') := by
    split
    · refine draw_g (n := n + 1) (S.mono (by omega)) (by decide) (by decide) fun r s1 h0 h1 S e => ?_
      walk_at "rd"
      exact fin (q _ s1 S.ext (S.jar.mono (by omega)) ⟨_, rfl, by omega, by omega⟩)
    · split
      · exact fin (q _ s1 S.ext (S.jar.mono (by omega)) ⟨_, rfl, by omega, by omega⟩)
      · refine draw_g (n := n + 1) (S.mono (by omega)) (by decide) (by decide) fun r s1 h0 h1 S e => ?_
        walk_at "rd"
        exact fin (q _ s1 S.ext (S.jar.mono (by omega)) ⟨_, rfl, by omega, by omega⟩)
  split
  · cases w
    · rw [if_neg (by decide)]; exact last
    · rw [if_pos rfl]
      intro p hp
      refine of_new (n := n + 1) (S.mono (by omega)) hp (by simp) (by decide) fun y s4 m S4 e4 => ?_
      refine fin (q _ s4 S4.ext (S4.jar.mono (by omega)) ?_)
      simp only [List.mem_cons, List.not_mem_nil, or_false] at m
      rcases m with rfl | rfl | rfl | rfl <;> exact ⟨_, rfl, by decide, by decide⟩
  · exact last
end Toy

set_option maxHeartbeats 2000000
namespace Toy
open PySem DL
local macro_rules | `(tactic| walk_at "rd") => `(tactic| simp only [dSeq, dAsg, dRet, dRetN, dIfS, dNext, dDrop, dPar, dVar, dC, dOp, dUn, dAndV, dOrV, dNotV, dIf, dTest, dTru, dAnd, dOr, dNot, dTup, dLst, daNil, daCons, dCall, dCB, dChain, dSl, dPart_i, dNoPart,
  dDGet, dDPut, dAppend, dgName, dgTup, dgNil, dgCons, dFor, dIter, dAug, dLc, dYes, dDisp, dPairs, isC, isCc,
  rAdd_i, rAdd_s, rAdd_t, rAdd_l, rIAdd_i, rIAdd_s, rIAdd_l, rSub_i, rMul_i, rMul_l, rFdiv_i, rMod_i, rPow_i, rNeg_i, rEq_ii, rEq_ss, rEq_ns, rEq_sn, rEq_is, rEq_si, rEq_bs, rEq_sb, rEq_bb, rEq_nn, rEq_tt, rEq_nt, rEq_tn, rLt_i, rLtD_i, rLtD_s, rLtD_t, rIn_ss, rIn_r, rIn_t, inC_l, inC_d, dgSeq_t, dgSeq_l, rSorted_l, iEnum_l, iZip_l, iZip_t, iRev_l, iRev_t, rGt_i, rLe_i, rGe_i, rLe_s, rLt_s,
  rIs_nn, rIs_bb, rIs_in, rIs_sn, rIs_bn, rIs_rn, rIs_tn, rTru_n, rTru_b, rTru_i, rTru_s, rTru_t, rTru_l, rIx_t, rIx_l, rIx_s, rLen_s, rLen_t, rLen_l, rAbs_i, rInt_i, rStr_i, rMax_i, rMin_i, rTupOf_l, rTupOf_t, rListOf_l, rListOf_t, rAll_l, rAny_l, rSum_l,
  rIsi_r, rIsi_n, rIsi_b, rIsi_i, rIsi_s, rIsi_t, iD_t, iD_s, iD_l, iR1, iR2, rSl_t, rSl_s, rSl_l,
  endsOf, startD, List.map_cons, List.map_nil, List.length_cons, List.length_nil, Nat.reduceAdd, Nat.reduceSub, List.replicate, List.cons_append, List.nil_append, List.getElem?_cons_zero, List.getElem?_cons_succ, List.set_cons_zero, List.set_cons_succ,
  Option.some.injEq, exists_eq_left', exists_eq_left, List.cons.injEq, D.int.injEq, D.tup.injEq, D.bl.injEq, D.str.injEq, D.ref.injEq, and_true, true_and, and_self, id_eq, size0, size1, size2, size3, size4, size5, size6, size7, size8, sizel0, sizel1, sizel2, sizel3, sizel4, sizel5, sizel6, sizel7, lenOf_l, lenOf_d, List.length_map, Int.reduceToNat, Int.reducePow, Int.reduceNeg, Int.reduceLT, Int.reduceLE, atI_0, atI_1, atI_2, atI_3, atI_4, reduceCtorEq, false_and, or_false, false_or, exists_const, exists_false, ite_true, ite_false,
  Bool.false_eq_true, if_true, if_false, decide_eq_true_eq, Bool.not_eq_true', decide_eq_false_iff_not, Bool.not_true, Bool.not_false, and_assoc, exists_and_left, D.key, S.set_same, S.set_set, C.lst.injEq, C.dic.injEq, jd_cells, jd_at, jd_turn, jd_stock, jp_at, jp_turn, jp_stock, jd_len, wipeD])

inductive WordOk (r c t : Bool) : D → Prop
  | pay : WordOk r c t (.str (Str.ofString "pay"))
  | pick : WordOk r c t (.str (Str.ofString "pick"))
  | ask : WordOk r c t (.str (Str.ofString "ask"))
  | done : WordOk r c t (.str (Str.ofString "done"))
  | read (h : r = true) : WordOk r c t (.str (Str.ofString "read"))
  | call (h : c = true) : WordOk r c t (.str (Str.ofString "call"))
  | start (h : t = true) : WordOk r c t (.str (Str.ofString "start"))
/-- words stand at q, a pool at p -/
structure Pool (j c q p : Addr) (s0 : S) (n : Nat) (acc xs : List D) (P : D → Prop) (s : S) : Prop where
  st : St j c s0 n s
  eq : s q = some (.lst acc)
  ep : s p = some (.lst xs)
  pj : p ≠ j
  ne : xs ≠ []
  len : xs.length ≤ 20
  all : ∀ x ∈ xs, P x
theorem ne_of_some {s : S} {p q : Addr} {x : C} (e : s q = some x) (h : s p = none) : q ≠ p := fun z => by rw [z, h] at e; cases e
theorem Pool.start {j c q p : Addr} {s0 s : S} {n : Nat} {acc xs : List D} {P : D → Prop} (h : St j c s0 n s) (e : s q = some (.lst acc)) (hp : s p = none) (h1 : xs ≠ []) (h2 : xs.length ≤ 20) (h3 : ∀ x ∈ xs, P x) : Pool j c q p s0 n acc xs P (s.set p (.lst xs)) :=
  ⟨h.new hp, by rw [S.set_ne (ne_of_some e hp)]; exact e, S.set_same, (h.fresh hp).2.1, h1, h2, h3⟩
theorem Pool.add {j c q p p2 p3 : Addr} {s0 s : S} {n : Nat} {acc xs ys : List D} {P : D → Prop} (h : Pool j c q p s0 n acc xs P s) (hp : s p2 = none) (hp3 : (s.set p2 (.lst ys)) p3 = none) (h2 : xs.length + ys.length ≤ 20) (h3 : ∀ x ∈ ys, P x) :
    Pool j c q p3 s0 n acc (xs ++ ys) P ((s.set p2 (.lst ys)).set p3 (.lst (xs ++ ys))) := by
  have e2 : (s.set p2 (.lst ys)) q = some (.lst acc) := by rw [S.set_ne (ne_of_some h.eq hp)]; exact h.eq
  refine Pool.start (h.st.new hp) e2 hp3 (by simp [h.ne]) (by rw [List.length_append]; exact h2) fun x m => ?_
  rcases List.mem_append.mp m with m | m
  · exact h.all x m
  · exact h3 x m
def sp_words : DSp := fun ds s Q => ∃ (pr many : Nat) (r c t a : Bool), 1 ≤ many ∧ many ≤ 12 ∧ spG 30 (fun as _ _ => as = [.int pr, .int many, .bl r, .bl c, .bl t, .bl a])
  (fun _ s d s' => ∃ p xs, d = .ref p ∧ s p = none ∧ s' p = some (.lst xs) ∧ xs.length = many ∧ ∀ x ∈ xs, WordOk r c t x) ds s Q
theorem rd_words (K : PySem.W.Frag) : ∀ ds s Q, sp_words ds s Q → t__law_words K sp_one_in sp_of (endsOf Q) (startD N__law_words ds) s := by
  rintro ds s0 Q ⟨pr, many, r, cc, t, a, h1, h12, j, c, n, as, rfl, rfl, J, q⟩
  have S := St.start J
  unfold t__law_words N__law_words
  walk_at "rd"
  intro w hw
  unfold b__law_words_1
  walk_at "rd"
  refine ⟨by omega, by omega, ?_⟩
  have hwj := (S.fresh hw).2.1
  refine for_inv (fun i σ s => i ≤ many ∧ ∃ xs o o2, σ = [some (.ref j), some (.int pr), some (.int many), some (.bl r), some (.bl cc), some (.bl t), some (.bl a), some (.ref w), o, o2] ∧ St j c s0 (n + 2 + (many - i) * 2) s ∧ s w = some (.lst xs) ∧ xs.length = i ∧ ∀ x ∈ xs, WordOk r cc t x) _ 0 _ _ (fun _ _ _ _ => trivial) ?_ ?_ ?_
  · rintro i d σ s hd ⟨hi, acc, o, o2, rfl, S, e, hl, hx⟩ N hN
    obtain ⟨rfl, hi'⟩ := rng_get hd
    have hi' : i < many := by omega
    have hfuel : (many - (0 + i)) * 2 = (many - (0 + i + 1)) * 2 + 2 := by omega
    unfold l__law_words_1
    walk_at "rd"
    intro p hp
    have P0 : Pool j c w p s0 _ acc _ (WordOk r cc t) _ := Pool.start (xs := [.str (Str.ofString "pay"), .str (Str.ofString "pay"), .str (Str.ofString "pick"), .str (Str.ofString "pay")]) S e hp (by simp) (by simp) (fun x m => by
      simp only [List.mem_cons, List.not_mem_nil, or_false] at m
      rcases m with rfl | rfl | rfl | rfl
      · exact .pay
      · exact .pay
      · exact .pick
      · exact .pay)
    generalize hE : (EndsD.mk N _ _ _) = E
    have hn : E.nx = N := by rw [← hE]
    let sg : Addr → DS := fun p => [some (.ref j), some (.int pr), some (.int many), some (.bl r), some (.bl cc), some (.bl t), some (.bl a), some (.ref w), some (.int (0 + (i : Nat))), some (.ref p)]
    have st6 : ∀ p xs s, Pool j c w p s0 (n + 2 + (many - (0 + i + 1)) * 2 + 1) acc xs (WordOk r cc t) s → l__law_words_1_6 K sp_one_in sp_of E (sg p) s := by
      intro p xs s P
      unfold l__law_words_1_6
      simp only [sg]
      walk_at "rd"
      refine ⟨⟨_, P.eq⟩, ?_⟩
      refine of_l P.st P.ep P.pj P.ne (by have := P.len; omega) fun x s' m S' e' => ?_
      have ew := e' w _ hwj P.eq
      refine ⟨acc, ew, size_small' (by omega), ?_⟩
      rw [hn]
      refine hN _ _ ⟨by omega, acc ++ [x], _, _, rfl, S'.put hw, DL.S.set_same, by rw [List.length_append, hl]; rfl, fun y m' => ?_⟩
      rcases List.mem_append.mp m' with m' | m'
      · exact hx y m'
      · rw [List.mem_singleton.mp m']; exact P.all x m
    have st5 : ∀ p xs s, Pool j c w p s0 (n + 2 + (many - (0 + i + 1)) * 2 + 2) acc xs (WordOk r cc t) s → l__law_words_1_5 K sp_one_in sp_of E (sg p) s := by
      intro p xs s P
      unfold l__law_words_1_5
      simp only [sg]
      walk_at "rd"
      have go := st6 p xs
      simp only [sg] at go
      split
      · refine call_g (n := n + 2 + (many - (0 + i + 1)) * 2 + 1) (P.st.mono (by omega)) ⟨6, rfl, by decide, by decide⟩ fun d s1 S1 e1 ⟨t', ht⟩ => ?_
        subst ht
        rw [rTru_b]
        have P1 : Pool j c w p s0 (n + 2 + (many - (0 + i + 1)) * 2 + 1) acc xs (WordOk r cc t) s1 := ⟨S1, e1 w _ hwj P.eq, e1 p _ P.pj P.ep, P.pj, P.ne, P.len, P.all⟩
        cases t'
        · rw [if_neg (by decide)]
          exact go s1 P1
        · rw [if_pos rfl]
          intro p2 hp2
          have go2 := st6 p2 [.str (Str.ofString "done")]
          simp only [sg] at go2
          exact go2 _ (Pool.start P1.st P1.eq hp2 (by simp) (by simp) fun x m => by rw [List.mem_singleton.mp m]; exact .done)
      · exact go s ⟨P.st.mono (by omega), P.eq, P.ep, P.pj, P.ne, P.len, P.all⟩
    have st4 : ∀ p xs s, Pool j c w p s0 (n + 2 + (many - (0 + i + 1)) * 2 + 2) acc xs (WordOk r cc t) s → xs.length ≤ 10 → l__law_words_1_4 K sp_one_in sp_of E (sg p) s := by
      intro p xs s P hl
      have go := st5 p xs s P
      unfold l__law_words_1_4
      simp only [sg] at go ⊢
      walk_at "rd"
      split
      · split
        · intro p2 hp2
          refine ⟨xs, by rw [DL.S.set_ne (ne_of_some P.ep hp2)]; exact P.ep, sz (by omega), fun p3 hp3 => ?_⟩
          have go2 := st5 p3 (xs ++ [.str (Str.ofString "ask"), .str (Str.ofString "ask")]) _ (P.add hp2 hp3 (by simp; omega) fun x m => by
            simp only [List.mem_cons, List.not_mem_nil, or_false] at m
            rcases m with rfl | rfl <;> exact .ask)
          simp only [sg] at go2
          exact go2
        · exact go
      · exact go
    have st3 : ∀ p xs s, Pool j c w p s0 (n + 2 + (many - (0 + i + 1)) * 2 + 2) acc xs (WordOk r cc t) s → xs.length ≤ 9 → l__law_words_1_3 K sp_one_in sp_of E (sg p) s := by
      intro p xs s P hl
      have go := st4 p xs s P (by omega)
      unfold l__law_words_1_3
      simp only [sg] at go ⊢
      walk_at "rd"
      split <;> rename_i ht
      · intro p2 hp2
        refine ⟨xs, by rw [DL.S.set_ne (ne_of_some P.ep hp2)]; exact P.ep, sz (by omega), fun p3 hp3 => ?_⟩
        have go2 := st4 p3 (xs ++ [.str (Str.ofString "start")]) _ (P.add hp2 hp3 (by simp; omega) fun x m => by
          rw [List.mem_singleton.mp m]; exact .start ht) (by simp; omega)
        simp only [sg] at go2
        exact go2
      · exact go
    have st2 : ∀ p xs s, Pool j c w p s0 (n + 2 + (many - (0 + i + 1)) * 2 + 2) acc xs (WordOk r cc t) s → xs.length ≤ 7 → l__law_words_1_2 K sp_one_in sp_of E (sg p) s := by
      intro p xs s P hl
      have go := st3 p xs s P (by omega)
      unfold l__law_words_1_2
      simp only [sg] at go ⊢
      walk_at "rd"
      split <;> rename_i ht
      · intro p2 hp2
        refine ⟨xs, by rw [DL.S.set_ne (ne_of_some P.ep hp2)]; exact P.ep, sz (by omega), fun p3 hp3 => ?_⟩
        have go2 := st3 p3 (xs ++ [.str (Str.ofString "call"), .str (Str.ofString "call")]) _ (P.add hp2 hp3 (by simp; omega) fun x m => by
          simp only [List.mem_cons, List.not_mem_nil, or_false] at m
          rcases m with rfl | rfl <;> exact .call ht) (by simp; omega)
        simp only [sg] at go2
        exact go2
      · exact go
    have P0' : Pool j c w p s0 (n + 2 + (many - (0 + i + 1)) * 2 + 2) acc _ (WordOk r cc t) _ := ⟨P0.st.mono (by omega), P0.eq, P0.ep, P0.pj, P0.ne, P0.len, P0.all⟩
    have go := st2 p _ _ P0' (by simp)
    unfold l__law_words_1_1
    simp only [sg] at go ⊢
    walk_at "rd"
    split <;> rename_i ht
    · intro p2 hp2
      refine ⟨_, by rw [DL.S.set_ne (ne_of_some P0.ep hp2)]; exact P0.ep, sz (by decide), fun p3 hp3 => ?_⟩
      have go2 := st2 p3 _ _ (P0'.add (ys := [.str (Str.ofString "read"), .str (Str.ofString "read"), .str (Str.ofString "read")]) hp2 hp3 (by simp) fun x m => by
          simp only [List.mem_cons, List.not_mem_nil, or_false] at m
          rcases m with rfl | rfl | rfl <;> exact .read ht) (by simp)
      simp only [sg] at go2
      exact go2
    · exact go
  · rintro σ s ⟨hi, xs, o, o2, rfl, S, e, hl, hx⟩
    rw [rng_len] at hl
    have hl : xs.length = many := by omega
    unfold b__law_words_2
    walk_at "rd"
    refine call_g (n := n + 1) (S.mono (by omega)) ⟨9, rfl, by decide, by decide⟩ fun d s1 S1 e1 ⟨t', ht⟩ => ?_
    subst ht
    rw [rTru_b]
    have ew := e1 w _ hwj e
    cases t'
    · rw [if_pos rfl]
      have hi2 : L2.ixN xs.length ((many : Int) - 1) = some (many - 1) := by
        unfold L2.ixN; rw [hl, if_pos (by omega), if_pos (by omega)]
        congr 1; omega
      refine ⟨xs, ew, many - 1, hi2, ?_⟩
      unfold b__law_words_3
      walk_at "rd"
      refine fin (q _ _ (S1.put hw).ext ((S1.put hw).jar.mono (by omega)) ⟨w, _, rfl, hw, DL.S.set_same, by rw [List.length_set]; exact hl, fun x m => ?_⟩)
      rcases List.mem_or_eq_of_mem_set m with m | rfl
      · exact hx x m
      · exact .done
    · rw [if_neg (by decide)]
      unfold b__law_words_3
      walk_at "rd"
      exact fin (q _ _ S1.ext (S1.jar.mono (by omega)) ⟨w, _, rfl, hw, ew, hl, hx⟩)
  · exact ⟨by omega, [], _, _, rfl, (S.new hw).mono (by omega), DL.S.set_same, rfl, fun x m => by simp at m⟩
end Toy

set_option maxHeartbeats 2000000
namespace Toy
open PySem DL
local macro_rules | `(tactic| walk_at "rd") => `(tactic| simp only [dSeq, dAsg, dRet, dRetN, dIfS, dNext, dDrop, dPar, dVar, dC, dOp, dUn, dAndV, dOrV, dNotV, dIf, dTest, dTru, dAnd, dOr, dNot, dTup, dLst, daNil, daCons, dCall, dCB, dChain, dSl, dPart_i, dNoPart,
  dDGet, dDPut, dAppend, dgName, dgTup, dgNil, dgCons, dFor, dIter, dAug, dLc, dYes, dDisp, dPairs, isC, isCc,
  rAdd_i, rAdd_s, rAdd_t, rAdd_l, rIAdd_i, rIAdd_s, rIAdd_l, rSub_i, rMul_i, rMul_l, rFdiv_i, rMod_i, rPow_i, rNeg_i, rEq_ii, rEq_ss, rEq_ns, rEq_sn, rEq_is, rEq_si, rEq_bs, rEq_sb, rEq_bb, rEq_nn, rEq_tt, rEq_nt, rEq_tn, rLt_i, rLtD_i, rLtD_s, rLtD_t, rIn_ss, rIn_r, rIn_t, inC_l, inC_d, dgSeq_t, dgSeq_l, rSorted_l, iEnum_l, iZip_l, iZip_t, iRev_l, iRev_t, rGt_i, rLe_i, rGe_i, rLe_s, rLt_s,
  rIs_nn, rIs_bb, rIs_in, rIs_sn, rIs_bn, rIs_rn, rIs_tn, rTru_n, rTru_b, rTru_i, rTru_s, rTru_t, rTru_l, rIx_t, rIx_l, rIx_s, rLen_s, rLen_t, rLen_l, rAbs_i, rInt_i, rStr_i, rMax_i, rMin_i, rTupOf_l, rTupOf_t, rListOf_l, rListOf_t, rAll_l, rAny_l, rSum_l,
  rIsi_r, rIsi_n, rIsi_b, rIsi_i, rIsi_s, rIsi_t, iD_t, iD_s, iD_l, iR1, iR2, rSl_t, rSl_s, rSl_l,
  endsOf, startD, List.map_cons, List.map_nil, List.length_cons, List.length_nil, Nat.reduceAdd, Nat.reduceSub, List.replicate, List.cons_append, List.nil_append, List.getElem?_cons_zero, List.getElem?_cons_succ, List.set_cons_zero, List.set_cons_succ,
  Option.some.injEq, exists_eq_left', exists_eq_left, List.cons.injEq, D.int.injEq, D.tup.injEq, D.bl.injEq, D.str.injEq, D.ref.injEq, and_true, true_and, and_self, id_eq, size0, size1, size2, size3, size4, size5, size6, size7, size8, sizel0, sizel1, sizel2, sizel3, sizel4, sizel5, sizel6, sizel7, lenOf_l, lenOf_d, List.length_map, Int.reduceToNat, Int.reducePow, Int.reduceNeg, Int.reduceLT, Int.reduceLE, atI_0, atI_1, atI_2, atI_3, atI_4, reduceCtorEq, false_and, or_false, false_or, exists_const, exists_false, ite_true, ite_false,
  Bool.false_eq_true, if_true, if_false, decide_eq_true_eq, Bool.not_eq_true', decide_eq_false_iff_not, Bool.not_true, Bool.not_false, and_assoc, exists_and_left, D.key, S.set_same, S.set_set, C.lst.injEq, C.dic.injEq, jd_cells, jd_at, jd_turn, jd_stock, jp_at, jp_turn, jp_stock, jd_len, wipeD])

theorem Jar_sub {s s' : S} {j c : Addr} {n : Nat} (h : Jar s j c n) (u : Sub s s') : Jar s' j c n := by
  obtain ⟨⟨a, t, k, ns, e1, b1, b2, b3, b4, e2, b5⟩, ne⟩ := h
  exact ⟨⟨a, t, k, ns, u _ _ e1, b1, b2, b3, b4, u _ _ e2, b5⟩, ne⟩
theorem Sub_ext {s s' : S} {j : Addr} (u : Sub s s') : Ext j s s' := fun b x _ e => u b x e
theorem St_sub {s s' b : S} {j c : Addr} {n : Nat} (h : St j c b n s) (u : Sub s s') : St j c b n s' := h.next (Sub_ext u) (Jar_sub h.jar u)
def sp_callee : DSp := fun ds s Q => ∃ (pr calm procs : Nat) (t : Bool), 1 ≤ calm ∧ 1 < procs ∧ procs ≤ 100 ∧ (t = true ∨ calm ≤ pr → calm < procs) ∧
  spG 1 (fun as _ _ => as = [.int pr, .int calm, .int procs, .bl t]) (fun _ _ d _ => ∃ r : Int, d = .int r ∧ 0 ≤ r ∧ r < procs) ds s Q
theorem rd_callee (K : PySem.W.Frag) : ∀ ds s Q, sp_callee ds s Q → t__law_callee K sp_draw (endsOf Q) (startD N__law_callee ds) s := by
  rintro ds s0 Q ⟨pr, calm, procs, t, h1, h2, h3, h4, j, c, n, as, rfl, rfl, J, q⟩
  have S := St.start J
  unfold t__law_callee N__law_callee
  walk_at "rd"
  have go : ∀ low : Int, 1 ≤ low → low < procs → sp_draw [.ref j, .int (procs - if low > 1 then low else 1)] s0 fun y s2 => rAdd (.int (if low > 1 then low else 1)) y s2 fun d s' => ∃ s'', Sub s'' s' ∧ Q d s'' := by
    intro low h5 h6
    have e : (if low > 1 then low else 1) = low := by split <;> omega
    rw [e]
    refine draw_g S (by omega) (by omega) fun r s1 h0 h1 S e => ?_
    walk_at "rd"
    exact fin (q _ s1 S.ext S.jar ⟨_, rfl, by omega, by omega⟩)
  split <;> rename_i ht
  · exact go calm (by omega) (by have := h4 (.inl ht); omega)
  · split <;> rename_i hp
    · exact go calm (by omega) (by have := h4 (.inr (by omega)); omega)
    · exact go 1 (by omega) (by omega)
theorem alike_str (x y : Str) : D.alike (.str x) (.str y) = true := by simp [D.alike, D.pd, PySem.W.alike]
theorem Strs.sortable {xs : List D} (h : Strs xs) : sortable xs = true := by
  unfold DL.sortable
  rw [h.fine]
  simp only [Bool.true_and, Bool.and_eq_true, Bool.or_eq_true, List.all_eq_true]
  refine ⟨fun x m y m' => ?_, .inr fun x m => ?_⟩
  · obtain ⟨a, rfl, _⟩ := h x m
    obtain ⟨b, rfl, _⟩ := h y m'
    exact alike_str a b
  · obtain ⟨a, rfl, _⟩ := h x m
    rfl
theorem mem_sortD {xs : List D} {x : D} : x ∈ sortD xs ↔ x ∈ xs := List.mem_mergeSort
theorem len_sortD {xs : List D} : (sortD xs).length = xs.length := List.length_mergeSort _
def Marks (xs : List D) : Prop := ∀ x ∈ xs, ∃ w z, x = .tup [.str w, .str z] ∧ Nm z
def sp_exits : DSp := fun ds s Q => ∃ p xs, ds = [.ref p] ∧ s p = some (.lst xs) ∧ xs.length ≤ 20 ∧ Marks xs ∧ ∀ p' ys s', s p' = none → Sub s s' → s' p' = some (.lst ys) → Strs ys → ys.length ≤ 20 → Q (.ref p') s'
theorem rd_exits (K : PySem.W.Frag) : ∀ ds s Q, sp_exits ds s Q → t__law_exits K (endsOf Q) (startD N__law_exits ds) s := by
  rintro ds s0 Q ⟨p, xs, rfl, hp, hl, hx, q⟩
  unfold t__law_exits N__law_exits
  walk_at "rd"
  intro w hw
  have hpw : p ≠ w := ne_of_some hp hw
  unfold b__law_exits_1
  walk_at "rd"
  refine ⟨xs, by rw [S.set_ne hpw]; exact hp, ?_⟩
  refine for_inv (fun i σ s => i ≤ 20 ∧ ∃ ys o o2, σ = [some (.ref p), some (.ref w), o, o2] ∧ s = s0.set w (.lst ys) ∧ ys.length ≤ i ∧ Strs ys) _ 0 _ _ ?_ ?_ ?_ ?_
  · rintro i σ s ⟨_, ys, o, o2, rfl, rfl, _⟩
    rw [S.set_ne hpw]; exact hp
  · rintro i d σ s hd ⟨hi, ys, o, o2, rfl, rfl, hyl, hy⟩ N hN
    have hi' : i < xs.length := (List.getElem?_eq_some_iff.mp hd).1
    obtain ⟨wd, z, rfl, hz⟩ := hx d (List.mem_of_getElem? hd)
    unfold l__law_exits_1
    walk_at "rd"
    split
    · refine ⟨fine_str hz.ok, hy.fine, ?_⟩
      split
      · refine ⟨⟨_, rfl⟩, size_small' (by omega), ?_⟩
        exact hN _ _ ⟨by omega, ys ++ [.str z], _, _, rfl, rfl, by rw [List.length_append]; simp; omega, hy.snoc hz⟩
      · exact hN _ _ ⟨by omega, ys, _, _, rfl, rfl, by omega, hy⟩
    · exact hN _ _ ⟨by omega, ys, _, _, rfl, rfl, by omega, hy⟩
  · rintro σ s ⟨hi, ys, o, o2, rfl, rfl, hyl, hy⟩
    unfold b__law_exits_2
    walk_at "rd"
    refine ⟨hy.sortable, fun l hl2 => ?_⟩
    have hl0 : s0 l = none := by
      by_cases e : l = w
      · rw [e]; exact hw
      · rw [S.set_ne e] at hl2; exact hl2
    refine fin (q l _ _ hl0 ((Sub.set hw).trans (Sub.set hl2)) S.set_same (fun x m => hy x (mem_sortD.mp m)) (by rw [len_sortD]; omega))
  · exact ⟨by omega, [], _, _, rfl, rfl, by simp, fun x m => by simp at m⟩
end Toy

set_option maxHeartbeats 2000000
namespace Toy
open PySem DL
local macro_rules | `(tactic| walk_at "rd") => `(tactic| simp only [dSeq, dAsg, dRet, dRetN, dIfS, dNext, dDrop, dPar, dVar, dC, dOp, dUn, dAndV, dOrV, dNotV, dIf, dTest, dTru, dAnd, dOr, dNot, dTup, dLst, daNil, daCons, dCall, dCB, dChain, dSl, dPart_i, dNoPart,
  dDGet, dDPut, dAppend, dgName, dgTup, dgNil, dgCons, dFor, dIter, dAug, dLc, dYes, dDisp, dPairs, isC, isCc,
  rAdd_i, rAdd_s, rAdd_t, rAdd_l, rIAdd_i, rIAdd_s, rIAdd_l, rSub_i, rMul_i, rMul_l, rFdiv_i, rMod_i, rPow_i, rNeg_i, rEq_ii, rEq_ss, rEq_ns, rEq_sn, rEq_is, rEq_si, rEq_bs, rEq_sb, rEq_bb, rEq_nn, rEq_tt, rEq_nt, rEq_tn, rLt_i, rLtD_i, rLtD_s, rLtD_t, rIn_ss, rIn_r, rIn_t, inC_l, inC_d, dgSeq_t, dgSeq_l, rSorted_l, iEnum_l, iZip_l, iZip_t, iRev_l, iRev_t, rGt_i, rLe_i, rGe_i, rLe_s, rLt_s,
  rIs_nn, rIs_bb, rIs_in, rIs_sn, rIs_bn, rIs_rn, rIs_tn, rTru_n, rTru_b, rTru_i, rTru_s, rTru_t, rTru_l, rIx_t, rIx_l, rIx_s, rLen_s, rLen_t, rLen_l, rAbs_i, rInt_i, rStr_i, rMax_i, rMin_i, rTupOf_l, rTupOf_t, rListOf_l, rListOf_t, rAll_l, rAny_l, rSum_l,
  rIsi_r, rIsi_n, rIsi_b, rIsi_i, rIsi_s, rIsi_t, iD_t, iD_s, iD_l, iR1, iR2, rSl_t, rSl_s, rSl_l,
  endsOf, startD, List.map_cons, List.map_nil, List.length_cons, List.length_nil, Nat.reduceAdd, Nat.reduceSub, List.replicate, List.cons_append, List.nil_append, List.getElem?_cons_zero, List.getElem?_cons_succ, List.set_cons_zero, List.set_cons_succ,
  Option.some.injEq, exists_eq_left', exists_eq_left, List.cons.injEq, D.int.injEq, D.tup.injEq, D.bl.injEq, D.str.injEq, D.ref.injEq, and_true, true_and, and_self, id_eq, size0, size1, size2, size3, size4, size5, size6, size7, size8, sizel0, sizel1, sizel2, sizel3, sizel4, sizel5, sizel6, sizel7, lenOf_l, lenOf_d, List.length_map, Int.reduceToNat, Int.reducePow, Int.reduceNeg, Int.reduceLT, Int.reduceLE, atI_0, atI_1, atI_2, atI_3, atI_4, reduceCtorEq, false_and, or_false, false_or, exists_const, exists_false, ite_true, ite_false,
  Bool.false_eq_true, if_true, if_false, decide_eq_true_eq, Bool.not_eq_true', decide_eq_false_iff_not, Bool.not_true, Bool.not_false, and_assoc, exists_and_left, D.key, S.set_same, S.set_set, C.lst.injEq, C.dic.injEq, jd_cells, jd_at, jd_turn, jd_stock, jp_at, jp_turn, jp_stock, jd_len, wipeD])

/-- a plan: purses, the rows' kinds, each proc's words, the first proc of the calm ones -/
structure Shape (kinds : List Int) (calm : Nat) (wss : List (List D)) : Prop where
  k1 : kinds.length ≤ 2
  k2 : ∀ k ∈ kinds, 1 ≤ k ∧ k ≤ 3
  c1 : 1 ≤ calm
  c2 : calm ≤ wss.length
  w1 : wss.length ≤ 3
  w2 : ∀ (i : Nat) ws, wss[i]? = some ws → 2 ≤ ws.length ∧ ws.length ≤ 6 ∧ ∀ x ∈ ws, WordOk (decide (0 < kinds.length ∧ (i = 0 ∨ i < calm))) (decide (1 < wss.length ∧ (i < calm ∨ calm < wss.length))) (decide (calm < wss.length)) x
/-- the lists at refs rs hold wss -/
def Rows (s : S) (rs : List D) (wss : List (List D)) : Prop := rs.length = wss.length ∧ ∀ (i : Nat) ws, wss[i]? = some ws → ∃ a, rs[i]? = some (.ref a) ∧ s a = some (.lst ws)
theorem Rows.ext {j : Addr} {s s' : S} {rs : List D} {wss : List (List D)} (h : Rows s rs wss) (e : Ext j s s') (hj : ∀ a, .ref a ∈ rs → a ≠ j) : Rows s' rs wss :=
  ⟨h.1, fun i ws hi => by
    obtain ⟨a, h1, h2⟩ := h.2 i ws hi
    exact ⟨a, h1, e a _ (hj a (List.mem_of_getElem? h1)) h2⟩⟩
def sp_shape : DSp := spG 300 (fun as _ _ => ∃ a : Bool, as = [.bl a])
  (fun _ s d s' => ∃ p pu ra wa rs kinds calm wss, d = .ref p ∧ s p = none ∧ s' p = some (.lst [.int pu, .ref ra, .ref wa, .int (calm : Nat)]) ∧ 1 ≤ pu ∧ pu ≤ 3 ∧ s' ra = some (.lst ((kinds : List Int).map .int)) ∧ s' wa = some (.lst rs) ∧ s ra = none ∧ s wa = none ∧ (∀ a, .ref a ∈ rs → s a = none) ∧ Rows s' rs wss ∧ Shape kinds calm wss)
theorem rd_shape (K : PySem.W.Frag) : ∀ ds s Q, sp_shape ds s Q → t__law_shape K sp_of sp_one_in sp_draw sp_words (endsOf Q) (startD N__law_shape ds) s := by
  rintro ds s0 Q ⟨j, c, n, as, rfl, ⟨asks, rfl⟩, J, q⟩
  have S00 := St.start J
  unfold t__law_shape N__law_shape
  walk_at "rd"
  intro p hp
  refine of_new (n := n + 299) (S00.mono (by omega)) hp (by simp) (by decide) fun x s1 m S1 e1 => ?_
  obtain ⟨pu, rfl, hpu1, hpu2⟩ : ∃ pu : Int, x = .int pu ∧ 1 ≤ pu ∧ pu ≤ 3 := by
    simp only [List.mem_cons, List.not_mem_nil, or_false] at m
    rcases m with rfl | rfl | rfl | rfl | rfl <;> exact ⟨_, rfl, by decide, by decide⟩
  clear m
  unfold b__law_shape_1
  walk_at "rd"
  intro p hp
  refine of_new (n := n + 298) (S1.mono (by omega)) hp (by simp) (by decide) fun x s2 m S2 e2 => ?_
  obtain ⟨k, rfl, hk1, hk2⟩ : ∃ k : Int, x = .int k ∧ 0 ≤ k ∧ k ≤ 2 := by
    simp only [List.mem_cons, List.not_mem_nil, or_false] at m
    rcases m with rfl | rfl | rfl | rfl | rfl | rfl <;> exact ⟨_, rfl, by decide, by decide⟩
  clear m
  walk_at "rd"
  refine ⟨by omega, by omega, fun ra hra => ?_⟩
  have hra0 := S2.fresh hra
  have hlen : (rngD 0 k.toNat).length ≤ 2 := by rw [rng_len]; omega
  refine lc_jar (n := n + 290) 4 (fun y _ => ∃ i : Int, y = .int i ∧ 1 ≤ i ∧ i ≤ 3) hra0.1 (fun _ _ => trivial) (fun _ _ _ h _ => h) (fun _ _ _ h => h) _ [] _ ?_ ((S2.new hra).mono (by omega)) S.set_same (fun x m => by simp at m) (by simp; omega) ?_
  · intro d _ m s acc N S3 ea hN
    walk_at "rd"
    refine draw_g (n := m) (S3.mono (by omega)) (by decide) (by decide) fun r s4 h0 h1 S4 e4 => ?_
    walk_at "rd"
    exact hN _ _ ⟨_, rfl, by omega, by omega⟩ e4 S4.jar
  intro acc s3 hacc hall S3 er
  obtain ⟨kinds, rfl⟩ : ∃ ks : List Int, acc = ks.map .int := by
    have : ∀ acc : List D, (∀ x ∈ acc, ∃ i : Int, x = .int i ∧ 1 ≤ i ∧ i ≤ 3) → ∃ ks : List Int, acc = ks.map .int := by
      intro acc
      induction acc with
      | nil => intro _; exact ⟨[], rfl⟩
      | cons x xs ih =>
        intro h
        obtain ⟨i, rfl, _⟩ := h x List.mem_cons_self
        obtain ⟨ks, e⟩ := ih fun y m => h y (List.mem_cons_of_mem _ m)
        exact ⟨i :: ks, by rw [e]; rfl⟩
    exact this acc hall
  have hkl : kinds.length ≤ 2 := by simp at hacc; omega
  have hkk : ∀ k ∈ kinds, 1 ≤ k ∧ k ≤ 3 := fun k m => by
    obtain ⟨i, e, h1, h2⟩ := hall (.int k) (List.mem_map.mpr ⟨k, m, rfl⟩)
    cases e; exact ⟨h1, h2⟩
  unfold b__law_shape_2
  walk_at "rd"
  intro p hp
  refine of_new (n := n + 289) (S3.mono (by omega)) hp (by simp) (by decide) fun x s4 m S4 e4 => ?_
  obtain ⟨procs, rfl, hq1, hq2⟩ : ∃ k : Nat, x = .int (k : Nat) ∧ 1 ≤ k ∧ k ≤ 3 := by
    simp only [List.mem_cons, List.not_mem_nil, or_false] at m
    rcases m with rfl | rfl | rfl | rfl | rfl | rfl | rfl
    · exact ⟨1, rfl, by decide, by decide⟩
    · exact ⟨1, rfl, by decide, by decide⟩
    · exact ⟨2, rfl, by decide, by decide⟩
    · exact ⟨2, rfl, by decide, by decide⟩
    · exact ⟨2, rfl, by decide, by decide⟩
    · exact ⟨3, rfl, by decide, by decide⟩
    · exact ⟨3, rfl, by decide, by decide⟩
  clear m
  have er4 : s4 ra = some (.lst (kinds.map .int)) := e4 ra _ hra0.2.1 er
  unfold b__law_shape_3
  walk_at "rd"
  -- the calm ones
  have rest : ∀ (calm : Nat) (s : DL.S), 1 ≤ calm → calm ≤ procs → St j c s0 (n + 280) s → s ra = some (.lst (kinds.map .int)) →
      b__law_shape_4 K sp_of sp_one_in sp_draw sp_words (endsOf Q) [some (.ref j), some (.bl asks), some (.int pu), some (.ref ra), some (.int procs), some (.int calm), none, none, none, none, none, none, none] s := by
    intro calm s hc1 hc2 S er
    unfold b__law_shape_4
    walk_at "rd"
    intro wa hwa
    have hwa0 := S.fresh hwa
    have hrw : ra ≠ wa := ne_of_some er hwa
    unfold b__law_shape_5
    walk_at "rd"
    refine ⟨by omega, by omega, ?_⟩
    have hkc : ∀ (a : Addr), D.ref a ∈ kinds.map D.int → False := fun a m => by
      obtain ⟨k, _, e⟩ := List.mem_map.mp m
      cases e
    refine for_inv (fun i σ s' => i ≤ procs ∧ ∃ rs wss o1 o2 o3 o4 o5 o6, σ = [some (.ref j), some (.bl asks), some (.int pu), some (.ref ra), some (.int procs), some (.int calm), some (.ref wa), o1, o2, o3, o4, o5, o6] ∧ St j c s0 (n + (procs - i) * 40) s' ∧ s' wa = some (.lst rs) ∧ s' ra = some (.lst (kinds.map .int)) ∧ (wss : List (List D)).length = i ∧ Rows s' rs wss ∧ (∀ a, .ref a ∈ rs → s0 a = none ∧ a ≠ j ∧ a ≠ wa) ∧
        ∀ (i : Nat) ws, wss[i]? = some ws → 2 ≤ ws.length ∧ ws.length ≤ 6 ∧ ∀ x ∈ ws, WordOk (decide (0 < kinds.length ∧ (i = 0 ∨ i < calm))) (decide (1 < procs ∧ (i < calm ∨ calm < procs))) (decide (calm < procs)) x) _ 0 _ _ (fun _ _ _ _ => trivial) ?_ ?_ ?_
    · rintro i d σ s' hd ⟨hi, rs, wss, o1, o2, o3, o4, o5, o6, rfl, S', ew, er', hwl, hrows, hrf, hws⟩ N hN
      obtain ⟨rfl, hi'⟩ := rng_get hd
      have hi' : i < procs := by omega
      have e0 : (0 : Int) + (i : Nat) = ((i : Nat) : Int) := by omega
      have hfuel : (procs - (0 + i)) * 40 = (procs - (0 + i + 1)) * 40 + 40 := by omega
      unfold l__law_shape_1
      walk_at "rd"
      refine draw_g (n := n + (procs - (0 + i + 1)) * 40 + 35) (S'.mono (by omega)) (by decide) (by decide) fun r s1 h0 h1 S1 e1 => ?_
      have ew1 := e1 wa _ hwa0.2.1 ew
      have er1 := e1 ra _ hra0.2.1 er'
      obtain ⟨many, hm⟩ : ∃ m : Nat, 2 + r = (m : Int) := ⟨(2 + r).toNat, by omega⟩
      walk_at "rd"
      unfold l__law_shape_1_1
      walk_at "rd"
      rw [hm, e0]
      generalize hE : (EndsD.mk N _ _ _) = E
      have hn : E.nx = N := by rw [← hE]
      have fin4 : ∀ rd cl : Bool, rd = decide (0 < kinds.length ∧ (i = 0 ∨ i < calm)) → cl = decide (1 < procs ∧ (i < calm ∨ calm < procs)) → ∀ o5 o6, l__law_shape_1_3 K sp_of sp_one_in sp_draw sp_words E [some (.ref j), some (.bl asks), some (.int pu), some (.ref ra), some (.int procs), some (.int calm), some (.ref wa), some (.int (i : Nat)), some (.int many), some (.bl rd), some (.bl cl), o5, o6] s1 := by
        intro rd cl hrd hcl o5 o6
        unfold l__law_shape_1_3
        walk_at "rd"
        unfold l__law_shape_1_4
        walk_at "rd"
        refine ⟨⟨_, ew1⟩, ?_⟩
        refine ⟨i, many, rd, cl, decide ((calm : Int) < (procs : Int)), asks, by omega, by omega, ?_⟩
        refine call_g (n := n + (procs - (0 + i + 1)) * 40) (S1.mono (by omega)) rfl fun d s2 S2 e2 ⟨p, xs, hd, hp1, hp2, hl, hw⟩ => ?_
        subst hd
        have ew2 := e2 wa _ hwa0.2.1 ew1
        have er2 := e2 ra _ hra0.2.1 er1
        have hr2 := (hrows.ext e1 (fun a m => (hrf a m).2.1)).ext e2 (fun a m => (hrf a m).2.1)
        obtain ⟨p0, pj, pc⟩ := S1.fresh hp1
        have hpw : p ≠ wa := fun z => by rw [z] at hp1; rw [hp1] at ew1; cases ew1
        refine ⟨rs, ew2, size_small' (by have := hrows.1; omega), ?_⟩
        rw [hn]
        have et : decide ((calm : Int) < (procs : Int)) = decide (calm < procs) := decide_eq_decide.mpr (by omega)
        refine hN _ _ ⟨by omega, rs ++ [.ref p], wss ++ [xs], _, _, _, _, _, _, rfl, S2.put hwa0.1, DL.S.set_same, by rw [DL.S.set_ne hrw]; exact er2, by rw [List.length_append, hwl]; rfl, ⟨by rw [List.length_append, List.length_append, hr2.1]; rfl, fun k ws hk => ?_⟩, fun a m => ?_, fun k ws hk => ?_⟩
        · rcases Nat.lt_or_ge k wss.length with hlt | hge
          · rw [List.getElem?_append_left hlt] at hk
            obtain ⟨a, h1, h2⟩ := hr2.2 k ws hk
            have hm := List.mem_of_getElem? h1
            exact ⟨a, by rw [List.getElem?_append_left (by rw [hr2.1]; exact hlt)]; exact h1, by rw [DL.S.set_ne (hrf a hm).2.2]; exact h2⟩
          · rw [List.getElem?_append_right hge] at hk
            have hk0 : k - wss.length = 0 := by
              have := (List.getElem?_eq_some_iff.mp hk).1
              simp at this; omega
            rw [hk0] at hk
            cases hk
            refine ⟨p, ?_, by rw [DL.S.set_ne hpw]; exact hp2⟩
            rw [List.getElem?_append_right (by rw [hr2.1]; exact hge), hr2.1, hk0]; rfl
        · rcases List.mem_append.mp m with m | m
          · exact hrf a m
          · cases List.mem_singleton.mp m; exact ⟨p0, pj, hpw⟩
        · rcases Nat.lt_or_ge k wss.length with hlt | hge
          · rw [List.getElem?_append_left hlt] at hk
            exact hws k ws hk
          · rw [List.getElem?_append_right hge] at hk
            have hk0 : k - wss.length = 0 := by
              have := (List.getElem?_eq_some_iff.mp hk).1
              simp at this; omega
            rw [hk0] at hk
            cases hk
            have hki : k = i := by omega
            subst hki
            rw [← hrd, ← hcl, ← et]
            exact ⟨by omega, by omega, hw⟩
      have fin3 : ∀ rd : Bool, rd = decide (0 < kinds.length ∧ (i = 0 ∨ i < calm)) → ∀ o4 o5 o6, l__law_shape_1_2 K sp_of sp_one_in sp_draw sp_words E [some (.ref j), some (.bl asks), some (.int pu), some (.ref ra), some (.int procs), some (.int calm), some (.ref wa), some (.int (i : Nat)), some (.int many), some (.bl rd), o4, o5, o6] s1 := by
        intro rd hrd o4 o5 o6
        unfold l__law_shape_1_2
        walk_at "rd"
        split <;> rename_i h1
        · split <;> rename_i h2
          · exact fin4 rd _ hrd (decide_eq_decide.mpr (by omega)) _ _
          · exact fin4 rd _ hrd (decide_eq_decide.mpr (by omega)) _ _
        · exact fin4 rd _ hrd (decide_eq_decide.mpr (by omega)) _ _
      refine ⟨_, by rw [er1]; rfl, ?_⟩
      rw [List.length_map]
      split <;> rename_i h1
      · split <;> rename_i h2
        · exact fin3 _ (decide_eq_decide.mpr (by omega)) _ _ _
        · exact fin3 _ (decide_eq_decide.mpr (by omega)) _ _ _
      · exact fin3 _ (decide_eq_decide.mpr (by omega)) _ _ _
    · rintro σ s' ⟨hi, rs, wss, o1, o2, o3, o4, o5, o6, rfl, S', ew, er', hwl, hrows, hrf, hws⟩
      rw [rng_len] at hwl
      have hwl : wss.length = procs := by omega
      unfold b__law_shape_6
      walk_at "rd"
      intro p hp
      have hp0 := S'.fresh hp
      have pra := ne_of_some er' hp
      have pwa := ne_of_some ew hp
      refine fin (q _ _ (S'.new hp).ext ((S'.new hp).jar.mono (by omega)) ⟨p, pu, ra, wa, rs, kinds, calm, wss, rfl, hp0.1, DL.S.set_same, hpu1, hpu2, by rw [DL.S.set_ne pra]; exact er', by rw [DL.S.set_ne pwa]; exact ew, hra0.1, hwa0.1, fun a m => (hrf a m).1, ?_, ?_⟩)
      · exact hrows.ext (Ext.new hp) fun a m => (hrf a m).2.1
      · exact ⟨hkl, hkk, hc1, by omega, by omega, by rw [hwl]; exact hws⟩
    · exact ⟨by omega, [], [], _, _, _, _, _, _, rfl, (S.new hwa).mono (by omega), DL.S.set_same, by rw [DL.S.set_ne hrw]; exact er, rfl, ⟨rfl, fun i ws h => by simp at h⟩, fun a m => by simp at m, fun i ws h => by simp at h⟩
  refine call_g (n := n + 288) (S4.mono (by omega)) ⟨3, rfl, by decide, by decide⟩ fun d s5 S5 e5 ⟨t', ht⟩ => ?_
  subst ht
  rw [rTru_b]
  have er5 := e5 ra _ hra0.2.1 er4
  cases t'
  · rw [if_neg (by decide)]
    refine draw_g (n := n + 287) (S5.mono (by omega)) (by omega) (by omega) fun r s6 h0 h1 S6 e6 => ?_
    walk_at "rd"
    have := rest (1 + r).toNat s6 (by omega) (by omega) (S6.mono (by omega)) (e6 ra _ hra0.2.1 er5)
    rw [show (((1 + r).toNat : Nat) : Int) = 1 + r by omega] at this
    exact this
  · rw [if_pos rfl]
    exact rest procs s5 hq1 (Nat.le_refl _) (S5.mono (by omega)) er5
end Toy

set_option maxHeartbeats 2000000
namespace Toy
open PySem DL
local macro_rules | `(tactic| walk_at "rd") => `(tactic| simp only [dSeq, dAsg, dRet, dRetN, dIfS, dNext, dDrop, dPar, dVar, dC, dOp, dUn, dAndV, dOrV, dNotV, dIf, dTest, dTru, dAnd, dOr, dNot, dTup, dLst, daNil, daCons, dCall, dCB, dChain, dSl, dPart_i, dNoPart,
  dDGet, dDPut, dAppend, dgName, dgTup, dgNil, dgCons, dFor, dIter, dAug, dLc, dYes, dDisp, dPairs, isC, isCc,
  rAdd_i, rAdd_s, rAdd_t, rAdd_l, rIAdd_i, rIAdd_s, rIAdd_l, rSub_i, rMul_i, rMul_l, rFdiv_i, rMod_i, rPow_i, rNeg_i, rEq_ii, rEq_ss, rEq_ns, rEq_sn, rEq_is, rEq_si, rEq_bs, rEq_sb, rEq_bb, rEq_nn, rEq_tt, rEq_nt, rEq_tn, rLt_i, rLtD_i, rLtD_s, rLtD_t, rIn_ss, rIn_r, rIn_t, inC_l, inC_d, dgSeq_t, dgSeq_l, rSorted_l, iEnum_l, iZip_l, iZip_t, iRev_l, iRev_t, rGt_i, rLe_i, rGe_i, rLe_s, rLt_s,
  rIs_nn, rIs_bb, rIs_in, rIs_sn, rIs_bn, rIs_rn, rIs_tn, rTru_n, rTru_b, rTru_i, rTru_s, rTru_t, rTru_l, rIx_t, rIx_l, rIx_s, rLen_s, rLen_t, rLen_l, rAbs_i, rInt_i, rStr_i, rMax_i, rMin_i, rTupOf_l, rTupOf_t, rListOf_l, rListOf_t, rAll_l, rAny_l, rSum_l,
  rIsi_r, rIsi_n, rIsi_b, rIsi_i, rIsi_s, rIsi_t, iD_t, iD_s, iD_l, iR1, iR2, rSl_t, rSl_s, rSl_l,
  endsOf, startD, List.map_cons, List.map_nil, List.length_cons, List.length_nil, Nat.reduceAdd, Nat.reduceSub, List.replicate, List.cons_append, List.nil_append, List.getElem?_cons_zero, List.getElem?_cons_succ, List.set_cons_zero, List.set_cons_succ,
  Option.some.injEq, exists_eq_left', exists_eq_left, List.cons.injEq, D.int.injEq, D.tup.injEq, D.bl.injEq, D.str.injEq, D.ref.injEq, and_true, true_and, and_self, id_eq, size0, size1, size2, size3, size4, size5, size6, size7, size8, sizel0, sizel1, sizel2, sizel3, sizel4, sizel5, sizel6, sizel7, lenOf_l, lenOf_d, List.length_map, Int.reduceToNat, Int.reducePow, Int.reduceNeg, Int.reduceLT, Int.reduceLE, atI_0, atI_1, atI_2, atI_3, atI_4, reduceCtorEq, false_and, or_false, false_or, exists_const, exists_false, ite_true, ite_false,
  Bool.false_eq_true, if_true, if_false, decide_eq_true_eq, Bool.not_eq_true', decide_eq_false_iff_not, Bool.not_true, Bool.not_false, and_assoc, exists_and_left, D.key, S.set_same, S.set_set, C.lst.injEq, C.dic.injEq, jd_cells, jd_at, jd_turn, jd_stock, jp_at, jp_turn, jp_stock, jd_len, wipeD])

theorem atI_int' {α : Type} {xs : List α} {i : Int} {x : α} (h0 : 0 ≤ i) (h : xs[i.toNat]? = some x) : L2.atI xs i = some x := by
  have e : i = ((i.toNat : Nat) : Int) := by omega
  rw [e]; exact atI_nat' h
theorem Jar_ne {s : S} {j c p : Addr} {n : Nat} {xs : List D} (J : Jar s j c n) (e : s p = some (.lst xs)) : p ≠ j := fun z => by
  obtain ⟨⟨a, t, k, ns, e1, _⟩, _⟩ := J
  rw [z, e1] at e; cases e
theorem St_get {s0 s : S} {j c p : Addr} {m : Nat} {xs : List D} (h : St j c s0 m s) (e : s0 p = some (.lst xs)) (hp : p ≠ j) : s p = some (.lst xs) := h.ext p _ hp e
theorem word_read {r c t : Bool} {x : D} (h : WordOk r c t x) (e : x = .str (Str.ofString "read")) : r = true := by
  cases h with
  | read h => exact h
  | _ => exact absurd (D.str.inj e) (by decide +kernel)
theorem word_start {r c t : Bool} {x : D} (h : WordOk r c t x) (e : x = .str (Str.ofString "start")) : t = true := by
  cases h with
  | start h => exact h
  | _ => exact absurd (D.str.inj e) (by decide +kernel)
theorem word_call {r c t : Bool} {w : Str} (h : WordOk r c t (.str w)) (e1 : ¬ w = Str.ofString "done") (e2 : ¬ w = Str.ofString "pay") (e3 : ¬ w = Str.ofString "read") (e4 : ¬ w = Str.ofString "pick") (e5 : ¬ w = Str.ofString "ask") (e6 : ¬ w = Str.ofString "start") : c = true := by
  have : ∀ x, WordOk r c t x → x = .str w → c = true := by
    intro x h e
    cases h with
    | call h => exact h
    | pay => exact absurd (D.str.inj e).symm e2
    | pick => exact absurd (D.str.inj e).symm e4
    | ask => exact absurd (D.str.inj e).symm e5
    | done => exact absurd (D.str.inj e).symm e1
    | read _ => exact absurd (D.str.inj e).symm e3
    | start _ => exact absurd (D.str.inj e).symm e6
  exact this _ h rfl
/-- the marked words of the procs -/
def Told (kinds : List Int) (calm : Nat) (tss : List (List D)) : Prop :=
  ∀ (i : Nat) ts, tss[i]? = some ts → 2 ≤ ts.length ∧ ts.length ≤ 6 ∧ ∀ x ∈ ts, ∃ w z, x = .tup [.str w, .str z] ∧ Nm z ∧ WordOk (decide (0 < kinds.length ∧ (i = 0 ∨ i < calm))) (decide (1 < tss.length ∧ (i < calm ∨ calm < tss.length))) (decide (calm < tss.length)) (.str w)
/-- names with lists -/
def Outs (s : S) (j : Addr) (xs : List D) : Prop := ∀ x ∈ xs, ∃ w q ys, x = .tup [.str w, .ref q] ∧ q ≠ j ∧ s q = some (.lst ys) ∧ Strs ys ∧ ys.length ≤ 20
def sp_deed : DSp := fun ds s Q => ∃ (na pl ex ra ta ro : Addr) (proc at_ calm : Nat) (w : Bool) (names rs exs rows : List D) (pu : Int) (kinds : List Int) (tss : List (List D)),
  (s na = some (.lst names) ∧ Strs names ∧ names.length ≤ 20 ∧ at_ < names.length) ∧
  (s pl = some (.lst [.int pu, .ref ra, .ref ta, .int calm]) ∧ 1 ≤ pu ∧ pu ≤ 3 ∧ s ra = some (.lst (kinds.map .int)) ∧ kinds.length ≤ 2 ∧ ∀ k ∈ kinds, 1 ≤ k ∧ k ≤ 3) ∧
  (s ta = some (.lst rs) ∧ Rows s rs tss ∧ Told kinds calm tss ∧ 1 ≤ calm ∧ calm ≤ tss.length ∧ tss.length ≤ 3 ∧ proc < tss.length ∧ ∀ ts, tss[proc]? = some ts → at_ < ts.length) ∧
  (s ex = some (.lst exs) ∧ exs.length = tss.length ∧ (∀ j, (∃ c n, Jar s j c n) → Outs s j exs)) ∧
  (s ro = some (.lst rows) ∧ rows.length = kinds.length ∧ ∀ x ∈ rows, ∃ a b, x = .tup [a, b]) ∧
  spG 100 (fun as _ _ => as = [.ref na, .ref pl, .int proc, .int at_, .ref ex, .ref ro, .bl w]) (fun _ _ _ _ => True) ds s Q
theorem rd_deed (K : PySem.W.Frag) : ∀ ds s Q, sp_deed ds s Q → t__law_deed K sp_callee sp_draw sp_price sp_target (endsOf Q) (startD N__law_deed ds) s := by
  rintro ds s0 Q ⟨na, pl, ex, ra, ta, ro, proc, at_, calm, wide, names, rs, exs, rows, pu, kinds, tss, ⟨hna, hnames, hnl, hat⟩, ⟨hpl, hpu1, hpu2, hra, hkl, hkk⟩, ⟨hta, hrows, htold, hc1, hc2, ht3, hproc, hat2⟩, ⟨hex, hexl, hexs⟩, ⟨hro, hrol, hroo⟩, j, c, n, as, rfl, rfl, J, q⟩
  have S00 := St.start J
  have get : ∀ {p xs m s}, s0 p = some (.lst xs) → St j c s0 m s → s p = some (.lst xs) := fun e h => St_get h e (Jar_ne J e)
  obtain ⟨ts, hts⟩ : ∃ ts, tss[proc]? = some ts := ⟨tss[proc], by simp⟩
  obtain ⟨hw2, hw6, hwx⟩ := htold proc ts hts
  obtain ⟨tr, htr1, htr2⟩ := hrows.2 proc ts hts
  have hatt := hat2 ts hts
  obtain ⟨wd, hwd⟩ : ∃ wd, ts[at_]? = some wd := ⟨ts[at_], by simp⟩
  obtain ⟨w, z, rfl, hz, hok⟩ := hwx wd (List.mem_of_getElem? hwd)
  have endQ : ∀ (d : D) {m s}, St j c s0 (n + m) s → ∃ s'', Sub s'' s ∧ Q d s'' := fun d m s S => fin (q d s S.ext (S.jar.mono (by omega)) trivial)
  -- a target's name
  have name_at : ∀ {m s} {N : QD}, St j c s0 (m + 3) s → (∀ d s', St j c s0 m s' → Ext j s s' → N d s') → sp_target [.ref j, .int at_, .int names.length] s fun y s2 => rIxD (.ref na) y s2 N := by
    intro m s N S hN
    refine ⟨at_, names.length, hat, by omega, ?_⟩
    refine call_g S rfl fun d s1 S1 e1 ⟨r, hd, h0, h1⟩ => ?_
    subst hd
    have hi : r.toNat < names.length := by omega
    exact ⟨names, names[r.toNat], get hna S1, atI_int' h0 (by simp [hi]), hN _ _ S1 e1⟩
  let sg : Option D → Option D → Option D → DS := fun o10 o11 o16 => [some (.ref j), some (.ref na), some (.ref pl), some (.int proc), some (.int at_), some (.ref ex), some (.ref ro), some (.bl wide), some (.str w), some (.int names.length), o10, o11, some (.int pu), some (.ref ra), some (.ref ta), some (.int calm), o16, none, none, none, none, none, none]
  -- call
  have s9 : ∀ (cal : Int) s, St j c s0 (n + 80) s → 0 ≤ cal → cal < tss.length → b__law_deed_9 K sp_callee sp_draw sp_price sp_target (endsOf Q) (sg (some (.int cal)) none none) s := by
    intro cal s S h0 h1
    have hi : cal.toNat < exs.length := by omega
    obtain ⟨nm, qe, ys, e1, e2, e3, e4, e5⟩ := hexs j ⟨c, _, J⟩ exs[cal.toNat] (List.getElem_mem hi)
    have hx : L2.atI exs cal = some (.tup [.str nm, .ref qe]) := atI_int' h0 (by simp [hi, e1])
    have hq0 := e3
    have hy := St_get S e3 e2
    unfold b__law_deed_9
    simp only [sg]
    walk_at "rd"
    refine ⟨_, get hex S, _, hx, ?_⟩
    walk_at "rd"
    refine ⟨ys, hy, fun p hp => ?_⟩
    have hp0 := S.fresh hp
    refine lc_jar (n := n + 10) 3 (fun _ _ => True) hp0.1 (fun s e => e qe _ e2 e3) (fun _ _ _ _ _ => trivial) (fun _ _ _ _ => trivial) _ [] _ ?_ ((S.new hp).mono (by omega)) DL.S.set_same (fun x m => by simp at m) (by simp; omega) ?_
    · intro d hd m s acc N S ea hN
      walk_at "rd"
      exact name_at S fun y s' S' e' => hN _ s' trivial e' S'.jar
    · intro acc s1 _ _ S1 ea
      unfold b__law_deed_10
      walk_at "rd"
      refine ⟨_, get hex S1, _, hx, ?_⟩
      walk_at "rd"
      exact ⟨_, ea, endQ _ S1⟩
  have s8 : ∀ (cal : Int) s, St j c s0 (n + 84) s → 0 ≤ cal → cal < tss.length → b__law_deed_8 K sp_callee sp_draw sp_price sp_target (endsOf Q) (sg (some (.int cal)) none none) s := by
    intro cal s S h0 h1
    have hi : cal.toNat < exs.length := by omega
    obtain ⟨nm, qe, ys, e1, e2, e3, e4, e5⟩ := hexs j ⟨c, _, J⟩ exs[cal.toNat] (List.getElem_mem hi)
    have hx : L2.atI exs cal = some (.tup [.str nm, .ref qe]) := atI_int' h0 (by simp [hi, e1])
    have go := s9 cal s (S.mono (by omega)) h0 h1
    unfold b__law_deed_8
    simp only [sg] at go ⊢
    walk_at "rd"
    split
    · refine ⟨_, get hex S, _, hx, ?_⟩
      walk_at "rd"
      exact name_at (m := n + 81) S fun y s' S' e' => endQ _ S'
    · exact go
  have s7 : ∀ s, St j c s0 (n + 85) s → ¬ w = Str.ofString "done" → ¬ w = Str.ofString "pay" → ¬ w = Str.ofString "read" → ¬ w = Str.ofString "pick" → ¬ w = Str.ofString "ask" → b__law_deed_7 K sp_callee sp_draw sp_price sp_target (endsOf Q) (sg none none none) s := by
    intro s S k1 k2 k3 k4 k5
    unfold b__law_deed_7
    simp only [sg]
    walk_at "rd"
    refine ⟨_, by rw [get hta S]; rfl, ?_⟩
    rw [hrows.1]
    have hA : w = Str.ofString "start" → calm < tss.length := fun e => by
      have := word_start hok (by rw [e]); simpa using this
    have hB : ¬ w = Str.ofString "start" → 1 < tss.length ∧ (proc < calm ∨ calm < tss.length) := fun e => by
      have := word_call hok k1 k2 k3 k4 k5 e; simpa using this
    have h2 : 1 < tss.length := by
      by_cases e : w = Str.ofString "start"
      · have := hA e; omega
      · exact (hB e).1
    refine ⟨proc, calm, tss.length, decide (w = Str.ofString "start"), hc1, h2, by omega, fun h => ?_, ?_⟩
    · by_cases e : w = Str.ofString "start"
      · exact hA e
      · have := (hB e).2
        rcases h with h | h
        · exact absurd (of_decide_eq_true h) e
        · omega
    · refine call_g (n := n + 84) S rfl fun d s1 S1 e1 ⟨r, hd, h0, h1⟩ => ?_
      subst hd
      exact s8 r s1 S1 h0 h1
  have s6 : ∀ s, St j c s0 (n + 95) s → ¬ w = Str.ofString "done" → ¬ w = Str.ofString "pay" → ¬ w = Str.ofString "read" → b__law_deed_6 K sp_callee sp_draw sp_price sp_target (endsOf Q) (sg none none none) s := by
    intro s S k1 k2 k3
    have pick : ∀ x : Str, sp_draw [.ref j, .int 2] s fun y s2 => rAdd (.int 2) y s2 fun x_1 s1 => iRng1D (fun J s1 => ∀ p, s1 p = none → lcD (dgName 22) dYes (dOp rIxD (dVar 1) (dCall sp_target (daCons (dVar 0) (daCons (dVar 4) (daCons (dVar 9) daNil))))) J.G (sg none none none) p (fun s1 => ∃ ds, s1 p = some (.lst ds) ∧ ∃ s'', Sub s'' s1 ∧ Q (.tup [.str x, .tup ds]) s'') J.ds (s1.set p (.lst []))) [x_1] s1 := by
      intro x
      refine draw_g (n := n + 94) S (by decide) (by decide) fun r s1 h0 h1 S1 e1 => ?_
      walk_at "rd"
      refine ⟨by omega, by omega, fun p hp => ?_⟩
      have hp0 := S1.fresh hp
      have hlen : (rngD 0 (2 + r).toNat).length ≤ 3 := by rw [rng_len]; omega
      refine lc_jar (n := n + 10) 3 (fun _ _ => True) hp0.1 (fun _ _ => trivial) (fun _ _ _ _ _ => trivial) (fun _ _ _ _ => trivial) _ [] _ ?_ ((S1.new hp).mono (by omega)) DL.S.set_same (fun x m => by simp at m) (by simp; omega) ?_
      · intro d hd m s acc N S ea hN
        simp only [sg]
        walk_at "rd"
        exact name_at S fun y s' S' e' => hN _ s' trivial e' S'.jar
      · intro acc s2 _ _ S2 ea
        exact ⟨_, ea, endQ _ S2⟩
    unfold b__law_deed_6
    simp only [sg] at pick ⊢
    walk_at "rd"
    split <;> rename_i k4
    · exact pick w
    · split <;> rename_i k5
      · exact pick w
      · exact s7 s (S.mono (by omega)) k1 k2 k3 k4 k5
  have s5 : ∀ s, St j c s0 (n + 97) s → ¬ w = Str.ofString "done" → ¬ w = Str.ofString "pay" → b__law_deed_5 K sp_callee sp_draw sp_price sp_target (endsOf Q) (sg none none none) s := by
    intro s S k1 k2
    have go := s6 s (S.mono (by omega)) k1 k2
    unfold b__law_deed_5
    simp only [sg] at go ⊢
    walk_at "rd"
    split <;> rename_i k3
    · have hk0 : 0 < kinds.length := by
        have := word_read hok (by rw [k3]); simp at this; omega
      refine ⟨_, by rw [get hra S]; rfl, ?_⟩
      rw [List.length_map]
      refine draw_g (n := n + 96) S (by omega) (by omega) fun r s1 h0 h1 S1 e1 => ?_
      walk_at "rd"
      have hi : r.toNat < kinds.length := by omega
      have hkr := hkk _ (List.getElem_mem hi)
      refine ⟨_, get hra S1, .int kinds[r.toNat], atI_int' h0 (by simp [hi]), ?_⟩
      walk_at "rd"
      refine ⟨by omega, by omega, fun p hp => ?_⟩
      have hp0 := S1.fresh hp
      have hlen : (rngD 0 (kinds[r.toNat] + 1).toNat).length ≤ 4 := by rw [rng_len]; omega
      refine lc_jar (n := n + 10) 3 (fun _ _ => True) hp0.1 (fun _ _ => trivial) (fun _ _ _ _ _ => trivial) (fun _ _ _ _ => trivial) _ [] _ ?_ ((S1.new hp).mono (by omega)) DL.S.set_same (fun x m => by simp at m) (by simp; omega) ?_
      · intro d hd m s acc N S ea hN
        walk_at "rd"
        exact name_at S fun y s' S' e' => hN _ s' trivial e' S'.jar
      · intro acc s2 _ _ S2 ea
        have hi2 : r.toNat < rows.length := by omega
        obtain ⟨a, b, hab⟩ := hroo _ (List.getElem_mem hi2)
        refine ⟨_, get hro S2, .tup [a, b], atI_int' h0 (by simp [hi2, hab]), ?_⟩
        walk_at "rd"
        exact ⟨_, ea, endQ _ S2⟩
    · exact go k3
  have s4 : ∀ s, St j c s0 (n + 98) s → ¬ w = Str.ofString "done" → b__law_deed_4 K sp_callee sp_draw sp_price sp_target (endsOf Q) (sg none none none) s := by
    intro s S k1
    have go := s5 s (S.mono (by omega)) k1
    unfold b__law_deed_4
    simp only [sg] at go ⊢
    walk_at "rd"
    split <;> rename_i k2
    · refine ⟨by omega, by omega, fun p hp => ?_⟩
      have hp0 := S.fresh hp
      have hlen : (rngD 0 pu.toNat).length ≤ 3 := by rw [rng_len]; omega
      refine lc_jar (n := n + 10) 3 (fun _ _ => True) hp0.1 (fun _ _ => trivial) (fun _ _ _ _ _ => trivial) (fun _ _ _ _ => trivial) _ [] _ ?_ ((S.new hp).mono (by omega)) DL.S.set_same (fun x m => by simp at m) (by simp; omega) ?_
      · intro d hd m s acc N S ea hN
        walk_at "rd"
        exact call_g S ⟨wide, rfl⟩ fun d s1 S1 e1 _ => hN _ s1 trivial e1 S1.jar
      · intro acc s2 _ _ S2 ea
        refine ⟨_, ea, ?_⟩
        exact name_at (m := n + 7) S2 fun y s' S' e' => endQ _ S'
    · exact go k2
  have s3 : ∀ s, St j c s0 (n + 98) s → b__law_deed_3 K sp_callee sp_draw sp_price sp_target (endsOf Q) (sg none none none) s := by
    intro s S
    have go := s4 s S
    unfold b__law_deed_3
    simp only [sg] at go ⊢
    walk_at "rd"
    split <;> rename_i k1
    · refine ⟨_, get hta S, _, atI_nat' htr1, ?_⟩
      walk_at "rd"
      refine ⟨_, get htr2 S, _, atI_nat' hwd, ?_⟩
      walk_at "rd"
      exact endQ _ S
    · exact go k1
  unfold t__law_deed N__law_deed
  walk_at "rd"
  refine ⟨_, get hpl S00, rfl, ?_⟩
  walk_at "rd"
  unfold b__law_deed_1
  walk_at "rd"
  refine ⟨_, get hta S00, _, atI_nat' htr1, ?_⟩
  walk_at "rd"
  refine ⟨_, get htr2 S00, _, atI_nat' hwd, ?_⟩
  walk_at "rd"
  unfold b__law_deed_2
  walk_at "rd"
  refine ⟨_, by rw [get hna S00]; rfl, ?_⟩
  exact s3 s0 (S00.mono (by omega))
end Toy

set_option maxHeartbeats 2000000
namespace Toy
open PySem DL
local macro_rules | `(tactic| walk_at "rd") => `(tactic| simp only [dSeq, dAsg, dRet, dRetN, dIfS, dNext, dDrop, dPar, dVar, dC, dOp, dUn, dAndV, dOrV, dNotV, dIf, dTest, dTru, dAnd, dOr, dNot, dTup, dLst, daNil, daCons, dCall, dCB, dChain, dSl, dPart_i, dNoPart,
  dDGet, dDPut, dAppend, dgName, dgTup, dgNil, dgCons, dFor, dIter, dAug, dLc, dYes, dDisp, dPairs, isC, isCc,
  rAdd_i, rAdd_s, rAdd_t, rAdd_l, rIAdd_i, rIAdd_s, rIAdd_l, rSub_i, rMul_i, rMul_l, rFdiv_i, rMod_i, rPow_i, rNeg_i, rEq_ii, rEq_ss, rEq_ns, rEq_sn, rEq_is, rEq_si, rEq_bs, rEq_sb, rEq_bb, rEq_nn, rEq_tt, rEq_nt, rEq_tn, rLt_i, rLtD_i, rLtD_s, rLtD_t, rIn_ss, rIn_r, rIn_t, inC_l, inC_d, dgSeq_t, dgSeq_l, rSorted_l, iEnum_l, iZip_l, iZip_t, iRev_l, iRev_t, rGt_i, rLe_i, rGe_i, rLe_s, rLt_s,
  rIs_nn, rIs_bb, rIs_in, rIs_sn, rIs_bn, rIs_rn, rIs_tn, rTru_n, rTru_b, rTru_i, rTru_s, rTru_t, rTru_l, rIx_t, rIx_l, rIx_s, rLen_s, rLen_t, rLen_l, rAbs_i, rInt_i, rStr_i, rMax_i, rMin_i, rTupOf_l, rTupOf_t, rListOf_l, rListOf_t, rAll_l, rAny_l, rSum_l,
  rIsi_r, rIsi_n, rIsi_b, rIsi_i, rIsi_s, rIsi_t, iD_t, iD_s, iD_l, iR1, iR2, rSl_t, rSl_s, rSl_l,
  endsOf, startD, List.map_cons, List.map_nil, List.length_cons, List.length_nil, Nat.reduceAdd, Nat.reduceSub, List.replicate, List.cons_append, List.nil_append, List.getElem?_cons_zero, List.getElem?_cons_succ, List.set_cons_zero, List.set_cons_succ,
  Option.some.injEq, exists_eq_left', exists_eq_left, List.cons.injEq, D.int.injEq, D.tup.injEq, D.bl.injEq, D.str.injEq, D.ref.injEq, and_true, true_and, and_self, id_eq, size0, size1, size2, size3, size4, size5, size6, size7, size8, sizel0, sizel1, sizel2, sizel3, sizel4, sizel5, sizel6, sizel7, lenOf_l, lenOf_d, List.length_map, Int.reduceToNat, Int.reducePow, Int.reduceNeg, Int.reduceLT, Int.reduceLE, atI_0, atI_1, atI_2, atI_3, atI_4, reduceCtorEq, false_and, or_false, false_or, exists_const, exists_false, ite_true, ite_false,
  Bool.false_eq_true, if_true, if_false, decide_eq_true_eq, Bool.not_eq_true', decide_eq_false_iff_not, Bool.not_true, Bool.not_false, and_assoc, exists_and_left, D.key, S.set_same, S.set_set, C.lst.injEq, C.dic.injEq, jd_cells, jd_at, jd_turn, jd_stock, jp_at, jp_turn, jp_stock, jd_len, wipeD])

/-- a word, marked -/
def Mk (r c t : Bool) (x : D) : Prop := ∃ w z, x = .tup [.str w, .str z] ∧ Nm z ∧ WordOk r c t (.str w)
theorem word_str {r c t : Bool} {x : D} (h : WordOk r c t x) : ∃ w, x = .str w := by cases h <;> exact ⟨_, rfl⟩
section
variable {K : PySem.W.Frag} {j c : Addr} {b : S} {n : Nat} {E : EndsD}
/-- the words of one proc are marked -/
theorem mark_loop {ga p a : Addr} {gates ws : List D} {r cc t : Bool} {sg : Option D → DS} (hga : b ga = some (.lst gates)) (hg : Strs gates) (hgl : gates.length = 2) (ha : b a = some (.lst ws)) (hw : ∀ x ∈ ws, WordOk r cc t x) (hwl : ws.length ≤ 6) (hp : b p = none)
    (h0 : ∀ o, (sg o)[0]? = some (some (.ref j))) (h3 : ∀ o, (sg o)[3]? = some (some (.ref ga))) (h17 : ∀ o, (sg o)[17]? = some (some (.ref p))) (h18 : ∀ o, (sg o)[18]? = some o) (hs : ∀ o d, (sg o).set 18 (some d) = sg (some d)) {s : S} {o : Option D}
    (S0 : St j c b (n + ws.length) s) (hs0 : s p = some (.lst [])) (hj : ga ≠ j ∧ a ≠ j)
    (fin_ : ∀ o s' ms, St j c b n s' → s' p = some (.lst ms) → ms.length = ws.length → (∀ x ∈ ms, Mk r cc t x) → E.nx (sg o) s') :
    forD (dgName 18) (l__law_program_2 K sp_shape sp_names sp_stem sp_exits sp_deed sp_draw) (fun s' => s' a = some (.lst ws)) E ws (sg o) s := by
  have hpj : p ≠ j := fun z => S0.hj (by rw [← z]; exact hp)
  refine for_inv (fun i σ s => i ≤ ws.length ∧ ∃ ms o, σ = sg o ∧ St j c b (n + (ws.length - i)) s ∧ s p = some (.lst ms) ∧ ms.length = i ∧ ∀ x ∈ ms, Mk r cc t x) ws 0 _ s ?_ ?_ ?_ ?_
  · rintro i σ s ⟨_, ms, o, rfl, S, _⟩
    exact S.ext a _ hj.2 ha
  · rintro i d σ s hd ⟨hi, ms, o, rfl, S, e, hl, hm⟩ N hN
    have hi' : i < ws.length := (List.getElem?_eq_some_iff.mp hd).1
    have hok := hw d (List.mem_of_getElem? hd)
    obtain ⟨w, rfl⟩ := word_str hok
    simp only [dgName]
    rw [hs]
    unfold l__law_program_2
    simp only [dDrop, dAppend, dVar, dTup, daCons, dOp, dCall, dC, daNil, h0, h3, h17, h18, Option.some.injEq, exists_eq_left']
    refine ⟨⟨p, ms, rfl, e⟩, ?_⟩
    refine draw_g (n := n + (ws.length - (0 + i + 1))) (S.mono (by omega)) (by decide) (by decide) fun k s1 k0 k1 S1 e1 => ?_
    have hk : k.toNat < gates.length := by omega
    obtain ⟨z, hz, hnz⟩ := hg _ (List.getElem_mem hk)
    refine ⟨gates, .str z, S1.ext ga _ hj.1 hga, atI_int' k0 (by simp [hk, hz]), ?_⟩
    refine ⟨by simp only [List.length_cons, List.length_nil]; decide, p, ms, rfl, e1 p _ hpj e, size_small' (by omega), ?_⟩
    refine hN _ _ ⟨by omega, ms ++ [.tup [.str w, .str z]], some (.str w), rfl, S1.put hp, DL.S.set_same, by rw [List.length_append, hl]; rfl, fun x m => ?_⟩
    rcases List.mem_append.mp m with m | m
    · exact hm x m
    · exact ⟨w, z, List.mem_singleton.mp m, hnz, hok⟩
  · rintro σ s ⟨hi, ms, o, rfl, S, e, hl, hm⟩
    exact fin_ o s ms (S.mono (by omega)) e (by omega) hm
  · exact ⟨by omega, [], o, rfl, S0.mono (by omega), hs0, rfl, fun x m => by simp at m⟩
end
def sgP (j : Addr) (asks wide : Bool) (pu : Int) (ra wa : Addr) (calm : Nat) (a3 a4 a5 a6 a7 a8 a9 a10 a11 a12 a17 a18 a19 a20 a21 a22 a23 : Option D) : DS :=
  [some (.ref j), some (.bl asks), some (.bl wide), a3, a4, a5, a6, a7, a8, a9, a10, a11, a12, some (.int pu), some (.ref ra), some (.ref wa), some (.int calm), a17, a18, a19, a20, a21, a22, a23]
theorem told_loop {K : PySem.W.Frag} {j c : Addr} {b : S} {n : Nat} {E : EndsD} {asks wide : Bool} {pu : Int} {ra wa ga ta : Addr} {calm : Nat} {kinds : List Int} {gates rs : List D} {wss : List (List D)} {s : S}
    (hga : b ga = some (.lst gates)) (hg : Strs gates) (hgl : gates.length = 2) (hwa : b wa = some (.lst rs)) (hrows : Rows b rs wss) (sh : Shape kinds calm wss) (hta : b ta = none) (hj : ∀ p xs, b p = some (.lst xs) → p ≠ j)
    (S0 : St j c b (n + wss.length * 10) s) (hs0 : s ta = some (.lst []))
    (fin_ : ∀ a5 a17 a18 s' ts tss, St j c b n s' → s' ta = some (.lst ts) → Rows s' ts tss → Told kinds calm tss → tss.length = wss.length → (∀ (i : Nat) (ws : List D), wss[i]? = some ws → ∃ t : List D, tss[i]? = some t ∧ t.length = ws.length) → (∀ a, .ref a ∈ ts → a ≠ j) →
      E.nx (sgP j asks wide pu ra wa calm (some (.ref ga)) (some (.ref ta)) a5 none none none none none none none a17 a18 none none none none none) s') :
    forD (dgName 5) (l__law_program_1 K sp_shape sp_names sp_stem sp_exits sp_deed sp_draw) (fun s' => s' wa = some (.lst rs)) E rs (sgP j asks wide pu ra wa calm (some (.ref ga)) (some (.ref ta)) none none none none none none none none none none none none none none none) s := by
  have hrl := hrows.1
  have htj : ta ≠ j := fun z => S0.hj (by rw [← z]; exact hta)
  refine for_inv (fun i σ s => i ≤ wss.length ∧ ∃ ts tss a5 a17 a18, σ = sgP j asks wide pu ra wa calm (some (.ref ga)) (some (.ref ta)) a5 none none none none none none none a17 a18 none none none none none ∧ St j c b (n + (wss.length - i) * 10) s ∧ s ta = some (.lst ts) ∧ (tss : List (List D)).length = i ∧ Rows s ts tss ∧ (∀ a, .ref a ∈ ts → a ≠ j ∧ a ≠ ta ∧ b a = none) ∧
      (∀ (k : Nat) t, tss[k]? = some t → ∀ x ∈ t, Mk (decide (0 < kinds.length ∧ (k = 0 ∨ k < calm))) (decide (1 < wss.length ∧ (k < calm ∨ calm < wss.length))) (decide (calm < wss.length)) x) ∧ ∀ (k : Nat) (ws : List D), k < i → wss[k]? = some ws → ∃ t : List D, tss[k]? = some t ∧ t.length = ws.length) rs 0 _ s ?_ ?_ ?_ ?_
  · rintro i σ s ⟨_, ts, tss, a5, a17, a18, rfl, S, _⟩
    exact S.ext wa _ (hj _ _ hwa) hwa
  · rintro i d σ s hd ⟨hi, ts, tss, a5, a17, a18, rfl, S, e, hl, hr, hrf, hmk, hlen⟩ N hN
    have hi' : i < wss.length := by rw [← hrl]; exact (List.getElem?_eq_some_iff.mp hd).1
    obtain ⟨ws, hws⟩ : ∃ ws, wss[i]? = some ws := ⟨wss[i], by simp⟩
    obtain ⟨a, h1, h2⟩ := hrows.2 i ws hws
    rw [hd] at h1; cases h1
    obtain ⟨w2, w6, wok⟩ := sh.w2 i ws hws
    unfold l__law_program_1 sgP
    walk_at "rd"
    intro p hp
    obtain ⟨hpb, hpj, hpc⟩ := S.fresh hp
    unfold l__law_program_1_1
    walk_at "rd"
    have ha : s a = some (.lst ws) := S.ext a _ (hj _ _ h2) h2
    have hap : a ≠ p := ne_of_some ha hp
    have hfuel : (wss.length - (0 + i)) * 10 = (wss.length - (0 + i + 1)) * 10 + 10 := by omega
    refine ⟨ws, by rw [DL.S.set_ne hap]; exact ha, ?_⟩
    have Sb : St j c s (n + (wss.length - (0 + i + 1)) * 10 + ws.length) (s.set p (.lst [])) := ((St.start S.jar).new hp).mono (by omega)
    refine mark_loop (b := s) (sg := fun o => sgP j asks wide pu ra wa calm (some (.ref ga)) (some (.ref ta)) (some (.ref a)) none none none none none none none (some (.ref p)) o none none none none none) (S.ext ga _ (hj _ _ hga) hga) hg hgl ha wok w6 hp (fun _ => rfl) (fun _ => rfl) (fun _ => rfl) (fun _ => rfl) (fun _ _ => rfl) Sb DL.S.set_same ⟨hj _ _ hga, hj _ _ h2⟩ ?_
    intro o s1 ms S1 em hml hmm
    have hpt : p ≠ ta := fun z => by rw [z, e] at hp; cases hp
    unfold l__law_program_1_2 sgP
    walk_at "rd"
    have et : s1 ta = some (.lst ts) := S1.ext ta _ htj e
    refine ⟨⟨_, et⟩, _, et, size_small' (by have := hr.1; have := sh.w1; omega), ?_⟩
    have Sn : St j c b (n + (wss.length - (0 + i + 1)) * 10) s1 := S.next S1.ext S1.jar
    have hr1 : Rows s1 ts tss := hr.ext S1.ext fun a m => (hrf a m).1
    refine hN _ _ ⟨by omega, ts ++ [.ref p], tss ++ [ms], _, _, _, rfl, Sn.put hta, DL.S.set_same, by rw [List.length_append, hl]; rfl, ⟨by rw [List.length_append, List.length_append, hr.1]; rfl, fun k t hk => ?_⟩, fun a m => ?_, fun k t hk => ?_, fun k ws' hki hkw => ?_⟩
    · rcases Nat.lt_or_ge k tss.length with hlt | hge
      · rw [List.getElem?_append_left hlt] at hk
        obtain ⟨a', h1, h2⟩ := hr1.2 k t hk
        have hm := List.mem_of_getElem? h1
        exact ⟨a', by rw [List.getElem?_append_left (by rw [hr.1]; exact hlt)]; exact h1, by rw [DL.S.set_ne (hrf a' hm).2.1]; exact h2⟩
      · rw [List.getElem?_append_right hge] at hk
        have hk0 : k - tss.length = 0 := by
          have := (List.getElem?_eq_some_iff.mp hk).1
          simp at this; omega
        rw [hk0] at hk
        cases hk
        refine ⟨p, ?_, by rw [DL.S.set_ne hpt]; exact em⟩
        rw [List.getElem?_append_right (by rw [hr.1]; exact hge), hr.1, hk0]; rfl
    · rcases List.mem_append.mp m with m | m
      · exact hrf a m
      · cases List.mem_singleton.mp m; exact ⟨hpj, hpt, hpb⟩
    · rcases Nat.lt_or_ge k tss.length with hlt | hge
      · rw [List.getElem?_append_left hlt] at hk
        exact hmk k t hk
      · rw [List.getElem?_append_right hge] at hk
        have hk0 : k - tss.length = 0 := by
          have := (List.getElem?_eq_some_iff.mp hk).1
          simp at this; omega
        rw [hk0] at hk
        cases hk
        have hki : k = i := by omega
        subst hki
        exact hmm
    · rcases Nat.lt_or_ge k tss.length with hlt | hge
      · rw [List.getElem?_append_left hlt]
        exact hlen k ws' (by omega) hkw
      · have hki : k = i := by omega
        subst hki
        rw [hws] at hkw; cases hkw
        refine ⟨ms, ?_, hml⟩
        rw [List.getElem?_append_right hge, show k - tss.length = 0 by omega]; rfl
  · rintro σ s ⟨hi, ts, tss, a5, a17, a18, rfl, S, e, hl, hr, hrf, hmk, hlen⟩
    rw [Nat.zero_add] at hl hlen
    rw [hrl] at hl hlen
    refine fin_ a5 a17 a18 s ts tss (S.mono (by omega)) e hr (fun i t ht => ?_) hl (fun i ws hw => hlen i ws (List.getElem?_eq_some_iff.mp hw).1 hw) (fun a m => (hrf a m).1)
    have hi : i < wss.length := by rw [← hl]; exact (List.getElem?_eq_some_iff.mp ht).1
    obtain ⟨ws, hws⟩ : ∃ ws, wss[i]? = some ws := ⟨wss[i], by simp⟩
    obtain ⟨t', h1, h2⟩ := hlen i ws hi hws
    rw [ht] at h1; cases h1
    obtain ⟨w2, w6, _⟩ := sh.w2 i ws hws
    rw [hl]
    exact ⟨by omega, by omega, hmk i t ht⟩
  · exact ⟨by omega, [], [], _, _, _, rfl, S0.mono (by omega), hs0, rfl, ⟨rfl, fun i ws h => by simp at h⟩, fun a m => by simp at m, fun k t h => by simp at h, fun k ws h => by omega⟩
end Toy

set_option maxHeartbeats 2000000
namespace Toy
open PySem DL
local macro_rules | `(tactic| walk_at "rd") => `(tactic| simp only [dSeq, dAsg, dRet, dRetN, dIfS, dNext, dDrop, dPar, dVar, dC, dOp, dUn, dAndV, dOrV, dNotV, dIf, dTest, dTru, dAnd, dOr, dNot, dTup, dLst, daNil, daCons, dCall, dCB, dChain, dSl, dPart_i, dNoPart,
  dDGet, dDPut, dAppend, dgName, dgTup, dgNil, dgCons, dFor, dIter, dAug, dLc, dYes, dDisp, dPairs, isC, isCc,
  rAdd_i, rAdd_s, rAdd_t, rAdd_l, rIAdd_i, rIAdd_s, rIAdd_l, rSub_i, rMul_i, rMul_l, rFdiv_i, rMod_i, rPow_i, rNeg_i, rEq_ii, rEq_ss, rEq_ns, rEq_sn, rEq_is, rEq_si, rEq_bs, rEq_sb, rEq_bb, rEq_nn, rEq_tt, rEq_nt, rEq_tn, rLt_i, rLtD_i, rLtD_s, rLtD_t, rIn_ss, rIn_r, rIn_t, inC_l, inC_d, dgSeq_t, dgSeq_l, rSorted_l, iEnum_l, iZip_l, iZip_t, iRev_l, iRev_t, rGt_i, rLe_i, rGe_i, rLe_s, rLt_s,
  rIs_nn, rIs_bb, rIs_in, rIs_sn, rIs_bn, rIs_rn, rIs_tn, rTru_n, rTru_b, rTru_i, rTru_s, rTru_t, rTru_l, rIx_t, rIx_l, rIx_s, rLen_s, rLen_t, rLen_l, rAbs_i, rInt_i, rStr_i, rMax_i, rMin_i, rTupOf_l, rTupOf_t, rListOf_l, rListOf_t, rAll_l, rAny_l, rSum_l,
  rIsi_r, rIsi_n, rIsi_b, rIsi_i, rIsi_s, rIsi_t, iD_t, iD_s, iD_l, iR1, iR2, rSl_t, rSl_s, rSl_l,
  endsOf, startD, List.map_cons, List.map_nil, List.length_cons, List.length_nil, Nat.reduceAdd, Nat.reduceSub, List.replicate, List.cons_append, List.nil_append, List.getElem?_cons_zero, List.getElem?_cons_succ, List.set_cons_zero, List.set_cons_succ,
  Option.some.injEq, exists_eq_left', exists_eq_left, List.cons.injEq, D.int.injEq, D.tup.injEq, D.bl.injEq, D.str.injEq, D.ref.injEq, and_true, true_and, and_self, id_eq, size0, size1, size2, size3, size4, size5, size6, size7, size8, sizel0, sizel1, sizel2, sizel3, sizel4, sizel5, sizel6, sizel7, lenOf_l, lenOf_d, List.length_map, Int.reduceToNat, Int.reducePow, Int.reduceNeg, Int.reduceLT, Int.reduceLE, atI_0, atI_1, atI_2, atI_3, atI_4, reduceCtorEq, false_and, or_false, false_or, exists_const, exists_false, ite_true, ite_false,
  Bool.false_eq_true, if_true, if_false, decide_eq_true_eq, Bool.not_eq_true', decide_eq_false_iff_not, Bool.not_true, Bool.not_false, and_assoc, exists_and_left, D.key, S.set_same, S.set_set, C.lst.injEq, C.dic.injEq, jd_cells, jd_at, jd_turn, jd_stock, jp_at, jp_turn, jp_stock, jd_len, wipeD])

theorem zip_mem' : ∀ {xs ys : List D} {d : D}, d ∈ zipD xs ys → ∃ x ∈ xs, ∃ y ∈ ys, d = .tup [x, y]
  | [], _, _, h => by simp [zipD] at h
  | _ :: _, [], _, h => by simp [zipD] at h
  | x :: xs, y :: ys, d, h => by
    simp only [zipD, List.zipWith_cons_cons] at h
    rcases List.mem_cons.mp h with rfl | h
    · exact ⟨x, List.mem_cons_self, y, List.mem_cons_self, rfl⟩
    · obtain ⟨a, h1, b, h2, e⟩ := zip_mem' (xs := xs) (ys := ys) h
      exact ⟨a, List.mem_cons_of_mem _ h1, b, List.mem_cons_of_mem _ h2, e⟩
def Pairs_ (xs : List D) : Prop := ∀ x ∈ xs, ∃ a b, x = .tup [a, b]
/-- what the procs are made of -/
structure Env (j : Addr) (s : S) (pu : Int) (kinds : List Int) (calm : Nat) (wss tss : List (List D)) (rs ts rows pns exs : List D) (ra wa ta pl ro pn ex : Addr) : Prop where
  pu1 : 1 ≤ pu ∧ pu ≤ 3
  sh : Shape kinds calm wss
  era : s ra = some (.lst (kinds.map .int))
  ewa : s wa = some (.lst rs)
  eta : s ta = some (.lst ts)
  epl : s pl = some (.lst [.int pu, .ref ra, .ref ta, .int calm])
  ero : s ro = some (.lst rows)
  epn : s pn = some (.lst pns)
  eex : s ex = some (.lst exs)
  wr : Rows s rs wss
  tr : Rows s ts tss
  told : Told kinds calm tss
  tl : tss.length = wss.length
  tw : ∀ (i : Nat) (ws : List D), wss[i]? = some ws → ∃ t : List D, tss[i]? = some t ∧ t.length = ws.length
  rol : rows.length = kinds.length
  rop : Pairs_ rows
  pnl : pns.length = wss.length
  pnS : Strs pns
  exl : exs.length = wss.length
  exo : Outs s j exs
  nj : ∀ p xs, s p = some (.lst xs) → p ≠ j
theorem Outs.ext {s s' : S} {j : Addr} {xs : List D} (h : Outs s j xs) (e : Ext j s s') : Outs s' j xs := fun x m => by
  obtain ⟨w, q, ys, e1, e2, e3, e4⟩ := h x m
  exact ⟨w, q, ys, e1, e2, e q _ e2 e3, e4⟩
theorem rows_nj {s : S} {j : Addr} {rs : List D} {wss : List (List D)} (h : Rows s rs wss) (nj : ∀ p xs, s p = some (.lst xs) → p ≠ j) : ∀ a, .ref a ∈ rs → a ≠ j := fun a m => by
  obtain ⟨i, hi, e⟩ := List.mem_iff_getElem.mp m
  have hi2 : i < wss.length := by rw [← h.1]; exact hi
  obtain ⟨a', h1, h2⟩ := h.2 i wss[i] (by simp)
  rw [List.getElem?_eq_getElem hi, e] at h1
  cases h1
  exact nj _ _ h2
theorem jar_nj {s : S} {j c : Addr} {n : Nat} (J : Jar s j c n) : ∀ p xs, s p = some (.lst xs) → p ≠ j := fun _ _ e => Jar_ne J e
section
variable {j c : Addr} {b s : S} {n : Nat} {pu : Int} {kinds : List Int} {calm : Nat} {wss tss : List (List D)} {rs ts rows pns exs : List D} {ra wa ta pl ro pn ex : Addr}
theorem Env.ext (h : Env j b pu kinds calm wss tss rs ts rows pns exs ra wa ta pl ro pn ex) (e : Ext j b s) (J : Jar s j c n) : Env j s pu kinds calm wss tss rs ts rows pns exs ra wa ta pl ro pn ex :=
  { h with
    era := e _ _ (h.nj _ _ h.era) h.era
    ewa := e _ _ (h.nj _ _ h.ewa) h.ewa
    eta := e _ _ (h.nj _ _ h.eta) h.eta
    epl := e _ _ (h.nj _ _ h.epl) h.epl
    ero := e _ _ (h.nj _ _ h.ero) h.ero
    epn := e _ _ (h.nj _ _ h.epn) h.epn
    eex := e _ _ (h.nj _ _ h.eex) h.eex
    wr := h.wr.ext e (rows_nj h.wr h.nj)
    tr := h.tr.ext e (rows_nj h.tr h.nj)
    exo := h.exo.ext e
    nj := jar_nj J }
/-- the places of one proc -/
theorem place_loop {K : PySem.W.Frag} {E : EndsD} {asks wide : Bool} {a3 a5 a8 a17 a18 a19 a20 o : Option D} {na lp pr : Addr} {proc : Nat} {names ws : List D}
    (h : Env j b pu kinds calm wss tss rs ts rows pns exs ra wa ta pl ro pn ex) (hp : wss[proc]? = some ws) (hna : b na = some (.lst names)) (hnS : Strs names) (hnl : names.length = ws.length) (hlp : b lp = none) (S0 : St j c b (n + 6 * 100) s) (e0 : s lp = some (.lst []))
    (fin_ : ∀ o s' pls, St j c b n s' → s' lp = some (.lst pls) → pls.length = ws.length → E.nx (sgP j asks wide pu ra wa calm a3 (some (.ref ta)) a5 (some (.ref pl)) (some (.ref ro)) a8 (some (.ref pn)) (some (.ref ex)) (some (.ref pr)) (some (.int (proc : Nat))) a17 a18 a19 a20 (some (.ref na)) (some (.ref lp)) o) s') :
    forD (dgName 23) (l__law_program_5 K sp_shape sp_names sp_stem sp_exits sp_deed sp_draw) (fun _ => True) E (rngD 0 ws.length) (sgP j asks wide pu ra wa calm a3 (some (.ref ta)) a5 (some (.ref pl)) (some (.ref ro)) a8 (some (.ref pn)) (some (.ref ex)) (some (.ref pr)) (some (.int (proc : Nat))) a17 a18 a19 a20 (some (.ref na)) (some (.ref lp)) o) s := by
  obtain ⟨w2, w6, _⟩ := h.sh.w2 _ _ hp
  have hpl : proc < wss.length := (List.getElem?_eq_some_iff.mp hp).1
  have hlj : lp ≠ j := fun z => S0.hj (by rw [← z]; exact hlp)
  refine for_inv (fun i σ s => i ≤ ws.length ∧ ∃ pls o, σ = sgP j asks wide pu ra wa calm a3 (some (.ref ta)) a5 (some (.ref pl)) (some (.ref ro)) a8 (some (.ref pn)) (some (.ref ex)) (some (.ref pr)) (some (.int (proc : Nat))) a17 a18 a19 a20 (some (.ref na)) (some (.ref lp)) o ∧ St j c b (n + (6 - i) * 100) s ∧ s lp = some (.lst pls) ∧ (pls : List D).length = i) _ 0 _ s (fun _ _ _ _ => trivial) ?_ ?_ ?_
  · rintro i d σ s hd ⟨hi, pls, o, rfl, S, e, hl⟩ N hN
    obtain ⟨rfl, hi'⟩ := rng_get hd
    have e0 : (0 : Int) + (i : Nat) = ((i : Nat) : Int) := by omega
    have hin : i < names.length := by omega
    have h' := h.ext S.ext S.jar
    have hna' : s na = some (.lst names) := S.ext na _ (h.nj _ _ hna) hna
    unfold l__law_program_5 sgP
    walk_at "rd"
    rw [e0]
    refine ⟨⟨_, e⟩, names, hna', names[i], atI_nat' (by simp [hin]), ?_⟩
    refine ⟨na, pl, ex, ra, ta, ro, proc, i, calm, wide, names, ts, exs, rows, pu, kinds, tss, ⟨hna', hnS, by omega, hin⟩, ⟨h'.epl, h.pu1.1, h.pu1.2, h'.era, h.sh.k1, h.sh.k2⟩, ⟨h'.eta, h'.tr, h.told, h.sh.c1, by rw [h.tl]; exact h.sh.c2, by rw [h.tl]; exact h.sh.w1, by rw [h.tl]; exact hpl, fun t ht => ?_⟩, ⟨h'.eex, by rw [h.exl, h.tl], fun j' hJ => ?_⟩, ⟨h'.ero, h.rol, h.rop⟩, ?_⟩
    · obtain ⟨t', h1, h2⟩ := h.tw _ _ hp
      rw [ht] at h1; cases h1
      omega
    · obtain ⟨c', n', J'⟩ := hJ
      intro x m
      obtain ⟨w, q, ys, e1, e2, e3, e4⟩ := h'.exo x m
      exact ⟨w, q, ys, e1, Jar_ne J' e3, e3, e4⟩
    · refine call_g (n := n + (6 - (0 + i + 1)) * 100) (S.mono (by omega)) rfl fun d s1 S1 e1 _ => ?_
      have el := e1 lp _ hlj e
      refine ⟨_, el, size_small' (by omega), ?_⟩
      exact hN _ _ ⟨by omega, _, _, rfl, S1.put hlp, DL.S.set_same, by rw [List.length_append, hl]; rfl⟩
  · rintro σ s ⟨hi, pls, o, rfl, S, e, hl⟩
    rw [rng_len] at hl
    exact fin_ o s pls (S.mono (by omega)) e (by omega)
  · exact ⟨by omega, [], o, rfl, S0.mono (by omega), e0, rfl⟩
/-- procs: a name with as many places as words -/
def Procs (wss : List (List D)) (ps : List D) : Prop := ∀ (i : Nat) (ws : List D), i < ps.length → wss[i]? = some ws → ∃ nm pls, ps[i]? = some (.tup [nm, .tup pls]) ∧ pls.length = ws.length
theorem proc_loop {K : PySem.W.Frag} {E : EndsD} {asks wide : Bool} {a3 a5 a8 a12 a17 a18 a19 a20 a21 a22 a23 : Option D} {pr : Addr}
    (h : Env j b pu kinds calm wss tss rs ts rows pns exs ra wa ta pl ro pn ex) (hpr : b pr = none) (S0 : St j c b (n + 3 * 1200) s) (e0 : s pr = some (.lst []))
    (fin_ : ∀ a12 a21 a22 a23 s' ps, St j c b n s' → s' pr = some (.lst ps) → ps.length = wss.length → Procs wss ps → E.nx (sgP j asks wide pu ra wa calm a3 (some (.ref ta)) a5 (some (.ref pl)) (some (.ref ro)) a8 (some (.ref pn)) (some (.ref ex)) (some (.ref pr)) a12 a17 a18 a19 a20 a21 a22 a23) s') :
    forD (dgName 12) (l__law_program_4 K sp_shape sp_names sp_stem sp_exits sp_deed sp_draw) (fun _ => True) E (rngD 0 wss.length) (sgP j asks wide pu ra wa calm a3 (some (.ref ta)) a5 (some (.ref pl)) (some (.ref ro)) a8 (some (.ref pn)) (some (.ref ex)) (some (.ref pr)) a12 a17 a18 a19 a20 a21 a22 a23) s := by
  have hlj : pr ≠ j := fun z => S0.hj (by rw [← z]; exact hpr)
  refine for_inv (fun i σ s => i ≤ wss.length ∧ ∃ ps a12 a21 a22 a23, σ = sgP j asks wide pu ra wa calm a3 (some (.ref ta)) a5 (some (.ref pl)) (some (.ref ro)) a8 (some (.ref pn)) (some (.ref ex)) (some (.ref pr)) a12 a17 a18 a19 a20 a21 a22 a23 ∧ St j c b (n + (3 - i) * 1200) s ∧ s pr = some (.lst ps) ∧ (ps : List D).length = i ∧ Procs wss ps) _ 0 _ s (fun _ _ _ _ => trivial) ?_ ?_ ?_
  · rintro i d σ s hd ⟨hi, ps, a12, a21, a22, a23, rfl, S, e, hl, hps⟩ N hN
    obtain ⟨rfl, hi'⟩ := rng_get hd
    have e1 : (0 : Int) + (i : Nat) = ((i : Nat) : Int) := by omega
    have h' := h.ext S.ext S.jar
    have w1 := h.sh.w1
    obtain ⟨ws, hws⟩ : ∃ ws, wss[i]? = some ws := ⟨wss[i], by simp⟩
    obtain ⟨w2, w6, _⟩ := h.sh.w2 _ _ hws
    obtain ⟨a, ha1, ha2⟩ := h'.wr.2 _ _ hws
    have hin : i < pns.length := by rw [h.pnl]; exact hi'
    unfold l__law_program_4 sgP
    walk_at "rd"
    rw [e1]
    refine ⟨_, h'.ewa, _, atI_nat' ha1, ?_⟩
    walk_at "rd"
    refine ⟨_, by rw [ha2]; rfl, ?_⟩
    refine ⟨ws.length, by omega, ?_⟩
    refine call_g (n := n + (3 - (0 + i + 1)) * 1200 + 700) (S.mono (by omega)) rfl fun d s1 S1 x1 ⟨na, names, hd, hn0, hn1, hn2, hn3⟩ => ?_
    subst hd
    have h1 := h'.ext x1 S1.jar
    have ep1 := x1 pr _ hlj e
    unfold l__law_program_4_1
    walk_at "rd"
    intro lp hlp
    have hlpb := S1.fresh hlp
    have hnl : na ≠ lp := ne_of_some hn1 hlp
    have hpl : pr ≠ lp := ne_of_some ep1 hlp
    unfold l__law_program_4_2
    walk_at "rd"
    refine ⟨_, by rw [DL.S.set_ne hnl, hn1]; rfl, ?_⟩
    rw [hn2]
    refine ⟨by omega, by omega, ?_⟩
    have Sb : St j c s1 (n + (3 - (0 + i + 1)) * 1200 + 6 * 100) (s1.set lp (.lst [])) := ((St.start S1.jar).new hlp).mono (by omega)
    refine place_loop (a3 := a3) (a5 := a5) (a8 := a8) (a17 := a17) (a18 := a18) (a19 := a19) (a20 := a20) (o := a23) (pr := pr) (na := na) (lp := lp) (asks := asks) (wide := wide) h1 hws hn1 hn3 hn2 hlp Sb DL.S.set_same ?_
    intro o s2 pls S2 el hpls
    have S2b : St j c b (n + (3 - (0 + i + 1)) * 1200) s2 := S1.next S2.ext S2.jar
    have h2 := h1.ext S2.ext S2.jar
    have ep2 := S2.ext pr _ hlj ep1
    unfold l__law_program_4_3 sgP
    walk_at "rd"
    refine ⟨⟨_, ep2⟩, pns, h2.epn, pns[i], atI_nat' (by simp [hin]), _, el, _, ep2, size_small' (by omega), ?_⟩
    refine hN _ _ ⟨by omega, _, _, _, _, _, rfl, S2b.put hpr, DL.S.set_same, by rw [List.length_append, hl]; rfl, fun k ws' hk hkw => ?_⟩
    rcases Nat.lt_or_ge k ps.length with hlt | hge
    · rw [List.getElem?_append_left hlt]; exact hps k ws' hlt hkw
    · rw [List.length_append] at hk
      have hki : k = i := by simp at hk; omega
      subst hki
      rw [hws] at hkw; cases hkw
      refine ⟨pns[k], pls, ?_, hpls⟩
      rw [List.getElem?_append_right hge, show k - ps.length = 0 by omega]; rfl
  · rintro σ s ⟨hi, ps, a12, a21, a22, a23, rfl, S, e, hl, hps⟩
    rw [rng_len] at hl
    exact fin_ _ _ _ _ s ps (S.mono (by omega)) e (by omega) hps
  · exact ⟨by omega, [], _, _, _, _, rfl, S0.mono (by omega), e0, rfl, fun k ws hk => by simp at hk⟩
/-- rows: a name with kinds -/
theorem row_loop {K : PySem.W.Frag} {E : EndsD} {asks wide : Bool} {a3 a4 a5 a6 a9 a10 a11 a12 a17 a18 a19 a20 a21 a22 a23 : Option D} {rn : Addr} {rns : List D}
    (hra : b ra = some (.lst (kinds.map .int))) (hrj : ra ≠ j) (hk1 : kinds.length ≤ 2) (hk2 : ∀ k ∈ kinds, 1 ≤ k ∧ k ≤ 3) (hro : b ro = none) (hl : rns.length = kinds.length) (hrnj : rn ≠ j) (S0 : St j c b (n + 2 * 500) s) (ern : s rn = some (.lst rns)) (e0 : s ro = some (.lst []))
    (fin_ : ∀ a19 a20 s' rows, St j c b n s' → s' ro = some (.lst rows) → rows.length = kinds.length → Pairs_ rows → E.nx (sgP j asks wide pu ra wa calm a3 a4 a5 a6 (some (.ref ro)) (some (.ref rn)) a9 a10 a11 a12 a17 a18 a19 a20 a21 a22 a23) s') :
    forD (dgTup 2 (dgCons (dgName 19) (dgCons (dgName 20) dgNil))) (l__law_program_3 K sp_shape sp_names sp_stem sp_exits sp_deed sp_draw) (fun s' => s' rn = some (.lst rns) ∧ s' ra = some (.lst (kinds.map .int))) E (zipD rns (kinds.map .int)) (sgP j asks wide pu ra wa calm a3 a4 a5 a6 (some (.ref ro)) (some (.ref rn)) a9 a10 a11 a12 a17 a18 a19 a20 a21 a22 a23) s := by
  have hlj : ro ≠ j := fun z => S0.hj (by rw [← z]; exact hro)
  have hrr : rn ≠ ro ∨ rns = [] := by
    by_cases z : rn = ro
    · rw [z, e0] at ern; cases ern; exact .inr rfl
    · exact .inl z
  have zl : (zipD rns (kinds.map .int)).length = kinds.length := by rw [zipD_len, List.length_map, hl]; omega
  refine for_inv (fun i σ s => i ≤ kinds.length ∧ ∃ rows a19 a20, σ = sgP j asks wide pu ra wa calm a3 a4 a5 a6 (some (.ref ro)) (some (.ref rn)) a9 a10 a11 a12 a17 a18 a19 a20 a21 a22 a23 ∧ St j c b (n + (2 - i) * 500) s ∧ s rn = some (.lst rns) ∧ s ro = some (.lst rows) ∧ (rows : List D).length = i ∧ Pairs_ rows) _ 0 _ s ?_ ?_ ?_ ?_
  · rintro i σ s ⟨_, rows, a19, a20, rfl, S, ern, _⟩
    exact ⟨ern, S.ext ra _ hrj hra⟩
  · rintro i d σ s hd ⟨hi, rows, a19, a20, rfl, S, ern, e, hrl, hp⟩ N hN
    have hi' : i < kinds.length := by rw [← zl]; exact (List.getElem?_eq_some_iff.mp hd).1
    obtain ⟨x, hx, y, hy, rfl⟩ := zip_mem' (List.mem_of_getElem? hd)
    obtain ⟨k, hk, rfl⟩ := List.mem_map.mp hy
    obtain ⟨k1, k3⟩ := hk2 k hk
    obtain ⟨m, rfl⟩ : ∃ m : Nat, k = m := ⟨k.toNat, by omega⟩
    have hne : rn ≠ ro := by
      rcases hrr with z | z
      · exact z
      · rw [z] at hl; simp at hl; omega
    unfold sgP
    walk_at "rd"
    unfold l__law_program_3
    walk_at "rd"
    refine ⟨⟨_, e⟩, m, by omega, ?_⟩
    refine call_g (n := n + (2 - (0 + i + 1)) * 500) (S.mono (by omega)) rfl fun d s1 S1 x1 ⟨na, names, hd, hn0, hn1, hn2, hn3⟩ => ?_
    subst hd
    have er1 := x1 ro _ hlj e
    walk_at "rd"
    refine ⟨_, hn1, _, er1, size_small' (by omega), ?_⟩
    refine hN _ _ ⟨by omega, _, _, _, rfl, S1.put hro, by rw [DL.S.set_ne hne]; exact x1 rn _ hrnj ern, DL.S.set_same, by rw [List.length_append, hrl]; rfl, fun z m => ?_⟩
    rcases List.mem_append.mp m with m | m
    · exact hp z m
    · exact ⟨_, _, List.mem_singleton.mp m⟩
  · rintro σ s ⟨hi, rows, a19, a20, rfl, S, ern, e, hrl, hp⟩
    rw [zl] at hrl
    exact fin_ _ _ s rows (S.mono (by omega)) e (by omega) hp
  · exact ⟨by omega, [], _, _, rfl, S0.mono (by omega), ern, e0, rfl, fun x m => by simp at m⟩
end
end Toy

set_option maxHeartbeats 2000000
namespace Toy
open PySem DL
local macro_rules | `(tactic| walk_at "rd") => `(tactic| simp only [dSeq, dAsg, dRet, dRetN, dIfS, dNext, dDrop, dPar, dVar, dC, dOp, dUn, dAndV, dOrV, dNotV, dIf, dTest, dTru, dAnd, dOr, dNot, dTup, dLst, daNil, daCons, dCall, dCB, dChain, dSl, dPart_i, dNoPart,
  dDGet, dDPut, dAppend, dgName, dgTup, dgNil, dgCons, dFor, dIter, dAug, dLc, dYes, dDisp, dPairs, isC, isCc,
  rAdd_i, rAdd_s, rAdd_t, rAdd_l, rIAdd_i, rIAdd_s, rIAdd_l, rSub_i, rMul_i, rMul_l, rFdiv_i, rMod_i, rPow_i, rNeg_i, rEq_ii, rEq_ss, rEq_ns, rEq_sn, rEq_is, rEq_si, rEq_bs, rEq_sb, rEq_bb, rEq_nn, rEq_tt, rEq_nt, rEq_tn, rLt_i, rLtD_i, rLtD_s, rLtD_t, rIn_ss, rIn_r, rIn_t, inC_l, inC_d, dgSeq_t, dgSeq_l, rSorted_l, iEnum_l, iZip_l, iZip_t, iRev_l, iRev_t, rGt_i, rLe_i, rGe_i, rLe_s, rLt_s,
  rIs_nn, rIs_bb, rIs_in, rIs_sn, rIs_bn, rIs_rn, rIs_tn, rTru_n, rTru_b, rTru_i, rTru_s, rTru_t, rTru_l, rIx_t, rIx_l, rIx_s, rLen_s, rLen_t, rLen_l, rAbs_i, rInt_i, rStr_i, rMax_i, rMin_i, rTupOf_l, rTupOf_t, rListOf_l, rListOf_t, rAll_l, rAny_l, rSum_l,
  rIsi_r, rIsi_n, rIsi_b, rIsi_i, rIsi_s, rIsi_t, iD_t, iD_s, iD_l, iR1, iR2, rSl_t, rSl_s, rSl_l,
  endsOf, startD, List.map_cons, List.map_nil, List.length_cons, List.length_nil, Nat.reduceAdd, Nat.reduceSub, List.replicate, List.cons_append, List.nil_append, List.getElem?_cons_zero, List.getElem?_cons_succ, List.set_cons_zero, List.set_cons_succ,
  Option.some.injEq, exists_eq_left', exists_eq_left, List.cons.injEq, D.int.injEq, D.tup.injEq, D.bl.injEq, D.str.injEq, D.ref.injEq, and_true, true_and, and_self, id_eq, size0, size1, size2, size3, size4, size5, size6, size7, size8, sizel0, sizel1, sizel2, sizel3, sizel4, sizel5, sizel6, sizel7, lenOf_l, lenOf_d, List.length_map, Int.reduceToNat, Int.reducePow, Int.reduceNeg, Int.reduceLT, Int.reduceLE, atI_0, atI_1, atI_2, atI_3, atI_4, reduceCtorEq, false_and, or_false, false_or, exists_const, exists_false, ite_true, ite_false,
  Bool.false_eq_true, if_true, if_false, decide_eq_true_eq, Bool.not_eq_true', decide_eq_false_iff_not, Bool.not_true, Bool.not_false, and_assoc, exists_and_left, D.key, S.set_same, S.set_set, C.lst.injEq, C.dic.injEq, jd_cells, jd_at, jd_turn, jd_stock, jp_at, jp_turn, jp_stock, jd_len, wipeD])

/-- a program, with few purses and rows -/
structure PgX (d : D) (R : Nat) (Ls : List Nat) : Prop where
  pg : Pg d R Ls
  few : ∃ a b c rs ps, d = .tup [a, b, .tup c, .tup rs, .tup ps] ∧ c.length ≤ 20
  r2 : R ≤ 2
theorem pg_of {nm x : D} {cs rows ps : List D} {wss : List (List D)} {R : Nat} (h1 : rows.length = R) (h2 : ps.length = wss.length) (h3 : Procs wss ps) (hR : R ≤ 2) (hc : cs.length ≤ 20) (hw : 1 ≤ wss.length ∧ wss.length ≤ 1000) (hws : ∀ ws ∈ wss, 1 ≤ ws.length ∧ ws.length ≤ 1000) : PgX (.tup [nm, x, .tup cs, .tup rows, .tup ps]) R (wss.map List.length) := by
  refine ⟨⟨⟨nm, x, .tup cs, rows, ps, rfl, h1, by rw [List.length_map]; exact h2, fun i hi => ?_⟩, by rw [List.length_map]; omega, fun n m => ?_, by omega, by rw [List.length_map]; omega, fun n m => ?_⟩, ⟨_, _, _, _, _, rfl, hc⟩, hR⟩
  · rw [List.length_map] at hi
    obtain ⟨nm, pls, e1, e2⟩ := h3 i wss[i] (by omega) (by simp)
    exact ⟨nm, pls, e1, by rw [List.getElem?_map]; simp [hi, e2]⟩
  · obtain ⟨ws, h, rfl⟩ := List.mem_map.mp m
    have := hws ws h; omega
  · obtain ⟨ws, h, rfl⟩ := List.mem_map.mp m
    exact (hws ws h).2
def sp_program : DSp := spG 10000 (fun as _ _ => ∃ a w : Bool, as = [.bl a, .bl w]) (fun _ _ d _ => ∃ R Ls, PgX d R Ls)
theorem rd_program (K : PySem.W.Frag) : ∀ ds s Q, sp_program ds s Q → t__law_program K sp_shape sp_names sp_stem sp_exits sp_deed sp_draw (endsOf Q) (startD N__law_program ds) s := by
  rintro ds s0 Q ⟨j, c, n, as, rfl, ⟨asks, wide, rfl⟩, J, q⟩
  have S00 := St.start J
  unfold t__law_program N__law_program
  walk_at "rd"
  refine call_g (n := n + 9700) (S00.mono (by omega)) ⟨asks, rfl⟩ fun d s1 S1 x1 ⟨p, pu, ra, wa, rs, kinds, calm, wss, hd, _, ep, pu1, pu2, era, ewa, _, _, _, hrows, sh⟩ => ?_
  subst hd
  walk_at "rd"
  refine ⟨_, ep, rfl, ?_⟩
  walk_at "rd"
  unfold b__law_program_1
  walk_at "rd"
  refine ⟨2, by decide, call_g (n := n + 9200) (S1.mono (by omega)) rfl fun d s2 S2 x2 ⟨ga, gates, hd, _, ega, hgl, hg⟩ => ?_⟩
  subst hd
  have nj1 := jar_nj S1.jar
  have era2 := x2 _ _ (nj1 _ _ era) era
  have ewa2 := x2 _ _ (nj1 _ _ ewa) ewa
  have hr2 := hrows.ext x2 (rows_nj hrows nj1)
  unfold b__law_program_2
  walk_at "rd"
  intro ta hta
  have hta0 := S2.fresh hta
  unfold b__law_program_3
  walk_at "rd"
  refine ⟨rs, by rw [S.set_ne (ne_of_some ewa2 hta)]; exact ewa2, ?_⟩
  have w1 := sh.w1
  have St2 : St j c s2 (n + 9100 + wss.length * 10) (s2.set ta (.lst [])) := ((St.start S2.jar).new hta).mono (by omega)
  refine told_loop (asks := asks) (wide := wide) (pu := pu) ega hg hgl ewa2 hr2 sh hta (jar_nj S2.jar) St2 S.set_same ?_
  intro a5 a17 a18 s3 ts tss S3 eta htr htold htl htw hts
  have S3b : St j c s0 (n + 9100) s3 := S2.next S3.ext S3.jar
  have nj2 := jar_nj S2.jar
  have era3 := S3.ext _ _ (nj2 _ _ era2) era2
  have ewa3 := S3.ext _ _ (nj2 _ _ ewa2) ewa2
  have hr3 := hr2.ext S3.ext (rows_nj hr2 nj2)
  unfold b__law_program_4 sgP
  walk_at "rd"
  intro pl hpl
  have Sp := S3b.new (x := .lst [.int pu, .ref ra, .ref ta, .int calm]) hpl
  have xpl : Ext j s3 (s3.set pl (.lst [.int pu, .ref ra, .ref ta, .int calm])) := Ext.new hpl
  have nj3 := jar_nj S3.jar
  have era4 := xpl _ _ (nj3 _ _ era3) era3
  have ewa4 := xpl _ _ (nj3 _ _ ewa3) ewa3
  have eta4 := xpl _ _ (nj3 _ _ eta) eta
  have hr4 := hr3.ext xpl (rows_nj hr3 nj3)
  have htr4 := htr.ext xpl (rows_nj htr nj3)
  have epl4 : (s3.set pl (.lst [.int pu, .ref ra, .ref ta, .int calm])) pl = _ := S.set_same
  generalize (s3.set pl (.lst [.int pu, .ref ra, .ref ta, .int calm])) = s4 at *
  clear xpl S3 S3b
  unfold b__law_program_5
  walk_at "rd"
  intro ro hro
  have nj4 := jar_nj Sp.jar
  unfold b__law_program_6
  walk_at "rd"
  have hrr : ra ≠ ro := ne_of_some era4 hro
  refine ⟨_, by rw [S.set_ne hrr, era4]; rfl, ?_⟩
  rw [List.length_map]
  have k1 := sh.k1
  refine ⟨kinds.length, by omega, ?_⟩
  have S4 : St j c s4 (n + 8600 + 500) (s4.set ro (.lst [])) := ((St.start Sp.jar).new hro).mono (by omega)
  refine call_g (n := n + 8600) S4 rfl fun d s5 S5 x5 ⟨rn, rns, hd, _, ern, hrl, hrS⟩ => ?_
  subst hd
  have hroj := (Sp.fresh hro).2.1
  have ero5 := x5 ro _ hroj S.set_same
  have era5 := S5.ext ra _ (nj4 _ _ era4) era4
  unfold b__law_program_7
  walk_at "rd"
  refine ⟨rns, ern, kinds.map .int, era5, ?_⟩
  refine row_loop (n := n + 7600) (asks := asks) (wide := wide) (pu := pu) (calm := calm) (wa := wa) (a3 := some (.ref ga)) (a4 := some (.ref ta)) (a5 := a5) (a6 := some (.ref pl)) (a9 := none) (a10 := none) (a11 := none) (a12 := none) (a17 := a17) (a18 := a18) (a19 := none) (a20 := none) (a21 := none) (a22 := none) (a23 := none) era4 (nj4 _ _ era4) k1 sh.k2 hro hrl (jar_nj S5.jar _ _ ern) (S5.mono (by omega)) ern ero5 ?_
  intro a19 a20 s6 rows S6 ero hrol hrop
  unfold b__law_program_8 sgP
  walk_at "rd"
  have ewa6 := S6.ext wa _ (nj4 _ _ ewa4) ewa4
  refine ⟨_, by rw [ewa6]; rfl, ?_⟩
  rw [hr4.1]
  refine ⟨wss.length, by omega, ?_⟩
  refine call_g (n := n + 7100) (S6.mono (by omega)) rfl fun d s7 S7 x7 ⟨pn, pns, hd, _, epn, hpnl, hpnS⟩ => ?_
  subst hd
  have S7b : St j c s0 (n + 7100) s7 := Sp.next S7.ext S7.jar
  have nj6 := jar_nj S6.jar
  have nj7 := jar_nj S7.jar
  have ero7 := x7 ro _ (nj6 _ _ ero) ero
  have eta7 := S7.ext ta _ (nj4 _ _ eta4) eta4
  have htr7 := htr4.ext S7.ext (rows_nj htr4 nj4)
  unfold b__law_program_9
  walk_at "rd"
  refine ⟨pns, epn, ts, eta7, fun ex hex => ?_⟩
  have hexf := S7.fresh hex
  have S7s : St j c s7 (n + 7000) s7 := (St.start S7.jar).mono (by omega)
  have zl : (zipD pns ts).length = wss.length := by rw [zipD_len, hpnl, htr.1, htl]; omega
  refine lc_jar (n := n + 7000) 0 (fun y s => ∃ w q ys, y = .tup [.str w, .ref q] ∧ q ≠ j ∧ q ≠ ex ∧ s q = some (.lst ys) ∧ Strs ys ∧ ys.length ≤ 20) hex (fun s e => ⟨e pn _ (nj7 _ _ epn) epn, e ta _ (nj7 _ _ eta7) eta7⟩) (fun y s s' h e => ?_) (fun y s x h => ?_) _ [] _ ?_ ((S7s.new hex).mono (by omega)) S.set_same (fun x m => by simp at m) (by simp; omega) ?_
  · obtain ⟨w, q, ys, e1, e2, e3, e4, e5⟩ := h
    exact ⟨w, q, ys, e1, e2, e3, e q _ e2 e4, e5⟩
  · obtain ⟨w, q, ys, e1, e2, e3, e4, e5⟩ := h
    exact ⟨w, q, ys, e1, e2, e3, by rw [S.set_ne e3]; exact e4, e5⟩
  · intro d hd m s acc N Sx ea hN
    obtain ⟨x, hx, y, hy, rfl⟩ := zip_mem' hd
    obtain ⟨z, rfl, hz⟩ := hpnS x hx
    obtain ⟨i, hi, ey⟩ := List.mem_iff_getElem.mp hy
    have hi2 : i < tss.length := by rw [← htr.1]; exact hi
    obtain ⟨a, h1, h2⟩ := htr7.2 i tss[i] (by simp)
    rw [List.getElem?_eq_getElem hi, ey] at h1
    cases h1
    obtain ⟨t2, t6, tm⟩ := htold i tss[i] (by simp)
    have h2' := Sx.ext a _ (nj7 _ _ h2) h2
    walk_at "rd"
    refine ⟨a, tss[i], rfl, h2', by omega, fun x m => ?_, fun p' ys s' hp' u hy' hS hl' => ?_⟩
    · obtain ⟨w, z, e, e1, _⟩ := tm x m; exact ⟨w, z, e, e1⟩
    · have J' := Jar_sub Sx.jar u
      have hpj : p' ≠ j := (Sx.fresh hp').2.1
      exact hN _ s' ⟨z, p', ys, rfl, hpj, (fun z => by rw [z, ea] at hp'; cases hp'), hy', hS, hl'⟩ (Sub_ext u) (J'.mono (by omega))
  · intro exs s8 hel hexo S8 eex
    have S8b : St j c s0 (n + 7000) s8 := S7b.next S8.ext S8.jar
    have S84 : Ext j s4 s8 := S7.ext.trans S8.ext
    unfold b__law_program_10
    walk_at "rd"
    intro pr hpr
    unfold b__law_program_11
    walk_at "rd"
    have env : Env j s8 pu kinds calm wss tss rs ts rows pns exs ra wa ta pl ro pn ex :=
      { pu1 := ⟨pu1, pu2⟩, sh := sh
        era := S84 _ _ (nj4 _ _ era4) era4
        ewa := S84 _ _ (nj4 _ _ ewa4) ewa4
        eta := S84 _ _ (nj4 _ _ eta4) eta4
        epl := S84 _ _ (nj4 _ _ epl4) epl4
        ero := S8.ext _ _ (nj7 _ _ ero7) ero7
        epn := S8.ext _ _ (nj7 _ _ epn) epn
        eex := eex
        wr := hr4.ext S84 (rows_nj hr4 nj4)
        tr := htr4.ext S84 (rows_nj htr4 nj4)
        told := htold, tl := htl, tw := htw, rol := hrol, rop := hrop, pnl := hpnl, pnS := hpnS
        exl := by rw [hel, zl]; simp
        exo := fun x m => by obtain ⟨w, q, ys, e1, e2, e3, e4, e5, e6⟩ := hexo x m; exact ⟨w, q, ys, e1, e2, e4, e5, e6⟩
        nj := jar_nj S8.jar }
    refine ⟨_, by rw [S.set_ne (ne_of_some env.ewa hpr), env.ewa]; rfl, ?_⟩
    rw [hr4.1]
    refine ⟨by omega, by omega, ?_⟩
    have Sl : St j c s8 (n + 3000 + 3 * 1200) (s8.set pr (.lst [])) := ((St.start S8.jar).new hpr).mono (by omega)
    refine proc_loop (asks := asks) (wide := wide) (a3 := some (.ref ga)) (a5 := a5) (a8 := some (.ref rn)) (a12 := none) (a17 := a17) (a18 := a18) (a19 := a19) (a20 := a20) (a21 := none) (a22 := none) (a23 := none) env hpr Sl S.set_same ?_
    intro a12 a21 a22 a23 s9 ps S9 epr hpsl hps
    have S9b : St j c s0 (n + 3000) s9 := S8b.next S9.ext S9.jar
    have env9 := env.ext S9.ext S9.jar
    unfold b__law_program_12 sgP
    walk_at "rd"
    refine call_g (n := n + 2900) (S9b.mono (by omega)) rfl fun d s10 S10 x10 ⟨nm, hd, hnm⟩ => ?_
    subst hd
    have nj9 := jar_nj S9.jar
    obtain ⟨pm, hpm⟩ : ∃ m : Nat, pu = m := ⟨pu.toNat, by omega⟩
    subst hpm
    refine ⟨pm, by omega, call_g (n := n + 2400) (S10.mono (by omega)) rfl fun d s11 S11 x11 ⟨ca, cs, hd, _, eca, hcl, _⟩ => ?_⟩
    subst hd
    have nj10 := jar_nj S10.jar
    have ero10 := x10 _ _ (nj9 _ _ env9.ero) env9.ero
    have ero11 := x11 _ _ (nj10 _ _ ero10) ero10
    have epr10 := x10 _ _ (nj9 _ _ epr) epr
    have epr11 := x11 _ _ (nj10 _ _ epr10) epr10
    walk_at "rd"
    refine ⟨_, eca, _, ero11, _, epr11, ?_⟩
    refine fin (q _ s11 S11.ext (S11.jar.mono (by omega)) ⟨_, _, pg_of hrol hpsl hps k1 (by omega) ⟨?_, by omega⟩ fun ws m => ?_⟩)
    · have := sh.c1; have := sh.c2; omega
    · obtain ⟨i, hi, e⟩ := List.mem_iff_getElem.mp m
      obtain ⟨w2, w6, _⟩ := sh.w2 i ws (by rw [← e]; simp)
      omega
end Toy

set_option maxHeartbeats 2000000
namespace Toy
open PySem DL
local macro_rules | `(tactic| walk_at "rd") => `(tactic| simp only [dSeq, dAsg, dRet, dRetN, dIfS, dNext, dDrop, dPar, dVar, dC, dOp, dUn, dAndV, dOrV, dNotV, dIf, dTest, dTru, dAnd, dOr, dNot, dTup, dLst, daNil, daCons, dCall, dCB, dChain, dSl, dPart_i, dNoPart,
  dDGet, dDPut, dAppend, dgName, dgTup, dgNil, dgCons, dFor, dIter, dAug, dLc, dYes, dDisp, dPairs, isC, isCc,
  rAdd_i, rAdd_s, rAdd_t, rAdd_l, rIAdd_i, rIAdd_s, rIAdd_l, rSub_i, rMul_i, rMul_l, rFdiv_i, rMod_i, rPow_i, rNeg_i, rEq_ii, rEq_ss, rEq_ns, rEq_sn, rEq_is, rEq_si, rEq_bs, rEq_sb, rEq_bb, rEq_nn, rEq_tt, rEq_nt, rEq_tn, rLt_i, rLtD_i, rLtD_s, rLtD_t, rIn_ss, rIn_r, rIn_t, inC_l, inC_d, dgSeq_t, dgSeq_l, rSorted_l, iEnum_l, iZip_l, iZip_t, iRev_l, iRev_t, rGt_i, rLe_i, rGe_i, rLe_s, rLt_s,
  rIs_nn, rIs_bb, rIs_in, rIs_sn, rIs_bn, rIs_rn, rIs_tn, rTru_n, rTru_b, rTru_i, rTru_s, rTru_t, rTru_l, rIx_t, rIx_l, rIx_s, rLen_s, rLen_t, rLen_l, rAbs_i, rInt_i, rStr_i, rMax_i, rMin_i, rTupOf_l, rTupOf_t, rListOf_l, rListOf_t, rAll_l, rAny_l, rSum_l,
  rIsi_r, rIsi_n, rIsi_b, rIsi_i, rIsi_s, rIsi_t, iD_t, iD_s, iD_l, iR1, iR2, rSl_t, rSl_s, rSl_l,
  endsOf, startD, List.map_cons, List.map_nil, List.length_cons, List.length_nil, Nat.reduceAdd, Nat.reduceSub, List.replicate, List.cons_append, List.nil_append, List.getElem?_cons_zero, List.getElem?_cons_succ, List.set_cons_zero, List.set_cons_succ,
  Option.some.injEq, exists_eq_left', exists_eq_left, List.cons.injEq, D.int.injEq, D.tup.injEq, D.bl.injEq, D.str.injEq, D.ref.injEq, and_true, true_and, and_self, id_eq, size0, size1, size2, size3, size4, size5, size6, size7, size8, sizel0, sizel1, sizel2, sizel3, sizel4, sizel5, sizel6, sizel7, lenOf_l, lenOf_d, List.length_map, Int.reduceToNat, Int.reducePow, Int.reduceNeg, Int.reduceLT, Int.reduceLE, atI_0, atI_1, atI_2, atI_3, atI_4, reduceCtorEq, false_and, or_false, false_or, exists_const, exists_false, ite_true, ite_false,
  Bool.false_eq_true, if_true, if_false, decide_eq_true_eq, Bool.not_eq_true', decide_eq_false_iff_not, Bool.not_true, Bool.not_false, and_assoc, exists_and_left, D.key, S.set_same, S.set_set, C.lst.injEq, C.dic.injEq, jd_cells, jd_at, jd_turn, jd_stock, jp_at, jp_turn, jp_stock, jd_len, wipeD])

def Great (ps : List D) : Prop := ∀ x ∈ ps, ∃ nm pls, x = .tup [nm, .tup pls] ∧ 1 ≤ pls.length ∧ pls.length ≤ 12
theorem great_procs {ps : List D} (h : Great ps) : ∃ wss : List (List D), wss.length = ps.length ∧ Procs wss ps ∧ ∀ ws ∈ wss, 1 ≤ ws.length ∧ ws.length ≤ 12 := by
  induction ps with
  | nil => exact ⟨[], rfl, fun i ws hi => by simp at hi, fun _ m => by simp at m⟩
  | cons x ps ih =>
    obtain ⟨wss, h1, h2, h3⟩ := ih fun y m => h y (List.mem_cons_of_mem _ m)
    obtain ⟨nm, pls, rfl, h4, h5⟩ := h x List.mem_cons_self
    refine ⟨pls :: wss, by simp [h1], fun i ws hi hw => ?_, fun ws m => ?_⟩
    · cases i with
      | zero => simp at hw; subst hw; exact ⟨nm, pls, rfl, rfl⟩
      | succ i =>
        simp at hi hw
        obtain ⟨nm', pls', e1, e2⟩ := h2 i ws hi hw
        exact ⟨nm', pls', by simpa using e1, e2⟩
    · rcases List.mem_cons.mp m with rfl | m
      · exact ⟨h4, h5⟩
      · exact h3 ws m
def sgG (j : Addr) (a1 a2 a3 a4 a5 a6 a7 a8 : Option D) : DS := [some (.ref j), a1, a2, a3, a4, a5, a6, a7, a8]
theorem gplace_loop {K : PySem.W.Frag} {j c : Addr} {b s : S} {n : Nat} {E : EndsD} {a1 a2 a3 a6 a7 a8 : Option D} {na lp : Addr} {names : List D} (hna : b na = some (.lst names)) (hnj : na ≠ j) (hnl : names.length ≤ 12) (hlp : b lp = none) (S0 : St j c b n s) (e0 : s lp = some (.lst []))
    (fin_ : ∀ a6 a7 s' pls, St j c b n s' → s' lp = some (.lst pls) → pls.length = names.length → E.nx (sgG j a1 a2 a3 (some (.ref na)) (some (.ref lp)) a6 a7 a8) s') :
    forD (dgName 6) (l__law_great_2 K sp_names sp_stem sp_of) (fun _ => True) E (rngD 0 names.length) (sgG j a1 a2 a3 (some (.ref na)) (some (.ref lp)) a6 a7 a8) s := by
  have hlj : lp ≠ j := fun z => S0.hj (by rw [← z]; exact hlp)
  refine for_inv (fun i σ s => i ≤ names.length ∧ ∃ pls a6 a7, σ = sgG j a1 a2 a3 (some (.ref na)) (some (.ref lp)) a6 a7 a8 ∧ St j c b n s ∧ s lp = some (.lst pls) ∧ (pls : List D).length = i) _ 0 _ s (fun _ _ _ _ => trivial) ?_ ?_ ?_
  · rintro i d σ s hd ⟨hi, pls, a6, a7, rfl, S, e, hl⟩ N hN
    obtain ⟨rfl, hi'⟩ := rng_get hd
    have e0 : (0 : Int) + (i : Nat) = ((i : Nat) : Int) := by omega
    have hna' : s na = some (.lst names) := S.ext na _ hnj hna
    unfold l__law_great_2 sgG
    walk_at "rd"
    unfold l__law_great_2_1
    walk_at "rd"
    rw [e0]
    refine ⟨_, by rw [hna']; rfl, ?_⟩
    have last : ∀ x : D, l__law_great_2_2 K sp_names sp_stem sp_of { E with nx := N, ct := N, bk := E.nx } [some (.ref j), a1, a2, a3, some (.ref na), some (.ref lp), some (.int (i : Nat)), some x, a8] s := by
      intro x
      unfold l__law_great_2_2
      walk_at "rd"
      refine ⟨⟨_, e⟩, names, hna', names[i], atI_nat' (by simp [hi']), _, e, size_small' (by omega), ?_⟩
      exact hN _ _ ⟨by omega, _, _, _, rfl, S.put hlp, DL.S.set_same, by rw [List.length_append, hl]; rfl⟩
    split <;> rename_i h1
    · have hi2 : i + 1 < names.length := by omega
      refine ⟨names, hna', names[i + 1], ?_, last _⟩
      have e2 : ((i : Nat) : Int) + 1 = ((i + 1 : Nat) : Int) := by omega
      rw [e2]; exact atI_nat' (by simp [hi2])
    · exact last _
  · rintro σ s ⟨hi, pls, a6, a7, rfl, S, e, hl⟩
    rw [rng_len] at hl
    exact fin_ a6 a7 s pls S e (by omega)
  · exact ⟨by omega, [], a6, a7, rfl, S0, e0, rfl⟩
def sp_great : DSp := spG 10000 (fun as _ _ => as = []) (fun _ _ d _ => ∃ R Ls, PgX d R Ls)
theorem rd_great (K : PySem.W.Frag) : ∀ ds s Q, sp_great ds s Q → t__law_great K sp_names sp_stem sp_of (endsOf Q) (startD N__law_great ds) s := by
  rintro ds s0 Q ⟨j, c, n, as, rfl, rfl, J, q⟩
  have S00 := St.start J
  unfold t__law_great N__law_great
  walk_at "rd"
  intro pr hpr
  have hprj := (S00.fresh hpr).2.1
  unfold b__law_great_1
  walk_at "rd"
  refine ⟨5, by decide, call_g (n := n + 9500) ((S00.new hpr).mono (by omega)) rfl fun d s1 S1 x1 ⟨na, names, hd, _, ena, hnl, hns⟩ => ?_⟩
  subst hd
  have epr := x1 pr _ hprj S.set_same
  have naj : na ≠ j := Jar_ne S1.jar ena
  have hnp : na ≠ pr := fun z => by rw [z, epr] at ena; cases ena; simp at hnl
  walk_at "rd"
  refine ⟨names, ena, ?_⟩
  refine for_inv (fun i σ s => i ≤ 5 ∧ ∃ ps a2 a4 a5 a6 a7, σ = sgG j (some (.ref pr)) a2 none a4 a5 a6 a7 none ∧ St j c s0 (n + 5000 + (5 - i) * 600) s ∧ s na = some (.lst names) ∧ s pr = some (.lst ps) ∧ (ps : List D).length = i ∧ Great ps) names 0 _ _ ?_ ?_ ?_ ?_
  · rintro i σ s ⟨_, ps, a2, a4, a5, a6, a7, rfl, S, ena, _⟩; exact ena
  · rintro i d σ s hd ⟨hi, ps, a2, a4, a5, a6, a7, rfl, S, ena, epr, hpl, hps⟩ N hN
    have hi' : i < 5 := by have := (List.getElem?_eq_some_iff.mp hd).1; omega
    unfold l__law_great_1 sgG
    walk_at "rd"
    intro p hp
    refine of_new (n := n + 5000 + (5 - (0 + i + 1)) * 600 + 599) (S.mono (by omega)) hp (by simp) (by decide) fun x s2 m S2 x2 => ?_
    obtain ⟨k, rfl, hk1, hk2⟩ : ∃ k : Nat, x = .int (k : Nat) ∧ 1 ≤ k ∧ k ≤ 12 := by
      simp only [List.mem_cons, List.not_mem_nil, or_false] at m
      rcases m with rfl | rfl | rfl | rfl
      · exact ⟨1, rfl, by decide, by decide⟩
      · exact ⟨2, rfl, by decide, by decide⟩
      · exact ⟨11, rfl, by decide, by decide⟩
      · exact ⟨12, rfl, by decide, by decide⟩
    refine ⟨k, by omega, call_g (n := n + 5000 + (5 - (0 + i + 1)) * 600) (S2.mono (by omega)) rfl fun d s3 S3 x3 ⟨n2, nms, hd, _, en2, hn2, hn2s⟩ => ?_⟩
    subst hd
    have x13 := x2.trans x3
    unfold l__law_great_1_1
    walk_at "rd"
    intro lp hlp
    have hnlp : n2 ≠ lp := ne_of_some en2 hlp
    unfold l__law_great_1_2
    walk_at "rd"
    refine ⟨_, by rw [DL.S.set_ne hnlp, en2]; rfl, ?_⟩
    refine ⟨by omega, by omega, ?_⟩
    have Sl : St j c s3 (n + 5000 + (5 - (0 + i + 1)) * 600) (s3.set lp (.lst [])) := (St.start S3.jar).new hlp
    refine gplace_loop (a1 := some (.ref pr)) (a2 := some d) (a3 := none) (a6 := a6) (a7 := a7) (a8 := none) en2 (Jar_ne S3.jar en2) (by omega) hlp Sl DL.S.set_same ?_
    intro a6 a7 s4 pls S4 el hpll
    have S4b : St j c s0 (n + 5000 + (5 - (0 + i + 1)) * 600) s4 := S3.next S4.ext S4.jar
    have epr4 := S4.ext pr _ hprj (x13 pr _ hprj epr)
    have ena4 := S4.ext na _ naj (x13 na _ naj ena)
    unfold l__law_great_1_3 sgG
    walk_at "rd"
    refine ⟨⟨_, epr4⟩, _, el, _, epr4, size_small' (by omega), ?_⟩
    refine hN _ _ ⟨by omega, _, _, _, _, _, _, rfl, S4b.put hpr, by rw [DL.S.set_ne hnp]; exact ena4, DL.S.set_same, by rw [List.length_append, hpl]; rfl, fun x m => ?_⟩
    rcases List.mem_append.mp m with m | m
    · exact hps x m
    · exact ⟨_, pls, List.mem_singleton.mp m, by omega, by omega⟩
  · rintro σ s ⟨hi, ps, a2, a4, a5, a6, a7, rfl, S, ena, epr, hpl, hps⟩
    have hpl : ps.length = 5 := by omega
    unfold b__law_great_2 sgG
    walk_at "rd"
    refine ⟨2, by decide, call_g (n := n + 4500) (S.mono (by omega)) rfl fun d s2 S2 x2 ⟨n2, nms, hd, _, en2, hn2, hn2s⟩ => ?_⟩
    subst hd
    walk_at "rd"
    refine ⟨nms, en2, fun p hp => ?_⟩
    have epr2 := x2 pr _ hprj epr
    have S2s : St j c s2 (n + 4500) s2 := St.start S2.jar
    refine lc_jar (n := n + 3000) 500 (fun y _ => True) hp (fun s e => e n2 _ (Jar_ne S2.jar en2) en2) (fun _ _ _ _ _ => trivial) (fun _ _ _ _ => trivial) _ [] _ ?_ ((S2s.new hp).mono (by omega)) DL.S.set_same (fun x m => by simp at m) (by simp; omega) ?_
    · intro d hd m s acc N Sx ea hN
      walk_at "rd"
      refine ⟨3, by decide, call_g Sx rfl fun d s3 S3 x3 ⟨n3, nms3, hd, _, en3, hn3, hn3s⟩ => ?_⟩
      subst hd
      walk_at "rd"
      exact ⟨_, en3, hN _ s3 trivial x3 S3.jar⟩
    · intro rows s3 hrl _ S3 er
      have S3b : St j c s0 (n + 3000) s3 := S2.next S3.ext S3.jar
      have epr3 := S3.ext pr _ hprj epr2
      refine ⟨_, er, ?_⟩
      unfold b__law_great_3
      walk_at "rd"
      refine call_g (n := n + 2900) (S3b.mono (by omega)) rfl fun d s4 S4 x4 ⟨z, hd, hz⟩ => ?_
      subst hd
      refine ⟨3, by decide, call_g (n := n + 2400) (S4.mono (by omega)) rfl fun d s5 S5 x5 ⟨n3, nms3, hd, _, en3, hn3, hn3s⟩ => ?_⟩
      subst hd
      have epr5 := x5 pr _ hprj (x4 pr _ hprj epr3)
      walk_at "rd"
      refine ⟨_, en3, _, epr5, ?_⟩
      obtain ⟨wss, w1, w2, w3⟩ := great_procs hps
      have hr2 : rows.length = 2 := by rw [hrl, hn2]; rfl
      refine fin (q _ s5 S5.ext (S5.jar.mono (by omega)) ⟨2, _, pg_of hr2 w1.symm w2 (by decide) (by omega) (by omega) fun ws m => ?_⟩)
      have := w3 ws m; omega
  · exact ⟨by omega, [], _, _, _, _, _, rfl, S1.mono (by omega), ena, epr, rfl, fun x m => by simp at m⟩
end Toy

set_option maxHeartbeats 2000000
namespace Toy
open PySem DL
local macro_rules | `(tactic| walk_at "rd") => `(tactic| simp only [dSeq, dAsg, dRet, dRetN, dIfS, dNext, dDrop, dPar, dVar, dC, dOp, dUn, dAndV, dOrV, dNotV, dIf, dTest, dTru, dAnd, dOr, dNot, dTup, dLst, daNil, daCons, dCall, dCB, dChain, dSl, dPart_i, dNoPart,
  dDGet, dDPut, dAppend, dgName, dgTup, dgNil, dgCons, dFor, dIter, dAug, dLc, dYes, dDisp, dPairs, isC, isCc,
  rAdd_i, rAdd_s, rAdd_t, rAdd_l, rIAdd_i, rIAdd_s, rIAdd_l, rSub_i, rMul_i, rMul_l, rFdiv_i, rMod_i, rPow_i, rNeg_i, rEq_ii, rEq_ss, rEq_ns, rEq_sn, rEq_is, rEq_si, rEq_bs, rEq_sb, rEq_bb, rEq_nn, rEq_tt, rEq_nt, rEq_tn, rLt_i, rLtD_i, rLtD_s, rLtD_t, rIn_ss, rIn_r, rIn_t, inC_l, inC_d, dgSeq_t, dgSeq_l, rSorted_l, iEnum_l, iZip_l, iZip_t, iRev_l, iRev_t, rGt_i, rLe_i, rGe_i, rLe_s, rLt_s,
  rIs_nn, rIs_bb, rIs_in, rIs_sn, rIs_bn, rIs_rn, rIs_tn, rTru_n, rTru_b, rTru_i, rTru_s, rTru_t, rTru_l, rIx_t, rIx_l, rIx_s, rLen_s, rLen_t, rLen_l, rAbs_i, rInt_i, rStr_i, rMax_i, rMin_i, rTupOf_l, rTupOf_t, rListOf_l, rListOf_t, rAll_l, rAny_l, rSum_l,
  rIsi_r, rIsi_n, rIsi_b, rIsi_i, rIsi_s, rIsi_t, iD_t, iD_s, iD_l, iR1, iR2, rSl_t, rSl_s, rSl_l,
  endsOf, startD, List.map_cons, List.map_nil, List.length_cons, List.length_nil, Nat.reduceAdd, Nat.reduceSub, List.replicate, List.cons_append, List.nil_append, List.getElem?_cons_zero, List.getElem?_cons_succ, List.set_cons_zero, List.set_cons_succ,
  Option.some.injEq, exists_eq_left', exists_eq_left, List.cons.injEq, D.int.injEq, D.tup.injEq, D.bl.injEq, D.str.injEq, D.ref.injEq, and_true, true_and, and_self, id_eq, size0, size1, size2, size3, size4, size5, size6, size7, size8, sizel0, sizel1, sizel2, sizel3, sizel4, sizel5, sizel6, sizel7, lenOf_l, lenOf_d, List.length_map, Int.reduceToNat, Int.reducePow, Int.reduceNeg, Int.reduceLT, Int.reduceLE, atI_0, atI_1, atI_2, atI_3, atI_4, reduceCtorEq, false_and, or_false, false_or, exists_const, exists_false, ite_true, ite_false,
  Bool.false_eq_true, if_true, if_false, decide_eq_true_eq, Bool.not_eq_true', decide_eq_false_iff_not, Bool.not_true, Bool.not_false, and_assoc, exists_and_left, D.key, S.set_same, S.set_set, C.lst.injEq, C.dic.injEq, jd_cells, jd_at, jd_turn, jd_stock, jp_at, jp_turn, jp_stock, jd_len, wipeD])

/-- all([f(x) for x in ds]) -/
theorem all_lc {g : TDG} {te : TD} {G : S → Prop} {σ : DS} {p : Addr} {Q : QD} (f : D → Bool) (s0 : S) (ds : List D) (h : ∀ d ∈ ds, ∀ (acc : List D) (Q' : QD), Q' (.bl (f d)) (s0.set p (.lst acc)) → g d σ (s0.set p (.lst acc)) fun σ1 s1 => te σ1 s1 Q')
    (hG : ∀ acc, G (s0.set p (.lst acc))) (hl : ds.length < sizeLine) (q : Q (.bl (ds.all f)) (s0.set p (.lst (ds.map fun d => .bl (f d))))) :
    lcD g dYes te G σ p (fun s => ∃ bs : List Bool, s p = some (.lst (bs.map D.bl)) ∧ Q (.bl (bs.all id)) s) ds (s0.set p (.lst [])) := by
  refine lcD_pure (fun d => .bl (f d)) s0 ds [] h hG (by simpa using hl) ⟨ds.map f, ?_, ?_⟩
  · rw [S.set_same, List.map_map]; rfl
  · simpa [List.all_map, Function.comp_def] using q
/-- back to what stood before -/
theorem back {Q : QD} {d : D} {s : S} {p : Addr} {x : C} (hp : s p = none) (q : Q d s) : ∃ s'', Sub s'' (s.set p x) ∧ Q d s'' := ⟨s, Sub.set hp, q⟩
/-- return all([f(x) for x in ds]) -/
theorem all_ret {g : TDG} {te : TD} {G : S → Prop} {σ : DS} {p : Addr} {Q : QD} (f : D → Bool) (s : S) (ds : List D) (h : ∀ d ∈ ds, ∀ (acc : List D) (Q' : QD), Q' (.bl (f d)) (s.set p (.lst acc)) → g d σ (s.set p (.lst acc)) fun σ1 s1 => te σ1 s1 Q')
    (hG : ∀ acc, G (s.set p (.lst acc))) (hl : ds.length ≤ 100000) (hp : s p = none) (q : Q (.bl (ds.all f)) s) :
    lcD g dYes te G σ p (fun s1 => ∃ bs : List Bool, s1 p = some (.lst (bs.map D.bl)) ∧ ∃ s'', Sub s'' s1 ∧ Q (.bl (bs.all id)) s'') ds (s.set p (.lst [])) :=
  all_lc (Q := fun d s1 => ∃ s'', Sub s'' s1 ∧ Q d s'') f s ds h hG (size_small' (by omega)) ⟨s, Sub.set hp, q⟩
/-- a pure def -/
def spB (pre : List D → Prop) (f : List D → Bool) : DSp := fun ds s Q => pre ds ∧ Q (.bl (f ds)) s
def sp_is_number : DSp := fun ds s Q => ∃ d lo hi, ds = [d, .int lo, .int hi] ∧ plain d ∧ Q (.bl (wholeB d lo (some hi))) s
theorem rd_is_number (K : PySem.W.Frag) : ∀ ds s Q, sp_is_number ds s Q → t_is_number K (endsOf Q) (startD N_is_number ds) s := by
  rintro ds s Q ⟨d, lo, hi, rfl, hp, q⟩
  unfold t_is_number N_is_number
  cases d with
  | ref a => exact hp.elim
  | int i =>
    walk_at "rd"
    simp only [wholeB] at q
    split <;> rename_i h
    · simp only [h, decide_true, Bool.true_and] at q; exact fin q
    · simp only [h, decide_false, Bool.false_and] at q; exact fin q
  | _ => walk_at "rd"; exact fin q
def sp_is_tuple : DSp := fun ds s Q => ∃ d lo hi, ds = [d, .int lo, .int hi] ∧ plain d ∧ Q (.bl (isTup d lo hi)) s
theorem rd_is_tuple (K : PySem.W.Frag) : ∀ ds s Q, sp_is_tuple ds s Q → t_is_tuple K (endsOf Q) (startD N_is_tuple ds) s := by
  rintro ds s Q ⟨d, lo, hi, rfl, hp, q⟩
  unfold t_is_tuple N_is_tuple
  cases d with
  | ref a => exact hp.elim
  | tup xs =>
    walk_at "rd"
    unfold isTup at q
    split <;> rename_i h
    · simp only [h, decide_true, Bool.true_and] at q; exact fin q
    · simp only [h, decide_false, Bool.false_and] at q; exact fin q
  | _ => walk_at "rd"; exact fin q
theorem len_cps (x : Str) : x.length = x.cps.toList.length := by simp [Str.length]
theorem inS_lets (c : Nat) : inS ⟨#[c]⟩ "abcdefghijklmnopqrstuvwxyz" = decide (c ∈ lets) := inS_sign _ c
theorem inS_sgs (c : Nat) : inS ⟨#[c]⟩ "abcdefghijklmnopqrstuvwxyz0123456789" = decide (c ∈ sgs) := inS_sign _ c
theorem atI0 {α : Type} {c : α} {l : List α} : L2.atI (c :: l) 0 = some c := by
  have := atI_nat' (xs := c :: l) (i := 0) (x := c) rfl
  simpa using this
theorem word_cons {c : Nat} {l : List Nat} : wordL (c :: l) = (decide ((l.length : Int) + 1 ≤ 8) && (decide (c ∈ lets) && (c :: l).all fun c => decide (c ∈ sgs))) := by
  have e : decide ((l.length : Int) + 1 ≤ 8) = decide (l.length + 1 ≤ 8) := decide_eq_decide.mpr (by omega)
  rw [e]
  simp only [wordL, List.length_cons]
  simp [Bool.and_assoc]
theorem all_signs (f : D → Bool) (x : Str) : (signs x).all f = x.cps.toList.all fun c => f (.str ⟨#[c]⟩) := by simp [signs, List.all_map, Function.comp_def]
def inB (l : List Nat) : D → Bool | .str x => (match x.cps.toList with | [c] => decide (c ∈ l) | _ => false) | _ => false
theorem name_lc {σ : DS} {i : Nat} {te : TD} {x : Str} {s : S} {p : Addr} {Q Q0 : QD} (hl : x.length ≤ 1000)
    (h : ∀ c acc (Q' : QD), Q' (.bl (decide (c ∈ sgs))) (s.set p (.lst acc)) → te (σ.set i (some (.str ⟨#[c]⟩))) (s.set p (.lst acc)) Q')
    (q : ∀ s', Sub s s' → Q (.bl (x.cps.toList.all fun c => decide (c ∈ sgs))) s') (hp : s p = none) :
    lcD (dgName i) dYes te (fun _ => True) σ p (fun s1 => ∃ bs : List Bool, s1 p = some (.lst (bs.map D.bl)) ∧ Q (.bl (bs.all id)) s1) (signs x) (s.set p (.lst [])) := by
  refine all_lc (inB sgs) s (signs x) (fun d hd acc Q' q' => ?_) (fun _ => trivial) (by simp only [signs, List.length_map, ← len_cps]; exact size_small' (by omega)) ?_
  · obtain ⟨c, _, rfl⟩ := List.mem_map.mp hd
    exact h c acc Q' (by simpa [inB] using q')
  · rw [all_signs]
    have := q (s.set p (.lst ((signs x).map fun d => .bl (inB sgs d)))) (Sub.set hp)
    simpa [inB] using this
def sp_is_name : DSp := fun ds s Q => ∃ d, ds = [d] ∧ gd d = true ∧ Q (.bl (nameB d)) s
theorem rd_is_name (K : PySem.W.Frag) : ∀ ds s Q, sp_is_name ds s Q → t_is_name K (endsOf Q) (startD N_is_name ds) s := by
  rintro ds s Q ⟨d, rfl, hp, q⟩
  unfold t_is_name N_is_name
  cases d with
  | ref a => simp [gd] at hp
  | str x =>
    have hl : x.length ≤ 1000 := by rw [gd, Bool.and_eq_true] at hp; simpa using hp.2
    walk_at "rd"
    simp only [nameB] at q
    refine ⟨sz hl, ?_⟩
    cases hx : x.cps.toList with
    | nil =>
      have h0 : x.length = 0 := by rw [len_cps, hx]; rfl
      rw [if_neg (by omega)]
      rw [hx] at q; exact fin q
    | cons c l =>
      have h0 : x.length = l.length + 1 := by rw [len_cps, hx]; rfl
      rw [if_pos (by omega)]
      rw [hx, word_cons] at q
      split <;> rename_i h8
      · rw [decide_eq_false (by omega), Bool.false_and] at q; exact fin q
      · rw [decide_eq_true (by omega), Bool.true_and] at q
        refine ⟨sz hl, c, atI0, ?_⟩
        rw [inS_lets]
        split <;> rename_i hc
        · rw [hc, Bool.true_and] at q
          intro p hp
          refine name_lc (Q := fun d s1 => ∃ s'', Sub s'' s1 ∧ Q d s'') (Q0 := Q) hl (fun c acc Q' q' => ?_) (fun s' u => ⟨s, u, by rw [hx]; exact q⟩) hp
          walk_at "rd"
          rw [inS_sgs]; exact q'
        · rw [eq_false_of_ne_true hc] at q ⊢
          exact fin q
  | _ => walk_at "rd"; exact fin q
def sp_are_numbers : DSp := fun ds s Q => ∃ d n lo hi, ds = [d, .int (n : Nat), .int lo, .int hi] ∧ gd d = true ∧ (∀ xs, d = .tup xs → xs.length ≤ n → xs.length ≤ 100000) ∧ Q (.bl (numsB d n lo hi)) s
theorem rd_are_numbers (K : PySem.W.Frag) : ∀ ds s Q, sp_are_numbers ds s Q → t_are_numbers K sp_is_tuple sp_is_number (endsOf Q) (startD N_are_numbers ds) s := by
  rintro ds s Q ⟨d, n, lo, hi, rfl, hp, hn, q⟩
  unfold t_are_numbers N_are_numbers
  walk_at "rd"
  refine ⟨d, _, _, rfl, gd_plain hp, ?_⟩
  walk_at "rd"
  cases d with
  | tup xs =>
    have gx : gds xs = true := by rw [gd_t] at hp; exact hp
    simp only [numsB] at q
    by_cases h : isTup (.tup xs) n n = true
    · have hl : xs.length = n := by simp [isTup] at h; omega
      rw [if_pos h]
      walk_at "rd"
      intro p hp
      rw [decide_eq_true hl, Bool.true_and] at q
      refine all_ret (fun d => wholeB d lo (some hi)) s xs (fun d hd acc Q' q' => ?_) (fun _ => trivial) (hn xs rfl (by omega)) hp q
      walk_at "rd"
      exact ⟨d, lo, hi, rfl, gd_plain (gds_mem gx d hd), q'⟩
    · have hl : ¬ xs.length = n := fun z => by simp [isTup] at h; omega
      rw [decide_eq_false hl, Bool.false_and] at q
      rw [if_neg h]
      rw [eq_false_of_ne_true h]; exact fin q
  | _ => rw [if_neg (by simp [isTup])]; exact fin q
def sp_is_ascending : DSp := fun ds s Q => ∃ p xs, ds = [.ref p] ∧ s p = some (.lst xs) ∧ xs.length ≤ 100000 ∧ (∀ x ∈ xs, ∃ ys, x = .tup ys ∧ x.fine = true) ∧ (∀ x ∈ xs, ∀ y ∈ xs, D.alike x y = true) ∧ Q (.bl (climb xs)) s
theorem zip_mem : ∀ {xs ys : List D} {d : D}, d ∈ zipD xs ys → ∃ x ∈ xs, ∃ y ∈ ys, d = .tup [x, y]
  | [], _, _, h => by simp [zipD] at h
  | _ :: _, [], _, h => by simp [zipD] at h
  | x :: xs, y :: ys, d, h => by
    simp only [zipD, List.zipWith_cons_cons] at h
    rcases List.mem_cons.mp h with rfl | h
    · exact ⟨x, List.mem_cons_self, y, List.mem_cons_self, rfl⟩
    · obtain ⟨a, h1, b, h2, e⟩ := zip_mem (xs := xs) (ys := ys) h
      exact ⟨a, List.mem_cons_of_mem _ h1, b, List.mem_cons_of_mem _ h2, e⟩
def ltP : D → Bool | .tup [x, y] => D.lt x y | _ => false
theorem climb_zip : ∀ xs : List D, (zipD xs (xs.drop 1)).all ltP = climb xs
  | [] => rfl
  | [_] => rfl
  | a :: b :: r => by
    have ih := climb_zip (b :: r)
    simp only [List.drop_succ_cons, List.drop_zero] at ih ⊢
    simp only [zipD, List.zipWith_cons_cons, List.all_cons] at ih ⊢
    rw [climb, ← ih]; rfl
theorem cut_1 (xs : List D) : cutD xs (some 1) none = xs.drop 1 := by
  unfold cutD
  have h1 : HT.sIx xs.length 0 (some 1) = min 1 xs.length := by
    rw [show (1 : Int) = ((1 : Nat) : Int) by rfl, HT.sIx_nat]
  have h2 : HT.sIx xs.length xs.length none = xs.length := rfl
  rw [h1, h2]
  cases xs with
  | nil => rfl
  | cons x xs => simp
theorem rd_is_ascending (K : PySem.W.Frag) : ∀ ds s Q, sp_is_ascending ds s Q → t_is_ascending K (endsOf Q) (startD N_is_ascending ds) s := by
  rintro ds s Q ⟨p, xs, rfl, e, hl, hx, ha, q⟩
  unfold t_is_ascending N_is_ascending
  walk_at "rd"
  refine ⟨xs, .inl e, fun l hl0 => ?_⟩
  have hlp : p ≠ l := fun z => by rw [← z, e] at hl0; cases hl0
  refine ⟨xs, by rw [S.set_ne hlp]; exact e, fun p2 hp2 => ?_⟩
  have h2l : p2 ≠ l := fun z => by rw [z, S.set_same] at hp2; cases hp2
  have h2p : p2 ≠ p := fun z => by rw [z, S.set_ne hlp, e] at hp2; cases hp2
  have h20 : s p2 = none := by rw [S.set_ne h2l] at hp2; exact hp2
  rw [cut_1] at hp2 ⊢
  refine all_lc (Q := fun d s1 => ∃ s'', Sub s'' s1 ∧ Q d s'') ltP (s.set l (.lst (xs.drop 1))) (zipD xs (xs.drop 1)) (fun d hd acc Q' q' => ?_) (fun acc => ?_) (by rw [zipD_len]; exact size_small' (by omega)) ⟨s, ?_, by rw [climb_zip]; exact q⟩
  · obtain ⟨x, m1, y, m2, rfl⟩ := zip_mem hd
    have m2' := List.mem_of_mem_drop m2
    obtain ⟨x', rfl, f1⟩ := hx x m1
    obtain ⟨y', rfl, f2⟩ := hx y m2'
    have := ha _ m1 _ m2'
    walk_at "rd"
    exact ⟨f1, f2, this, q'⟩
  · exact ⟨by rw [S.set_ne h2p.symm, S.set_ne hlp]; exact e, by rw [S.set_ne h2l.symm, S.set_same]⟩
  · exact (Sub.set hl0).trans (Sub.set hp2)
/-- the way into a program, a book -/
theorem Pg.rows {p : D} {R : Nat} {Ls : List Nat} (h : Pg p R Ls) : ∃ xs rs, p = .tup xs ∧ L2.atI xs 3 = some (.tup rs) ∧ rs.length = R := by
  obtain ⟨a, b, c, rs, ps, e, h1, _⟩ := h.ex
  exact ⟨_, rs, e, rfl, h1⟩
theorem Pg.procs {p : D} {R : Nat} {Ls : List Nat} (h : Pg p R Ls) : ∃ xs ps, p = .tup xs ∧ L2.atI xs 4 = some (.tup ps) ∧ ps.length = Ls.length ∧ ∀ i, i < Ls.length → ∃ nm pl, ps[i]? = some (.tup [nm, .tup pl]) ∧ Ls[i]? = some pl.length := by
  obtain ⟨a, b, c, rs, ps, e, h1, h2, h3⟩ := h.ex
  exact ⟨_, ps, e, rfl, h2, h3⟩
theorem Bk.pages {b : D} {B : Nat} (h : Bk b B) : ∃ xs ps, b = .tup xs ∧ L2.atI xs 3 = some (.tup ps) ∧ ps.length = B := by
  obtain ⟨x, y, z, ps, e, h1⟩ := h.ex
  exact ⟨_, ps, e, rfl, h1⟩
/-- things of the wide of what is bent -/
def Wd (d : D) : Prop := Th 40 d
mutual
/-- tuples are short -/
def slim : D → Bool
  | .tup ds => decide (ds.length ≤ 100000) && slims ds
  | .str _ => true | .ref _ => true | .non => true | .bl _ => true | .int _ => true
def slims : List D → Bool
  | [] => true | d :: ds => slim d && slims ds
end
theorem slims_mem : ∀ {ds : List D}, slims ds = true → ∀ d ∈ ds, slim d = true
  | [], _, d, h => absurd h (by simp)
  | x :: ds, g, d, h => by
    rw [slims, Bool.and_eq_true] at g
    rcases List.mem_cons.mp h with rfl | h
    · exact g.1
    · exact slims_mem g.2 d h
theorem slims_of : ∀ {ds : List D}, (∀ d ∈ ds, slim d = true) → slims ds = true
  | [], _ => by rw [slims]
  | x :: ds, h => by rw [slims, h x List.mem_cons_self, slims_of fun d hd => h d (List.mem_cons_of_mem _ hd)]; rfl
theorem slim_t {ds : List D} : slim (.tup ds) = (decide (ds.length ≤ 100000) && slims ds) := by rw [slim]
/-- a thing that may be asked about -/
structure Ok (k : Nat) (d : D) : Prop where
  th : Th k d
  sl : slim d = true
theorem Ok.sub {k : Nat} {ds : List D} (h : Ok (k + 1) (.tup ds)) {d : D} (m : d ∈ ds) : Ok k d := by
  have h2 := h.sl
  rw [slim_t, Bool.and_eq_true] at h2
  exact ⟨h.th.sub m, slims_mem h2.2 d m⟩
theorem Ok.len {k : Nat} {ds : List D} (h : Ok k (.tup ds)) : ds.length ≤ 100000 := by
  have h2 := h.sl
  rw [slim_t, Bool.and_eq_true] at h2
  simpa using h2.1
theorem Ok.tup {k : Nat} {ds : List D} (h : ∀ d ∈ ds, Ok k d) (l : ds.length ≤ 100000) : Ok (k + 1) (.tup ds) :=
  ⟨Th.tup fun d m => (h d m).th, by rw [slim_t, slims_of fun d m => (h d m).sl]; simpa using l⟩
theorem Ok.mono {j k : Nat} {d : D} (h : Ok j d) (l : j ≤ k) : Ok k d := ⟨h.th.mono l, h.sl⟩
def sp_is_ended : DSp := fun ds s Q => ∃ p R Ls d k, ds = [p, d] ∧ Pg p R Ls ∧ Ok k d ∧ Q (.bl (numsB d R 0 1)) s
theorem rd_is_ended (K : PySem.W.Frag) : ∀ ds s Q, sp_is_ended ds s Q → t_is_ended K sp_are_numbers (endsOf Q) (startD N_is_ended ds) s := by
  rintro ds s Q ⟨p, R, Ls, d, k, rfl, hp, hd, q⟩
  obtain ⟨xs, rs, rfl, h1, h2⟩ := hp.rows
  unfold t_is_ended N_is_ended
  walk_at "rd"
  refine ⟨_, h1, ?_⟩
  walk_at "rd"
  exact ⟨d, rs.length, 0, 1, rfl, hd.th.g, (fun xs e _ => by subst e; exact hd.len), fin (by rw [h2]; exact q)⟩
theorem Bk.len {b : D} {B : Nat} (h : Bk b B) : 0 < B ∧ B ≤ 1000 := ⟨h.pos, h.small⟩
theorem len3 {xs : List D} (h : isTup (.tup xs) 3 3 = true) : ∃ a e g, xs = [a, e, g] := by
  simp [isTup] at h
  match xs, h with
  | [a, e, g], _ => exact ⟨a, e, g, rfl⟩
  | [], h => exact absurd h.1 (by simp)
  | [_], h => exact absurd h.1 (by simp)
  | [_, _], h => exact absurd h.1 (by simp)
  | _ :: _ :: _ :: _ :: _, h => exact absurd h.2 (by simp only [List.length_cons]; omega)
theorem spot_not {R B m : Nat} {d : D} (h : ¬ isTup d 3 3 = true) : spotB R B m d = false := by
  cases hs : spotB R B m d with
  | false => rfl
  | true =>
    obtain ⟨a, ns, g, rfl, _⟩ := spot_shape hs
    exact absurd (by simp [isTup]) h
theorem gate_not {R B : Nat} {d : D} (h : ¬ isTup d 3 3 = true) : gateB R B d = false := by
  cases hs : gateB R B d with
  | false => rfl
  | true =>
    obtain ⟨a, ns, g, rfl, _⟩ := gate_shape hs
    exact absurd (by simp [isTup]) h
def sp_is_frame : DSp := fun ds s Q => ∃ p b R Ls B d k, ds = [p, b, d] ∧ Pg p R Ls ∧ Bk b B ∧ Ok (k + 1) d ∧ Q (.bl (spotB R B Ls.length d)) s
theorem rd_is_frame (K : PySem.W.Frag) : ∀ ds s Q, sp_is_frame ds s Q → t_is_frame K sp_is_ended sp_is_number sp_is_tuple (endsOf Q) (startD N_is_frame ds) s := by
  rintro ds s Q ⟨p, b, R, Ls, B, d, k, rfl, hp, hb, hd, q⟩
  obtain ⟨xs, ps, rfl, h1, h2, h3⟩ := hp.procs
  obtain ⟨ys, pgs, rfl, h4, h5⟩ := hb.pages
  unfold t_is_frame N_is_frame
  walk_at "rd"
  refine ⟨d, _, _, rfl, gd_plain hd.th.g, ?_⟩
  by_cases ht : isTup d 3 3 = true
  · cases d with
    | tup zs =>
      obtain ⟨a, e, g, rfl⟩ := len3 ht
      have ka : Ok k a := hd.sub (by simp)
      have ke : Ok k e := hd.sub (by simp)
      have kg : Ok k g := hd.sub (by simp)
      simp only [spotB] at q
      rw [ht]
      walk_at "rd"
      refine ⟨_, h1, ?_⟩
      walk_at "rd"
      refine ⟨a, _, _, rfl, gd_plain ka.th.g, ?_⟩
      rw [h2]
      by_cases hw : wholeB a 0 (some ((Ls.length : Int) - 1)) = true
      · rw [hw] at q ⊢
        walk_at "rd"
        rw [Bool.true_and] at q
        refine ⟨_, R, Ls, e, k, rfl, hp, ke, ?_⟩
        by_cases hn : numsB e R 0 1 = true
        · rw [hn, Bool.true_and] at q
          rw [hn]
          walk_at "rd"
          refine ⟨_, h4, ?_⟩
          walk_at "rd"
          exact ⟨g, _, _, rfl, gd_plain kg.th.g, fin (by rw [h5]; exact q)⟩
        · rw [eq_false_of_ne_true hn, Bool.false_and] at q
          rw [eq_false_of_ne_true hn]
          walk_at "rd"
          exact fin q
      · rw [eq_false_of_ne_true hw, Bool.false_and] at q
        rw [eq_false_of_ne_true hw]
        walk_at "rd"
        exact fin q
    | _ => simp [isTup] at ht
  · rw [eq_false_of_ne_true ht]
    walk_at "rd"
    have : spotB R B Ls.length d = false := spot_not ht
    rw [this] at q; exact fin q
theorem atI_int {α : Type} {xs : List α} {i : Int} {x : α} (h0 : 0 ≤ i) (h : xs[i.toNat]? = some x) : L2.atI xs i = some x := by
  have e : i = ((i.toNat : Nat) : Int) := by omega
  rw [e]; exact atI_nat' h
def sp_is_point : DSp := fun ds s Q => ∃ p b R Ls B i fr d k, ds = [p, b, .tup (.int i :: fr), d] ∧ 0 ≤ i ∧ i.toNat < Ls.length ∧ Pg p R Ls ∧ Bk b B ∧ Ok (k + 1) d ∧ Q (.bl (spotB R B (Ls.getD i.toNat 0) d)) s
theorem rd_is_point (K : PySem.W.Frag) : ∀ ds s Q, sp_is_point ds s Q → t_is_point K sp_is_ended sp_is_number sp_is_tuple (endsOf Q) (startD N_is_point ds) s := by
  rintro ds s Q ⟨p, b, R, Ls, B, i, fr, d, k, rfl, hi0, hi, hp, hb, hd, q⟩
  obtain ⟨xs, ps, rfl, h1, h2, h3⟩ := hp.procs
  obtain ⟨ys, pgs, rfl, h4, h5⟩ := hb.pages
  obtain ⟨nm, pl, h6, h7⟩ := h3 _ hi
  have h8 : Ls.getD i.toNat 0 = pl.length := by rw [List.getD_eq_getElem?_getD, h7]; rfl
  unfold t_is_point N_is_point
  walk_at "rd"
  refine ⟨d, _, _, rfl, gd_plain hd.th.g, ?_⟩
  by_cases ht : isTup d 3 3 = true
  · cases d with
    | tup zs =>
      obtain ⟨a, e, g, rfl⟩ := len3 ht
      have ka : Ok k a := hd.sub (by simp)
      have ke : Ok k e := hd.sub (by simp)
      have kg : Ok k g := hd.sub (by simp)
      simp only [spotB] at q
      rw [ht]
      walk_at "rd"
      refine ⟨_, h1, ?_⟩
      walk_at "rd"
      refine ⟨_, atI_int hi0 h6, ?_⟩
      walk_at "rd"
      refine ⟨a, _, _, rfl, gd_plain ka.th.g, ?_⟩
      rw [h8] at q
      by_cases hw : wholeB a 0 (some ((pl.length : Int) - 1)) = true
      · rw [hw] at q ⊢
        walk_at "rd"
        rw [Bool.true_and] at q
        refine ⟨_, R, Ls, e, k, rfl, hp, ke, ?_⟩
        by_cases hn : numsB e R 0 1 = true
        · rw [hn, Bool.true_and] at q
          rw [hn]
          walk_at "rd"
          refine ⟨_, h4, ?_⟩
          walk_at "rd"
          exact ⟨g, _, _, rfl, gd_plain kg.th.g, fin (by rw [h5]; exact q)⟩
        · rw [eq_false_of_ne_true hn, Bool.false_and] at q
          rw [eq_false_of_ne_true hn]
          walk_at "rd"
          exact fin q
      · rw [eq_false_of_ne_true hw, Bool.false_and] at q
        rw [eq_false_of_ne_true hw]
        walk_at "rd"
        exact fin q
    | _ => simp [isTup] at ht
  · rw [eq_false_of_ne_true ht]
    walk_at "rd"
    rw [spot_not ht] at q; exact fin q
def sp_is_exit : DSp := fun ds s Q => ∃ p b R Ls B d k, ds = [p, b, d] ∧ Pg p R Ls ∧ Bk b B ∧ Ok (k + 1) d ∧ Q (.bl (gateB R B d)) s
theorem rd_is_exit (K : PySem.W.Frag) : ∀ ds s Q, sp_is_exit ds s Q → t_is_exit K sp_is_ended sp_is_number sp_is_tuple sp_is_name (endsOf Q) (startD N_is_exit ds) s := by
  rintro ds s Q ⟨p, b, R, Ls, B, d, k, rfl, hp, hb, hd, q⟩
  obtain ⟨xs, ps, rfl, h1, h2, h3⟩ := hp.procs
  obtain ⟨ys, pgs, rfl, h4, h5⟩ := hb.pages
  unfold t_is_exit N_is_exit
  walk_at "rd"
  refine ⟨d, _, _, rfl, gd_plain hd.th.g, ?_⟩
  by_cases ht : isTup d 3 3 = true
  · cases d with
    | tup zs =>
      obtain ⟨a, e, g, rfl⟩ := len3 ht
      have ka : Ok k a := hd.sub (by simp)
      have ke : Ok k e := hd.sub (by simp)
      have kg : Ok k g := hd.sub (by simp)
      simp only [gateB] at q
      rw [ht]
      walk_at "rd"
      refine ⟨a, rfl, ka.th.g, ?_⟩
      by_cases hw : nameB a = true
      · rw [hw] at q ⊢
        walk_at "rd"
        rw [Bool.true_and] at q
        refine ⟨_, R, Ls, e, k, rfl, hp, ke, ?_⟩
        by_cases hn : numsB e R 0 1 = true
        · rw [hn, Bool.true_and] at q
          rw [hn]
          walk_at "rd"
          refine ⟨_, h4, ?_⟩
          walk_at "rd"
          exact ⟨g, _, _, rfl, gd_plain kg.th.g, fin (by rw [h5]; exact q)⟩
        · rw [eq_false_of_ne_true hn, Bool.false_and] at q
          rw [eq_false_of_ne_true hn]
          walk_at "rd"
          exact fin q
      · rw [eq_false_of_ne_true hw, Bool.false_and] at q
        rw [eq_false_of_ne_true hw]
        walk_at "rd"
        exact fin q
    | _ => simp [isTup] at ht
  · rw [eq_false_of_ne_true ht]
    walk_at "rd"
    rw [gate_not ht] at q; exact fin q
def sp_is_amount : DSp := fun ds s Q => ∃ d, ds = [d] ∧ plain d ∧ Q (.bl (wholeB d 0 none)) s
theorem rd_is_amount (K : PySem.W.Frag) : ∀ ds s Q, sp_is_amount ds s Q → t_is_amount K (endsOf Q) (startD N_is_amount ds) s := by
  rintro ds s Q ⟨d, rfl, hp, q⟩
  unfold t_is_amount N_is_amount
  cases d with
  | ref a => exact hp.elim
  | int i => walk_at "rd"; exact fin q
  | _ => walk_at "rd"; exact fin q
def duo (d : D) : Bool := isTup d 2 2
def duosB (d : D) : Bool := match d with | .tup xs => xs.all duo | _ => false
def sp_are_pairs : DSp := fun ds s Q => ∃ d k, ds = [d] ∧ Ok k d ∧ Q (.bl (duosB d)) s
theorem rd_are_pairs (K : PySem.W.Frag) : ∀ ds s Q, sp_are_pairs ds s Q → t_are_pairs K sp_is_tuple (endsOf Q) (startD N_are_pairs ds) s := by
  rintro ds s Q ⟨d, k, rfl, hp, q⟩
  unfold t_are_pairs N_are_pairs
  cases d with
  | ref a => exact absurd hp.th.g (by simp [gd])
  | tup xs =>
    walk_at "rd"
    intro p hp0
    have g := hp.th.g
    rw [gd_t] at g
    refine all_ret duo s xs (fun d hd acc Q' q' => ?_) (fun _ => trivial) hp.len hp0 q
    walk_at "rd"
    exact ⟨d, _, _, rfl, gd_plain (gds_mem g d hd), q'⟩
  | _ => walk_at "rd"; exact fin q
theorem len2 {d : D} (h : duo d = true) : ∃ a e, d = .tup [a, e] := by
  cases d with
  | tup xs =>
    simp [duo, isTup] at h
    match xs, h with
    | [a, e], _ => exact ⟨a, e, rfl⟩
    | [], h => exact absurd h.1 (by simp)
    | [_], h => exact absurd h.1 (by simp)
    | _ :: _ :: _ :: _, h => exact absurd h.2 (by simp only [List.length_cons]; omega)
  | _ => simp [duo, isTup] at h
theorem all_congr' {α : Type} {f g : α → Bool} : ∀ {l : List α}, (∀ x ∈ l, f x = g x) → l.all f = l.all g
  | [], _ => rfl
  | x :: l, h => by rw [List.all_cons, List.all_cons, h x List.mem_cons_self, all_congr' fun y hy => h y (List.mem_cons_of_mem _ hy)]
def lkB (p : D → Bool) (q : D) : Bool := match q with | .tup [a, b] => p a && wholeB b 0 none | _ => false
/-- pairs first, then keys and amounts -/
theorem rows_eq {p : D → Bool} {ps : List D} : rowsB p (.tup ps) = (ps.all duo && (ps.all (lkB p) && climb (ps.map fstD))) := by
  have e : ∀ q : D, (pairB q && p (fstD q)) = (duo q && lkB p q) := fun q => by
    cases h : duo q with
    | true =>
      obtain ⟨a, b, rfl⟩ := len2 h
      simp only [pairB, fstD, lkB, Bool.true_and]
      exact Bool.and_comm _ _
    | false =>
      rw [Bool.false_and]
      have : pairB q = false := by
        cases hq : pairB q with
        | false => rfl
        | true =>
          unfold pairB at hq
          split at hq
          · exact absurd h (by simp [duo, isTup])
          · cases hq
      rw [this, Bool.false_and]
  have a2 : ∀ f g : D → Bool, (ps.all f && ps.all g) = ps.all fun q => f q && g q := fun f g => by
    induction ps with
    | nil => rfl
    | cons x ps ih => simp only [List.all_cons, ← ih]; cases f x <;> cases g x <;> simp
  simp only [rowsB]
  rw [← Bool.and_assoc, a2, ← Bool.and_assoc, a2, all_congr' fun q _ => e q]
theorem rows_not {p : D → Bool} {d : D} (h : duosB d = false) : rowsB p d = false := by
  cases d with
  | tup ps => rw [rows_eq]; simp only [duosB] at h; rw [h, Bool.false_and]
  | _ => rfl
/-- if not all([f(x) for x in ds]): A, otherwise B -/
theorem all_if {g : TDG} {te : TD} {G : S → Prop} {σ : DS} {p : Addr} {A B : S → Prop} (f : D → Bool) (s : S) (ds : List D) (h : ∀ d ∈ ds, ∀ (acc : List D) (Q' : QD), Q' (.bl (f d)) (s.set p (.lst acc)) → g d σ (s.set p (.lst acc)) fun σ1 s1 => te σ1 s1 Q')
    (hG : ∀ acc, G (s.set p (.lst acc))) (hl : ds.length ≤ 100000) (hp : s p = none) (q : ∀ s', Sub s s' → if ds.all f = false then A s' else B s') :
    lcD g dYes te G σ p (fun s1 => ∃ bs : List Bool, s1 p = some (.lst (bs.map D.bl)) ∧ if bs.all id = false then A s1 else B s1) ds (s.set p (.lst [])) :=
  all_lc (Q := fun d s1 => match d with | .bl b => if b = false then A s1 else B s1 | _ => False) f s ds h hG (size_small' (by omega)) (q _ (Sub.set hp))
/-- the firsts of pairs are taken and asked whether they ascend -/
theorem fst_lc {σ : DS} {i : Nat} {te : TD} {G : S → Prop} {ps : List D} {k : Nat} {s : S} {p : Addr} {Q : QD} (hk : k ≤ 50) (h : Ok (k + 1) (.tup ps))
    (ht : ∀ a b acc (Q' : QD), Q' a (s.set p (.lst acc)) → te (σ.set i (some (.tup (a :: b)))) (s.set p (.lst acc)) Q')
    (hd : ∀ q ∈ ps, ∃ a b, q = .tup (a :: b)) (hs : ∀ q ∈ ps, ∃ ys, fstD q = .tup ys) (ha : ∀ x ∈ ps, ∀ y ∈ ps, D.alike (fstD x) (fstD y) = true) (hG : ∀ acc, G (s.set p (.lst acc))) (hp : s p = none) (q : ∃ s'', Sub s'' s ∧ Q (.bl (climb (ps.map fstD))) s'') :
    lcD (dgName i) dYes te G σ p (fun s1 => sp_is_ascending [.ref p] s1 fun d s' => ∃ s'', Sub s'' s' ∧ Q d s'') ps (s.set p (.lst [])) := by
  refine lcD_pure fstD s ps [] (fun d m acc Q' q' => ?_) hG (by have := h.len; exact size_small' (by simpa using by omega)) ?_
  · obtain ⟨a, b, rfl⟩ := hd d m
    exact ht a b acc Q' q'
  · refine ⟨p, ps.map fstD, rfl, S.set_same, by simpa using h.len, fun x m => ?_, fun x m y n => ?_, q.elim fun s'' z => ⟨s'', z.1.trans (Sub.set hp), z.2⟩⟩
    · obtain ⟨z, hz, rfl⟩ := List.mem_map.mp m
      obtain ⟨ys, e⟩ := hs z hz
      refine ⟨ys, e, ?_⟩
      obtain ⟨a, b, rfl⟩ := hd z hz
      have h1 := (h.sub hz).th
      have : Th k a := by
        cases k with
        | zero => have := h1.d; rw [D.dep] at this; omega
        | succ k => exact (h1.sub (by simp)).mono (by omega)
      exact this.fine (by omega)
    · obtain ⟨z, hz, rfl⟩ := List.mem_map.mp m
      obtain ⟨z', hz', rfl⟩ := List.mem_map.mp n
      exact ha z hz z' hz'
theorem rTru_bl {b : Bool} {s : S} {Q : Bool → S → Prop} : rTru (.bl b) s Q = Q b s := rfl
def sp_are_lefts : DSp := fun ds s Q => ∃ p b R Ls B d k, ds = [p, b, d] ∧ k ≤ 30 ∧ Pg p R Ls ∧ Bk b B ∧ Ok (k + 3) d ∧ Q (.bl (rowsB (gateB R B) d)) s
theorem lk_gate {p : D → Bool} {q : D} (h : lkB p q = true) : ∃ a b, q = .tup [a, b] ∧ p a = true ∧ wholeB b 0 none = true := by
  unfold lkB at h
  split at h
  · simp at h; exact ⟨_, _, rfl, h.1, h.2⟩
  · cases h
theorem lk_lc {p : D → Bool} {ps : List D} (h : ps.all (lkB p) = true) (q : D) (m : q ∈ ps) : ∃ a b, q = .tup [a, b] ∧ p a = true ∧ wholeB b 0 none = true := lk_gate (List.all_eq_true.mp h q m)
theorem rd_are_lefts (K : PySem.W.Frag) : ∀ ds s Q, sp_are_lefts ds s Q → t_are_lefts K sp_is_ascending sp_are_pairs sp_is_exit sp_is_amount (endsOf Q) (startD N_are_lefts ds) s := by
  rintro ds s Q ⟨p, b, R, Ls, B, d, k, rfl, hk, hp, hb, hd, q⟩
  unfold t_are_lefts N_are_lefts
  walk_at "rd"
  refine ⟨d, _, rfl, hd, ?_⟩
  by_cases h : duosB d = true
  · cases d with
    | tup ps =>
      simp only [duosB] at h ⊢
      rw [rows_eq, h, Bool.true_and] at q
      rw [h]
      walk_at "rd"
      intro p1 hp1
      refine all_if (lkB (gateB R B)) s ps (fun d m acc Q' q' => ?_) (fun _ => trivial) hd.len hp1 (fun s' u => ?_)
      · obtain ⟨a, e, rfl⟩ := len2 (List.all_eq_true.mp h d m)
        have hd1 := hd.sub m
        walk_at "rd"
        refine ⟨_, _, R, Ls, B, a, k, rfl, hp, hb, hd1.sub (by simp), ?_⟩
        simp only [lkB] at q'
        by_cases hg : gateB R B a = true
        · rw [hg, Bool.true_and] at q'
          rw [hg]
          walk_at "rd"
          exact ⟨e, rfl, gd_plain (hd1.sub (k := k + 1) (d := e) (by simp)).th.g, q'⟩
        · rw [eq_false_of_ne_true hg, Bool.false_and] at q'
          rw [eq_false_of_ne_true hg]
          walk_at "rd"
          exact q'
      · by_cases hg : ps.all (lkB (gateB R B)) = true
        · rw [hg, Bool.true_and] at q
          rw [hg, if_neg (by simp)]
          intro p2 hp2
          refine fst_lc (k := k + 2) (by omega) hd (fun a b acc Q' q' => ?_) (fun q m => ?_) (fun q m => ?_) (fun x m y n => ?_) (fun _ => trivial) hp2 ⟨s, u, q⟩
          · walk_at "rd"; exact q'
          · obtain ⟨a, e, rfl, _⟩ := lk_lc hg q m; exact ⟨_, _, rfl⟩
          · obtain ⟨a, e, rfl, h1, _⟩ := lk_lc hg q m
            obtain ⟨_, _, _, e, _⟩ := gate_shape h1
            exact ⟨_, e⟩
          · obtain ⟨a, e, rfl, h1, _⟩ := lk_lc hg x m
            obtain ⟨a', e', rfl, h2, _⟩ := lk_lc hg y n
            exact alike_gate h1 h2
        · rw [eq_false_of_ne_true hg, Bool.false_and] at q
          rw [eq_false_of_ne_true hg, if_pos rfl]
          exact ⟨s, u, q⟩
    | _ => cases h
  · rw [rows_not (eq_false_of_ne_true h)] at q
    rw [eq_false_of_ne_true h]
    walk_at "rd"
    exact fin q
def sp_are_helds : DSp := fun ds s Q => ∃ p b R Ls B f d k m, ds = [p, b, f, d] ∧ k ≤ 30 ∧ Pg p R Ls ∧ Bk b B ∧ spotB R B m f = true ∧ m = Ls.length ∧ Ok (k + 3) d ∧ Q (.bl (rowsB (spotB R B (atF Ls f)) d)) s
theorem rd_are_helds (K : PySem.W.Frag) : ∀ ds s Q, sp_are_helds ds s Q → t_are_helds K sp_is_ascending sp_are_pairs sp_is_point sp_is_amount (endsOf Q) (startD N_are_helds ds) s := by
  rintro ds s Q ⟨p, b, R, Ls, B, f, d, k, m, rfl, hk, hp, hb, hf, hm, hd, q⟩
  obtain ⟨i, ns, g, rfl, _, hi0, hi, _⟩ := spot_shape hf
  unfold t_are_helds N_are_helds
  walk_at "rd"
  refine ⟨d, _, rfl, hd, ?_⟩
  by_cases h : duosB d = true
  · cases d with
    | tup ps =>
      simp only [duosB] at h ⊢
      rw [rows_eq, h, Bool.true_and] at q
      rw [h]
      walk_at "rd"
      intro p1 hp1
      refine all_if (lkB (spotB R B (atF Ls (.tup [.int i, .tup (ns.map .int), .int g])))) s ps (fun d m acc Q' q' => ?_) (fun _ => trivial) hd.len hp1 (fun s' u => ?_)
      · obtain ⟨a, e, rfl⟩ := len2 (List.all_eq_true.mp h d m)
        have hd1 := hd.sub m
        walk_at "rd"
        refine ⟨_, _, R, Ls, B, i, _, a, k, rfl, hi0, by omega, hp, hb, hd1.sub (by simp), ?_⟩
        simp only [lkB, atF] at q'
        by_cases hg : spotB R B (Ls.getD i.toNat 0) a = true
        · rw [hg, Bool.true_and] at q'
          rw [hg]
          walk_at "rd"
          exact ⟨e, rfl, gd_plain (hd1.sub (k := k + 1) (d := e) (by simp)).th.g, q'⟩
        · rw [eq_false_of_ne_true hg, Bool.false_and] at q'
          rw [eq_false_of_ne_true hg]
          walk_at "rd"
          exact q'
      · by_cases hg : ps.all (lkB (spotB R B (atF Ls (.tup [.int i, .tup (ns.map .int), .int g])))) = true
        · rw [hg, Bool.true_and] at q
          rw [hg, if_neg (by simp)]
          intro p2 hp2
          refine fst_lc (k := k + 2) (by omega) hd (fun a b acc Q' q' => ?_) (fun q m => ?_) (fun q m => ?_) (fun x m y n => ?_) (fun _ => trivial) hp2 ⟨s, u, q⟩
          · walk_at "rd"; exact q'
          · obtain ⟨a, e, rfl, _⟩ := lk_lc hg q m; exact ⟨_, _, rfl⟩
          · obtain ⟨a, e, rfl, h1, _⟩ := lk_lc hg q m
            obtain ⟨_, _, _, e, _⟩ := spot_shape h1
            exact ⟨_, e⟩
          · obtain ⟨a, e, rfl, h1, _⟩ := lk_lc hg x m
            obtain ⟨a', e', rfl, h2, _⟩ := lk_lc hg y n
            exact alike_spot h1 h2
        · rw [eq_false_of_ne_true hg, Bool.false_and] at q
          rw [eq_false_of_ne_true hg, if_pos rfl]
          exact ⟨s, u, q⟩
    | _ => cases h
  · rw [rows_not (eq_false_of_ne_true h)] at q
    rw [eq_false_of_ne_true h]
    walk_at "rd"
    exact fin q
theorem len4 {xs : List D} (h : isTup (.tup xs) 4 4 = true) : ∃ a e g f, xs = [a, e, g, f] := by
  simp [isTup] at h
  match xs, h with
  | [a, e, g, f], _ => exact ⟨a, e, g, f, rfl⟩
  | [], h => exact absurd h.1 (by simp)
  | [_], h => exact absurd h.1 (by simp)
  | [_, _], h => exact absurd h.1 (by simp)
  | [_, _, _], h => exact absurd h.1 (by simp)
  | _ :: _ :: _ :: _ :: _ :: _, h => exact absurd h.2 (by simp only [List.length_cons]; omega)
theorem block_shape {R B : Nat} {Ls : List Nat} {d : D} (h : blockB R B Ls d = true) : ∃ f n l g, d = .tup [f, n, l, g] ∧ spotB R B Ls.length f = true := by
  unfold blockB at h
  split at h
  · simp only [Bool.and_eq_true] at h; exact ⟨_, _, _, _, rfl, h.1⟩
  · cases h
theorem block_not {R B : Nat} {Ls : List Nat} {d : D} (h : ¬ isTup d 4 4 = true) : blockB R B Ls d = false := by
  cases hs : blockB R B Ls d with
  | false => rfl
  | true =>
    obtain ⟨a, e, g, f, rfl, _⟩ := block_shape hs
    exact absurd (by simp [isTup]) h
def sp_is_block : DSp := fun ds s Q => ∃ p b R Ls B d k, ds = [p, b, d] ∧ k ≤ 30 ∧ Pg p R Ls ∧ Bk b B ∧ Ok (k + 4) d ∧ Q (.bl (blockB R B Ls d)) s
theorem rd_is_block (K : PySem.W.Frag) : ∀ ds s Q, sp_is_block ds s Q → t_is_block K sp_are_lefts sp_are_helds sp_is_tuple sp_is_frame sp_is_amount (endsOf Q) (startD N_is_block ds) s := by
  rintro ds s Q ⟨p, b, R, Ls, B, d, k, rfl, hk, hp, hb, hd, q⟩
  unfold t_is_block N_is_block
  walk_at "rd"
  refine ⟨d, _, _, rfl, gd_plain hd.th.g, ?_⟩
  by_cases ht : isTup d 4 4 = true
  · cases d with
    | tup zs =>
      obtain ⟨f, n, l, h, rfl⟩ := len4 ht
      have kf : Ok (k + 3) f := hd.sub (by simp)
      have kn : Ok (k + 3) n := hd.sub (by simp)
      have kl : Ok (k + 3) l := hd.sub (by simp)
      have kh : Ok (k + 3) h := hd.sub (by simp)
      simp only [blockB] at q
      rw [ht]
      walk_at "rd"
      refine ⟨_, _, R, Ls, B, f, k + 2, rfl, hp, hb, kf, ?_⟩
      by_cases h1 : spotB R B Ls.length f = true
      · rw [h1] at q ⊢
        rw [Bool.true_and] at q
        walk_at "rd"
        refine ⟨n, rfl, gd_plain kn.th.g, ?_⟩
        by_cases h2 : wholeB n 0 none = true
        · rw [h2] at q ⊢
          rw [Bool.true_and] at q
          walk_at "rd"
          refine ⟨_, _, R, Ls, B, l, k, rfl, hk, hp, hb, kl, ?_⟩
          by_cases h3 : rowsB (gateB R B) l = true
          · rw [h3] at q ⊢
            rw [Bool.true_and] at q
            walk_at "rd"
            exact ⟨_, _, R, Ls, B, f, h, k, _, rfl, hk, hp, hb, h1, rfl, kh, fin q⟩
          · rw [eq_false_of_ne_true h3, Bool.false_and] at q
            rw [eq_false_of_ne_true h3]
            walk_at "rd"
            exact fin q
        · rw [eq_false_of_ne_true h2, Bool.false_and] at q
          rw [eq_false_of_ne_true h2]
          walk_at "rd"
          exact fin q
      · rw [eq_false_of_ne_true h1, Bool.false_and] at q
        rw [eq_false_of_ne_true h1]
        walk_at "rd"
        exact fin q
    | _ => simp [isTup] at ht
  · rw [eq_false_of_ne_true ht]
    walk_at "rd"
    rw [block_not ht] at q; exact fin q
end Toy

set_option maxHeartbeats 2000000
namespace Toy
open PySem DL
local macro_rules | `(tactic| walk_at "rd") => `(tactic| simp only [dSeq, dAsg, dRet, dRetN, dIfS, dNext, dDrop, dPar, dVar, dC, dOp, dUn, dAndV, dOrV, dNotV, dIf, dTest, dTru, dAnd, dOr, dNot, dTup, dLst, daNil, daCons, dCall, dCB, dChain, dSl, dPart_i, dNoPart,
  dDGet, dDPut, dAppend, dgName, dgTup, dgNil, dgCons, dFor, dIter, dAug, dLc, dYes, dDisp, dPairs, isC, isCc,
  rAdd_i, rAdd_s, rAdd_t, rAdd_l, rIAdd_i, rIAdd_s, rIAdd_l, rSub_i, rMul_i, rMul_l, rFdiv_i, rMod_i, rPow_i, rNeg_i, rEq_ii, rEq_ss, rEq_ns, rEq_sn, rEq_is, rEq_si, rEq_bs, rEq_sb, rEq_bb, rEq_nn, rEq_tt, rEq_nt, rEq_tn, rLt_i, rLtD_i, rLtD_s, rLtD_t, rIn_ss, rIn_r, rIn_t, inC_l, inC_d, dgSeq_t, dgSeq_l, rSorted_l, iEnum_l, iZip_l, iZip_t, iRev_l, iRev_t, rGt_i, rLe_i, rGe_i, rLe_s, rLt_s,
  rIs_nn, rIs_bb, rIs_in, rIs_sn, rIs_bn, rIs_rn, rIs_tn, rTru_n, rTru_b, rTru_i, rTru_s, rTru_t, rTru_l, rIx_t, rIx_l, rIx_s, rLen_s, rLen_t, rLen_l, rAbs_i, rInt_i, rStr_i, rMax_i, rMin_i, rTupOf_l, rTupOf_t, rListOf_l, rListOf_t, rAll_l, rAny_l, rSum_l,
  rIsi_r, rIsi_n, rIsi_b, rIsi_i, rIsi_s, rIsi_t, iD_t, iD_s, iD_l, iR1, iR2, rSl_t, rSl_s, rSl_l,
  endsOf, startD, List.map_cons, List.map_nil, List.length_cons, List.length_nil, Nat.reduceAdd, Nat.reduceSub, List.replicate, List.cons_append, List.nil_append, List.getElem?_cons_zero, List.getElem?_cons_succ, List.set_cons_zero, List.set_cons_succ,
  Option.some.injEq, exists_eq_left', exists_eq_left, List.cons.injEq, D.int.injEq, D.tup.injEq, D.bl.injEq, D.str.injEq, D.ref.injEq, and_true, true_and, and_self, id_eq, size0, size1, size2, size3, size4, size5, size6, size7, size8, sizel0, sizel1, sizel2, sizel3, sizel4, sizel5, sizel6, sizel7, lenOf_l, lenOf_d, List.length_map, Int.reduceToNat, Int.reducePow, Int.reduceNeg, Int.reduceLT, Int.reduceLE, atI_0, atI_1, atI_2, atI_3, atI_4, reduceCtorEq, false_and, or_false, false_or, exists_const, exists_false, ite_true, ite_false,
  Bool.false_eq_true, if_true, if_false, decide_eq_true_eq, Bool.not_eq_true', decide_eq_false_iff_not, Bool.not_true, Bool.not_false, and_assoc, exists_and_left, D.key, S.set_same, S.set_set, C.lst.injEq, C.dic.injEq, jd_cells, jd_at, jd_turn, jd_stock, jp_at, jp_turn, jp_stock, jd_len, wipeD])

theorem Ok.plain_mem {k : Nat} {ds : List D} (h : Ok k (.tup ds)) {d : D} (m : d ∈ ds) : plain d := by
  have g := h.th.g; rw [gd_t] at g; exact gd_plain (gds_mem g d m)
theorem rEq_str {k : Bool → Bool} {d : D} {y : Str} {s : S} {Q : QD} (h : d.fine = true) (hy : (D.str y).fine = true) (q : Q (.bl (k (d.eqv (.str y)))) s) : rEqD k d (.str y) s Q := by
  cases d with
  | str x => rw [rEq_ss]; simpa only [D.eqv] using q
  | int i => rw [rEq_is]; simpa only [D.eqv] using q
  | non => rw [rEq_ns]; simpa only [D.eqv] using q
  | bl b => rw [rEq_bs]; simpa only [D.eqv] using q
  | tup xs => exact ⟨h, hy, q⟩
  | ref a => exact ⟨h, hy, q⟩
theorem credits_shape {R B : Nat} {Ls : List Nat} {d : D} (h : creditsB R B Ls d = true) : isTup d 2 2 = true := by
  unfold creditsB at h
  split at h
  · simp [isTup]
  · cases h
theorem isi_tup {d : D} {s : S} {Q : QD} (h : plain d) (q : Q (.bl (match d with | .tup _ => true | _ => false)) s) : rIsi .tuple d s Q := by
  cases d with
  | ref a => exact h.elim
  | _ => exact q
def sp_is_credits : DSp := fun ds s Q => ∃ p b R Ls B d k, ds = [p, b, d] ∧ k ≤ 30 ∧ Pg p R Ls ∧ Bk b B ∧ Ok (k + 6) d ∧ Q (.bl (creditsB R B Ls d)) s
theorem blocks_lc {R B : Nat} {Ls : List Nat} {bs : List D} (h : bs.all (blockB R B Ls) = true) (q : D) (m : q ∈ bs) : ∃ f r, q = .tup (f :: r) ∧ spotB R B Ls.length f = true := by
  obtain ⟨f, n, l, g, e, h1⟩ := block_shape (List.all_eq_true.mp h q m)
  exact ⟨f, _, e, h1⟩
theorem rd_is_credits (K : PySem.W.Frag) : ∀ ds s Q, sp_is_credits ds s Q → t_is_credits K sp_is_ascending sp_is_tuple sp_is_block (endsOf Q) (startD N_is_credits ds) s := by
  rintro ds s Q ⟨p, b, R, Ls, B, d, k, rfl, hk, hp, hb, hd, q⟩
  unfold t_is_credits N_is_credits
  walk_at "rd"
  refine ⟨d, _, _, rfl, gd_plain hd.th.g, ?_⟩
  by_cases ht : isTup d 2 2 = true
  · obtain ⟨w, c, rfl⟩ := len2 ht
    rw [ht]
    walk_at "rd"
    have kw : Ok (k + 5) w := hd.sub (by simp)
    have kc : Ok (k + 5) c := hd.sub (by simp)
    refine rEq_str (kw.th.fine (by omega)) (by decide +kernel) ?_
    refine ⟨_, rfl, ?_⟩
    by_cases hw : w.eqv (.str "credits") = true
    · rw [hw, Bool.not_true, if_neg (by simp)]
      refine isi_tup (gd_plain kc.th.g) ?_
      cases c with
      | tup bs =>
        simp only [creditsB, hw, Bool.true_and] at q
        walk_at "rd"
        intro p1 hp1
        refine all_if (blockB R B Ls) s bs (fun d m acc Q' q' => ?_) (fun _ => trivial) kc.len hp1 (fun s' u => ?_)
        · walk_at "rd"
          exact ⟨_, _, R, Ls, B, d, k, rfl, hk, hp, hb, kc.sub m, q'⟩
        · by_cases hg : bs.all (blockB R B Ls) = true
          · rw [hg, Bool.true_and] at q
            rw [hg, if_neg (by simp)]
            intro p2 hp2
            refine fst_lc (k := k + 4) (by omega) kc (fun a b acc Q' q' => ?_) (fun q m => ?_) (fun q m => ?_) (fun x m y n => ?_) (fun _ => trivial) hp2 ⟨s, u, q⟩
            · walk_at "rd"; exact q'
            · obtain ⟨f, r, e, _⟩ := blocks_lc hg q m; exact ⟨f, r, e⟩
            · obtain ⟨f, r, rfl, h1⟩ := blocks_lc hg q m
              obtain ⟨_, _, _, e, _⟩ := spot_shape h1
              exact ⟨_, e⟩
            · obtain ⟨f, r, rfl, h1⟩ := blocks_lc hg x m
              obtain ⟨f', r', rfl, h2⟩ := blocks_lc hg y n
              exact alike_spot h1 h2
          · rw [eq_false_of_ne_true hg, Bool.false_and] at q
            rw [eq_false_of_ne_true hg, if_pos rfl]
            exact ⟨s, u, q⟩
      | ref a => exact absurd kc.th.g (by simp [gd])
      | _ => walk_at "rd"; simpa [creditsB] using fin q
    · rw [eq_false_of_ne_true hw, Bool.not_false, if_pos rfl]
      have : creditsB R B Ls (.tup [w, c]) = false := by
        unfold creditsB
        split
        · rename_i e
          simp only [D.tup.injEq, List.cons.injEq] at e
          rw [← e.1, eq_false_of_ne_true hw, Bool.false_and]
        · rfl
      rw [this] at q
      exact fin q
  · have : creditsB R B Ls d = false := by
      cases h : creditsB R B Ls d with
      | false => rfl
      | true => exact absurd (credits_shape h) ht
    rw [eq_false_of_ne_true ht]
    walk_at "rd"
    rw [this] at q; exact fin q
/-! ### the law's own judges -/
def sp__law_whole : DSp := fun ds s Q => ∃ d lo hi, ds = [d, .int lo, (match hi with | none => .non | some x => .int x)] ∧ plain d ∧ Q (.bl (wholeB d lo hi)) s
theorem rd__law_whole (K : PySem.W.Frag) : ∀ ds s Q, sp__law_whole ds s Q → t__law_whole K (endsOf Q) (startD N__law_whole ds) s := by
  rintro ds s Q ⟨d, lo, hi, rfl, hp, q⟩
  unfold t__law_whole N__law_whole
  cases d with
  | ref a => exact hp.elim
  | int i =>
    cases hi with
    | none =>
      walk_at "rd"
      simp only [wholeB] at q
      split <;> rename_i h
      · rw [decide_eq_true h] at q; exact fin q
      · rw [decide_eq_false h] at q ⊢; exact fin q
    | some x =>
      walk_at "rd"
      simp only [wholeB] at q
      split <;> rename_i h
      · simp only [h, decide_true, Bool.true_and] at q; exact fin q
      · simp only [h, decide_false, Bool.false_and] at q ⊢; exact fin q
  | _ => cases hi <;> (walk_at "rd"; exact fin q)
def sp__law_is_word : DSp := sp_is_name
theorem rd__law_is_word (K : PySem.W.Frag) : ∀ ds s Q, sp__law_is_word ds s Q → t__law_is_word K (endsOf Q) (startD N__law_is_word ds) s := by
  rintro ds s Q ⟨d, rfl, hp, q⟩
  unfold t__law_is_word N__law_is_word
  cases d with
  | ref a => simp [gd] at hp
  | str x =>
    have hl : x.length ≤ 1000 := by rw [gd, Bool.and_eq_true] at hp; simpa using hp.2
    walk_at "rd"
    simp only [nameB] at q
    refine ⟨sz hl, ?_⟩
    cases hx : x.cps.toList with
    | nil =>
      have h0 : x.length = 0 := by rw [len_cps, hx]; rfl
      rw [if_neg (by omega)]
      rw [hx] at q; exact fin q
    | cons c l =>
      have h0 : x.length = l.length + 1 := by rw [len_cps, hx]; rfl
      rw [if_pos (by omega)]
      rw [hx, word_cons] at q
      split <;> rename_i h8
      · rw [decide_eq_false (by omega), Bool.false_and] at q; exact fin q
      · rw [decide_eq_true (by omega), Bool.true_and] at q
        refine ⟨sz hl, c, atI0, ?_⟩
        rw [inS_lets]
        split <;> rename_i hc
        · rw [hc, Bool.true_and] at q
          intro p hp
          refine name_lc (Q := fun d s1 => ∃ s'', Sub s'' s1 ∧ Q d s'') (Q0 := Q) hl (fun c acc Q' q' => ?_) (fun s' u => ⟨s, u, by rw [hx]; exact q⟩) hp
          walk_at "rd"
          rw [inS_sgs]; exact q'
        · rw [eq_false_of_ne_true hc] at q ⊢
          exact fin q
  | _ => walk_at "rd"; exact fin q
def sp__law_is_ended : DSp := sp_is_ended
theorem rd__law_is_ended (K : PySem.W.Frag) : ∀ ds s Q, sp__law_is_ended ds s Q → t__law_is_ended K sp__law_whole (endsOf Q) (startD N__law_is_ended ds) s := by
  rintro ds s Q ⟨p, R, Ls, d, k, rfl, hp, hd, q⟩
  obtain ⟨xs, rs, rfl, h1, h2⟩ := hp.rows
  unfold t__law_is_ended N__law_is_ended
  cases d with
  | ref a => exact absurd hd.th.g (by simp [gd])
  | tup ys =>
    walk_at "rd"
    refine ⟨_, h1, ?_⟩
    walk_at "rd"
    simp only [numsB] at q
    split <;> rename_i h
    · rw [decide_eq_false (by omega), Bool.false_and] at q
      exact fin q
    · have h' : ys.length = R := by omega
      rw [decide_eq_true h', Bool.true_and] at q
      intro p1 hp1
      refine all_ret (fun d => wholeB d 0 (some 1)) s ys (fun d m acc Q' q' => ?_) (fun _ => trivial) hd.len hp1 q
      walk_at "rd"
      exact ⟨d, 0, some 1, rfl, hd.plain_mem m, q'⟩
  | _ => walk_at "rd"; exact fin q
theorem len3' {d : D} (h : isTup d 3 3 = true) : ∃ a e g, d = .tup [a, e, g] := by
  cases d with
  | tup zs => obtain ⟨a, e, g, rfl⟩ := len3 h; exact ⟨a, e, g, rfl⟩
  | _ => simp [isTup] at h
def sp__law_is_spot : DSp := fun ds s Q => ∃ p b R Ls B d k m, ds = [p, b, .int (m : Nat), d] ∧ Pg p R Ls ∧ Bk b B ∧ Ok (k + 1) d ∧ Q (.bl (spotB R B m d)) s
theorem rd__law_is_spot (K : PySem.W.Frag) : ∀ ds s Q, sp__law_is_spot ds s Q → t__law_is_spot K sp__law_is_ended sp__law_whole (endsOf Q) (startD N__law_is_spot ds) s := by
  rintro ds s Q ⟨p, b, R, Ls, B, d, k, m, rfl, hp, hb, hd, q⟩
  obtain ⟨ys, pgs, rfl, h4, h5⟩ := hb.pages
  unfold t__law_is_spot N__law_is_spot
  cases d with
  | ref a => exact absurd hd.th.g (by simp [gd])
  | tup zs =>
    walk_at "rd"
    by_cases ht : isTup (.tup zs) 3 3 = true
    · obtain ⟨a, e, g, rfl⟩ := len3 ht
      have ka : Ok k a := hd.sub (by simp)
      have ke : Ok k e := hd.sub (by simp)
      have kg : Ok k g := hd.sub (by simp)
      simp only [spotB] at q
      walk_at "rd"
      refine ⟨a, 0, some ((m : Int) - 1), rfl, gd_plain ka.th.g, ?_⟩
      by_cases hw : wholeB a 0 (some ((m : Int) - 1)) = true
      · rw [hw] at q ⊢
        walk_at "rd"
        rw [Bool.true_and] at q
        refine ⟨_, R, Ls, e, k, rfl, hp, ke, ?_⟩
        by_cases hn : numsB e R 0 1 = true
        · rw [hn, Bool.true_and] at q
          rw [hn]
          walk_at "rd"
          refine ⟨_, h4, ?_⟩
          walk_at "rd"
          exact ⟨g, 0, some ((pgs.length : Int) - 1), rfl, gd_plain kg.th.g, fin (by rw [h5]; exact q)⟩
        · rw [eq_false_of_ne_true hn, Bool.false_and] at q
          rw [eq_false_of_ne_true hn]
          walk_at "rd"
          exact fin q
      · rw [eq_false_of_ne_true hw, Bool.false_and] at q
        rw [eq_false_of_ne_true hw]
        walk_at "rd"
        exact fin q
    · rw [spot_not ht] at q
      have hz : ¬ zs.length = 3 := fun z => ht (by simp [isTup, z])
      first | rw [if_pos (by omega)] | rw [if_neg (by omega)]
      exact fin q
  | _ => walk_at "rd"; exact fin q
def sp__law_is_gate : DSp := sp_is_exit
theorem rd__law_is_gate (K : PySem.W.Frag) : ∀ ds s Q, sp__law_is_gate ds s Q → t__law_is_gate K sp__law_is_ended sp__law_whole sp__law_is_word (endsOf Q) (startD N__law_is_gate ds) s := by
  rintro ds s Q ⟨p, b, R, Ls, B, d, k, rfl, hp, hb, hd, q⟩
  obtain ⟨ys, pgs, rfl, h4, h5⟩ := hb.pages
  unfold t__law_is_gate N__law_is_gate
  cases d with
  | ref a => exact absurd hd.th.g (by simp [gd])
  | tup zs =>
    walk_at "rd"
    by_cases ht : isTup (.tup zs) 3 3 = true
    · obtain ⟨a, e, g, rfl⟩ := len3 ht
      have ka : Ok k a := hd.sub (by simp)
      have ke : Ok k e := hd.sub (by simp)
      have kg : Ok k g := hd.sub (by simp)
      simp only [gateB] at q
      walk_at "rd"
      refine ⟨a, rfl, ka.th.g, ?_⟩
      by_cases hw : nameB a = true
      · rw [hw] at q ⊢
        walk_at "rd"
        rw [Bool.true_and] at q
        refine ⟨_, R, Ls, e, k, rfl, hp, ke, ?_⟩
        by_cases hn : numsB e R 0 1 = true
        · rw [hn, Bool.true_and] at q
          rw [hn]
          walk_at "rd"
          refine ⟨_, h4, ?_⟩
          walk_at "rd"
          exact ⟨g, 0, some ((pgs.length : Int) - 1), rfl, gd_plain kg.th.g, fin (by rw [h5]; exact q)⟩
        · rw [eq_false_of_ne_true hn, Bool.false_and] at q
          rw [eq_false_of_ne_true hn]
          walk_at "rd"
          exact fin q
      · rw [eq_false_of_ne_true hw, Bool.false_and] at q
        rw [eq_false_of_ne_true hw]
        walk_at "rd"
        exact fin q
    · rw [gate_not ht] at q
      have hz : ¬ zs.length = 3 := fun z => ht (by simp [isTup, z])
      first | rw [if_pos (by omega)] | rw [if_neg (by omega)]
      exact fin q
  | _ => walk_at "rd"; exact fin q
/-- a for that returns False at the first thing that fails -/
theorem for_all {i : Nat} {tb : TDS} {G : S → Prop} {E : EndsD} {s : S} (f : D → Bool) (sg : Option D → DS) (hsg : ∀ o d, (sg o).set i (some d) = sg (some d)) (hG : G s) :
    ∀ (ds : List D) (o : Option D), (∀ d ∈ ds, ∀ (N : DS → S → Prop), (f d = true → N (sg (some d)) s) → tb { E with nx := N, ct := N, bk := E.nx } (sg (some d)) s) →
      (ds.all f = true → ∀ o, E.nx (sg o) s) → forD (dgName i) tb G E ds (sg o) s
  | [], o, _, h => ⟨hG, h rfl o⟩
  | d :: ds, o, hb, h => by
    refine ⟨hG, ?_⟩
    show tb _ ((sg o).set i (some d)) s
    rw [hsg]
    refine hb d List.mem_cons_self _ fun hf => ?_
    exact for_all f sg hsg hG ds (some d) (fun d m => hb d (List.mem_cons_of_mem _ m)) (fun ha o => h (by rw [List.all_cons, hf, ha]; rfl) o)
theorem pairB_duo {d : D} (h : ¬ duo d = true) : pairB d = false := by
  cases hq : pairB d with
  | false => rfl
  | true =>
    unfold pairB at hq
    split at hq
    · exact absurd (by simp [duo, isTup]) h
    · cases hq
def sp__law_is_pairs : DSp := fun ds s Q => ∃ d k, ds = [d] ∧ Ok k d ∧ Q (.bl (match d with | .tup xs => xs.all pairB | _ => false)) s
theorem rd__law_is_pairs (K : PySem.W.Frag) : ∀ ds s Q, sp__law_is_pairs ds s Q → t__law_is_pairs K sp__law_whole (endsOf Q) (startD N__law_is_pairs ds) s := by
  rintro ds s Q ⟨d, k, rfl, hd, q⟩
  unfold t__law_is_pairs N__law_is_pairs
  cases d with
  | ref a => exact absurd hd.th.g (by simp [gd])
  | tup ps =>
    walk_at "rd"
    simp only at q
    refine for_all pairB (fun o => [some (.tup ps), o]) (fun o d => rfl) trivial ps none (fun d m N hN => ?_) (fun h o => ?_)
    · have pd := hd.plain_mem m
      by_cases h2 : duo d = true
      · obtain ⟨a, e, rfl⟩ := len2 h2
        have g := hd.th.g
        rw [gd_t] at g
        have g2 := gds_mem g _ m
        rw [gd_t] at g2
        walk_at "rd"
        rw [if_neg (by decide)]
        refine ⟨e, 0, none, rfl, gd_plain (gds_mem g2 e (by simp)), ?_⟩
        simp only [pairB] at hN
        by_cases hw : wholeB e 0 none = true
        · rw [hw] at hN ⊢
          walk_at "rd"
          exact hN rfl
        · rw [eq_false_of_ne_true hw]
          walk_at "rd"
          have : ps.all pairB = false := List.all_eq_false.mpr ⟨_, m, by simp only [pairB]; exact hw⟩
          rw [this] at q; exact fin q
      · have : ps.all pairB = false := List.all_eq_false.mpr ⟨d, m, by rw [pairB_duo h2]; simp⟩
        rw [this] at q
        cases d with
        | ref a => exact pd.elim
        | tup xs =>
          walk_at "rd"
          have hz : ¬ xs.length = 2 := fun z => h2 (by simp [duo, isTup, z])
          first | rw [if_pos (by omega)] | rw [if_neg (by omega)]
          exact fin q
        | _ => walk_at "rd"; exact fin q
    · walk_at "rd"
      rw [h] at q; exact fin q
  | _ => walk_at "rd"; exact fin q
/-- rows of tuples, their firsts ascending -/
def sp__law_climbs : DSp := fun ds s Q => ∃ xs, ds = [.tup xs] ∧ xs.length ≤ 100000 ∧ (∀ x ∈ xs, ∃ a r, x = .tup (a :: r)) ∧ (∀ x ∈ xs, ∃ ys, fstD x = .tup ys ∧ (fstD x).fine = true) ∧ (∀ x ∈ xs, ∀ y ∈ xs, D.alike (fstD x) (fstD y) = true) ∧ Q (.bl (climb (xs.map fstD))) s
theorem climb_at : ∀ (xs : List D), climb xs = true ↔ ∀ i x y, xs[i]? = some x → xs[i + 1]? = some y → D.lt x y = true
  | [] => by simp [climb]
  | [_] => by simp [climb]
  | a :: b :: r => by
    rw [climb, Bool.and_eq_true, climb_at (b :: r)]
    constructor
    · rintro ⟨h1, h2⟩ i x y hx hy
      cases i with
      | zero => simp at hx hy; subst hx hy; exact h1
      | succ i => exact h2 i x y (by simpa using hx) (by simpa using hy)
    · intro h
      exact ⟨h 0 a b rfl rfl, fun i x y hx hy => h (i + 1) x y (by simpa using hx) (by simpa using hy)⟩
theorem rd__law_climbs (K : PySem.W.Frag) : ∀ ds s Q, sp__law_climbs ds s Q → t__law_climbs K (endsOf Q) (startD N__law_climbs ds) s := by
  rintro ds s Q ⟨xs, rfl, hl, hc, hf, ha, q⟩
  unfold t__law_climbs N__law_climbs
  walk_at "rd"
  refine ⟨by omega, by omega, ?_⟩
  have key : ∀ i : Nat, i < ((xs.length : Int) - 1).toNat → ∃ x y, xs[i]? = some x ∧ xs[i + 1]? = some y := fun i hi => ⟨xs[i], xs[i + 1], by simp, by simp⟩
  refine for_all (fun d => match d with | .int j => D.lt (fstD (xs.getD j.toNat .non)) (fstD (xs.getD (j.toNat + 1) .non)) | _ => false) (fun o => [some (.tup xs), o]) (fun o d => rfl) trivial _ none (fun d m N hN => ?_) (fun h o => ?_)
  · obtain ⟨i, hi, rfl⟩ := List.mem_map.mp m
    have hi := List.mem_range.mp hi
    obtain ⟨x, y, hx, hy⟩ := key i hi
    have mx := List.mem_of_getElem? hx
    have my := List.mem_of_getElem? hy
    obtain ⟨a, r, rfl⟩ := hc x mx
    obtain ⟨b, t, rfl⟩ := hc y my
    have e1 : ((0 : Int) + (i : Nat)).toNat = i := by omega
    simp only [e1, List.getD_eq_getElem?_getD, hx, hy, Option.getD_some, fstD] at hN
    obtain ⟨ya, ea, fa⟩ := hf _ mx
    obtain ⟨yb, eb, fb⟩ := hf _ my
    have al := ha _ mx _ my
    simp only [fstD] at ea fa eb fb al
    subst ea eb
    walk_at "rd"
    refine ⟨_, atI_int (by omega) (by rw [e1]; exact hx), ?_⟩
    walk_at "rd"
    have e2 : ((0 : Int) + (i : Nat) + 1).toNat = i + 1 := by omega
    refine ⟨_, atI_int (by omega) (by rw [e2]; exact hy), ?_⟩
    walk_at "rd"
    refine ⟨fa, fb, al, ?_⟩
    by_cases hlt : D.lt (.tup ya) (.tup yb) = true
    · rw [hlt] at hN ⊢
      walk_at "rd"
      exact hN rfl
    · rw [eq_false_of_ne_true hlt]
      walk_at "rd"
      have : climb (xs.map fstD) = false := by
        cases hcl : climb (xs.map fstD) with
        | false => rfl
        | true => exact absurd ((climb_at _).mp hcl i (.tup ya) (.tup yb) (by rw [List.getElem?_map, hx]; rfl) (by rw [List.getElem?_map, hy]; rfl)) hlt
      rw [this] at q; exact fin q
  · have : climb (xs.map fstD) = true := by
      refine (climb_at _).mpr fun i x y hx hy => ?_
      rw [List.getElem?_map] at hx hy
      obtain ⟨x', hx', rfl⟩ := Option.map_eq_some_iff.mp hx
      obtain ⟨y', hy', rfl⟩ := Option.map_eq_some_iff.mp hy
      have hi : i + 1 < xs.length := (List.getElem?_eq_some_iff.mp hy').1
      have := List.all_eq_true.mp h (.int ((0 : Int) + (i : Nat))) (List.mem_map.mpr ⟨i, List.mem_range.mpr (by omega), rfl⟩)
      have e1 : ((0 : Int) + (i : Nat)).toNat = i := by omega
      simpa only [e1, List.getD_eq_getElem?_getD, hx', hy', Option.getD_some] using this
    rw [this] at q
    walk_at "rd"
    exact fin q
end Toy

set_option maxHeartbeats 2000000
namespace Toy
open PySem DL
local macro_rules | `(tactic| walk_at "rd") => `(tactic| simp only [dSeq, dAsg, dRet, dRetN, dIfS, dNext, dDrop, dPar, dVar, dC, dOp, dUn, dAndV, dOrV, dNotV, dIf, dTest, dTru, dAnd, dOr, dNot, dTup, dLst, daNil, daCons, dCall, dCB, dChain, dSl, dPart_i, dNoPart,
  dDGet, dDPut, dAppend, dgName, dgTup, dgNil, dgCons, dFor, dIter, dAug, dLc, dYes, dDisp, dPairs, isC, isCc,
  rAdd_i, rAdd_s, rAdd_t, rAdd_l, rIAdd_i, rIAdd_s, rIAdd_l, rSub_i, rMul_i, rMul_l, rFdiv_i, rMod_i, rPow_i, rNeg_i, rEq_ii, rEq_ss, rEq_ns, rEq_sn, rEq_is, rEq_si, rEq_bs, rEq_sb, rEq_bb, rEq_nn, rEq_tt, rEq_nt, rEq_tn, rLt_i, rLtD_i, rLtD_s, rLtD_t, rIn_ss, rIn_r, rIn_t, inC_l, inC_d, dgSeq_t, dgSeq_l, rSorted_l, iEnum_l, iZip_l, iZip_t, iRev_l, iRev_t, rGt_i, rLe_i, rGe_i, rLe_s, rLt_s,
  rIs_nn, rIs_bb, rIs_in, rIs_sn, rIs_bn, rIs_rn, rIs_tn, rTru_n, rTru_b, rTru_i, rTru_s, rTru_t, rTru_l, rIx_t, rIx_l, rIx_s, rLen_s, rLen_t, rLen_l, rAbs_i, rInt_i, rStr_i, rMax_i, rMin_i, rTupOf_l, rTupOf_t, rListOf_l, rListOf_t, rAll_l, rAny_l, rSum_l,
  rIsi_r, rIsi_n, rIsi_b, rIsi_i, rIsi_s, rIsi_t, iD_t, iD_s, iD_l, iR1, iR2, rSl_t, rSl_s, rSl_l,
  endsOf, startD, List.map_cons, List.map_nil, List.length_cons, List.length_nil, Nat.reduceAdd, Nat.reduceSub, List.replicate, List.cons_append, List.nil_append, List.getElem?_cons_zero, List.getElem?_cons_succ, List.set_cons_zero, List.set_cons_succ,
  Option.some.injEq, exists_eq_left', exists_eq_left, List.cons.injEq, D.int.injEq, D.tup.injEq, D.bl.injEq, D.str.injEq, D.ref.injEq, and_true, true_and, and_self, id_eq, size0, size1, size2, size3, size4, size5, size6, size7, size8, sizel0, sizel1, sizel2, sizel3, sizel4, sizel5, sizel6, sizel7, lenOf_l, lenOf_d, List.length_map, Int.reduceToNat, Int.reducePow, Int.reduceNeg, Int.reduceLT, Int.reduceLE, atI_0, atI_1, atI_2, atI_3, atI_4, reduceCtorEq, false_and, or_false, false_or, exists_const, exists_false, ite_true, ite_false,
  Bool.false_eq_true, if_true, if_false, decide_eq_true_eq, Bool.not_eq_true', decide_eq_false_iff_not, Bool.not_true, Bool.not_false, and_assoc, exists_and_left, D.key, S.set_same, S.set_set, C.lst.injEq, C.dic.injEq, jd_cells, jd_at, jd_turn, jd_stock, jp_at, jp_turn, jp_stock, jd_len, wipeD])

def pairsB (d : D) : Bool := match d with | .tup xs => xs.all pairB | _ => false
theorem rows_pairs {p : D → Bool} {d : D} (h : pairsB d = false) : rowsB p d = false := by
  cases d with
  | tup ps => simp only [pairsB] at h; simp only [rowsB, h, Bool.false_and]
  | _ => rfl
theorem pairs_shape {d : D} (h : pairsB d = true) : ∃ ps, d = .tup ps ∧ ∀ q ∈ ps, ∃ a b, q = .tup [a, b] := by
  cases d with
  | tup ps =>
    refine ⟨ps, rfl, fun q m => ?_⟩
    have := List.all_eq_true.mp h q m
    unfold pairB at this
    split at this
    · exact ⟨_, _, rfl⟩
    · cases this
  | _ => simp [pairsB] at h
theorem climbs_pre {p : D → Bool} {ps : List D} {k : Nat} (hk : k ≤ 50) (hd : Ok (k + 1) (.tup ps)) (hs : ∀ q ∈ ps, ∃ a b, q = .tup [a, b]) (ha : ps.all (fun q => p (fstD q)) = true) (hp : ∀ x, p x = true → ∃ ys, x = .tup ys) (al : ∀ x y, p x = true → p y = true → D.alike x y = true) {Q : QD} {s : S} (q : Q (.bl (climb (ps.map fstD))) s) : sp__law_climbs [.tup ps] s Q := by
  refine ⟨ps, rfl, hd.len, fun x m => ?_, fun x m => ?_, fun x m y n => ?_, q⟩
  · obtain ⟨a, b, e⟩ := hs x m; exact ⟨a, _, e⟩
  · obtain ⟨ys, e⟩ := hp _ (List.all_eq_true.mp ha x m)
    refine ⟨ys, e, ?_⟩
    obtain ⟨a, b, rfl⟩ := hs x m
    have h1 := (hd.sub m).th
    have : Th k a := by
      cases k with
      | zero => have := h1.d; rw [D.dep] at this; omega
      | succ k => exact (h1.sub (by simp)).mono (by omega)
    exact this.fine (by omega)
  · exact al _ _ (List.all_eq_true.mp ha x m) (List.all_eq_true.mp ha y n)
def sp__law_is_block : DSp := sp_is_block
theorem rd__law_is_block (K : PySem.W.Frag) : ∀ ds s Q, sp__law_is_block ds s Q → t__law_is_block K sp__law_climbs sp__law_is_spot sp__law_whole sp__law_is_pairs sp__law_is_gate (endsOf Q) (startD N__law_is_block ds) s := by
  rintro ds s Q ⟨p, b, R, Ls, B, d, k, rfl, hk, hp, hb, hd, q⟩
  unfold t__law_is_block N__law_is_block
  obtain ⟨xs, pr, rfl, h1, h2, h3⟩ := hp.procs
  cases d with
  | ref a => exact absurd hd.th.g (by simp [gd])
  | tup zs =>
    walk_at "rd"
    by_cases ht : isTup (.tup zs) 4 4 = true
    · obtain ⟨f, n, l, h, rfl⟩ := len4 ht
      have kf : Ok (k + 3) f := hd.sub (by simp)
      have kn : Ok (k + 3) n := hd.sub (by simp)
      have kl : Ok (k + 3) l := hd.sub (by simp)
      have kh : Ok (k + 3) h := hd.sub (by simp)
      simp only [blockB] at q
      walk_at "rd"
      rw [if_neg (by decide)]
      refine ⟨_, h1, ?_⟩
      walk_at "rd"
      refine ⟨_, _, R, Ls, B, f, k + 2, pr.length, rfl, hp, hb, kf, ?_⟩
      rw [h2]
      by_cases s1 : spotB R B Ls.length f = true
      · rw [s1] at q ⊢
        rw [Bool.true_and] at q
        walk_at "rd"
        refine ⟨n, 0, none, rfl, gd_plain kn.th.g, ?_⟩
        by_cases s2 : wholeB n 0 none = true
        · rw [s2] at q ⊢
          rw [Bool.true_and] at q
          walk_at "rd"
          refine ⟨l, _, rfl, kl, ?_⟩
          show rTru (.bl (pairsB l)) _ _
          by_cases s3 : pairsB l = true
          · rw [s3]
            walk_at "rd"
            refine ⟨h, _, rfl, kh, ?_⟩
            show rTru (.bl (pairsB h)) _ _
            by_cases s4 : pairsB h = true
            · rw [s4]
              walk_at "rd"
              obtain ⟨ls, rfl, hls⟩ := pairs_shape s3
              obtain ⟨hs, rfl, hhs⟩ := pairs_shape s4
              obtain ⟨i, ns, g, rfl, _, hi0, hi, _⟩ := spot_shape s1
              obtain ⟨nm, pl, h6, h7⟩ := h3 i.toNat (by omega)
              have h8 : Ls.getD i.toNat 0 = pl.length := by rw [List.getD_eq_getElem?_getD, h7]; rfl
              have e1 : ls.all pairB = true := s3
              have e2 : hs.all pairB = true := s4
              simp only [rowsB, e1, e2, Bool.true_and, atF, h8] at q
              refine ⟨_, h1, ?_⟩
              walk_at "rd"
              refine ⟨_, atI_int hi0 h6, ?_⟩
              walk_at "rd"
              intro p1 hp1
              refine all_if (fun q => gateB R B (fstD q)) s ls (fun d m acc Q' q' => ?_) (fun _ => trivial) kl.len hp1 (fun s' u => ?_)
              · obtain ⟨a, e, rfl⟩ := hls d m
                walk_at "rd"
                exact ⟨_, _, R, Ls, B, a, k, rfl, hp, hb, (kl.sub m).sub (by simp), q'⟩
              · by_cases s5 : ls.all (fun q => gateB R B (fstD q)) = true
                · rw [s5, Bool.true_and] at q
                  rw [s5, if_neg (by simp)]
                  intro p2 hp2
                  refine all_if (fun q => spotB R B pl.length (fstD q)) s' hs (fun d m acc Q' q' => ?_) (fun _ => trivial) kh.len hp2 (fun s2 u2 => ?_)
                  · obtain ⟨a, e, rfl⟩ := hhs d m
                    walk_at "rd"
                    exact ⟨_, _, R, Ls, B, a, k, pl.length, rfl, hp, hb, (kh.sub m).sub (by simp), q'⟩
                  · have uu := u.trans u2
                    by_cases s6 : hs.all (fun q => spotB R B pl.length (fstD q)) = true
                    · rw [s6, Bool.true_and] at q
                      rw [s6, if_neg (by simp)]
                      refine climbs_pre (k := k + 2) (by omega) kl hls s5 (fun x e => ?_) (fun x y e e' => alike_gate e e') ?_
                      · obtain ⟨_, _, _, e, _⟩ := gate_shape e; exact ⟨_, e⟩
                      · by_cases s7 : climb (ls.map fstD) = true
                        · rw [s7, Bool.true_and] at q
                          rw [s7]
                          walk_at "rd"
                          refine climbs_pre (k := k + 2) (by omega) kh hhs s6 (fun x e => ?_) (fun x y e e' => alike_spot e e') ⟨s, uu, q⟩
                          obtain ⟨_, _, _, e, _⟩ := spot_shape e; exact ⟨_, e⟩
                        · rw [eq_false_of_ne_true s7, Bool.false_and] at q
                          rw [eq_false_of_ne_true s7]
                          walk_at "rd"
                          exact ⟨s, uu, q⟩
                    · rw [eq_false_of_ne_true s6, Bool.false_and, Bool.and_false] at q
                      rw [eq_false_of_ne_true s6, if_pos rfl]
                      exact ⟨s, uu, q⟩
                · rw [eq_false_of_ne_true s5, Bool.false_and, Bool.false_and] at q
                  rw [eq_false_of_ne_true s5, if_pos rfl]
                  exact ⟨s, u, q⟩
            · rw [rows_pairs (p := spotB R B (atF Ls f)) (eq_false_of_ne_true s4), Bool.and_false] at q
              rw [eq_false_of_ne_true s4]
              walk_at "rd"
              exact fin q
          · rw [rows_pairs (p := gateB R B) (eq_false_of_ne_true s3), Bool.false_and] at q
            rw [eq_false_of_ne_true s3]
            walk_at "rd"
            exact fin q
        · rw [eq_false_of_ne_true s2, Bool.false_and] at q
          rw [eq_false_of_ne_true s2]
          walk_at "rd"
          exact fin q
      · rw [eq_false_of_ne_true s1, Bool.false_and] at q
        rw [eq_false_of_ne_true s1]
        walk_at "rd"
        exact fin q
    · rw [block_not ht] at q
      have hz : ¬ zs.length = 4 := fun z => ht (by simp [isTup, z])
      first | rw [if_pos (by omega)] | rw [if_neg (by omega)]
      exact fin q
  | _ => walk_at "rd"; exact fin q
def sp__law_is_paper : DSp := sp_is_credits
theorem rd__law_is_paper (K : PySem.W.Frag) : ∀ ds s Q, sp__law_is_paper ds s Q → t__law_is_paper K sp__law_climbs sp__law_is_block (endsOf Q) (startD N__law_is_paper ds) s := by
  rintro ds s Q ⟨p, b, R, Ls, B, d, k, rfl, hk, hp, hb, hd, q⟩
  unfold t__law_is_paper N__law_is_paper
  cases d with
  | ref a => exact absurd hd.th.g (by simp [gd])
  | tup zs =>
    walk_at "rd"
    by_cases ht : duo (.tup zs) = true
    · obtain ⟨w, c, e⟩ := len2 ht
      cases e
      have kw : Ok (k + 5) w := hd.sub (by simp)
      have kc : Ok (k + 5) c := hd.sub (by simp)
      walk_at "rd"
      rw [if_neg (by decide)]
      refine rEq_str (kw.th.fine (by omega)) (by decide +kernel) ?_
      refine ⟨_, rfl, ?_⟩
      by_cases hw : w.eqv (.str "credits") = true
      · rw [hw, Bool.not_true, if_neg (by simp)]
        refine isi_tup (gd_plain kc.th.g) ?_
        cases c with
        | tup bs =>
          simp only [creditsB, hw, Bool.true_and] at q
          walk_at "rd"
          intro p1 hp1
          refine all_if (blockB R B Ls) s bs (fun d m acc Q' q' => ?_) (fun _ => trivial) kc.len hp1 (fun s' u => ?_)
          · walk_at "rd"
            exact ⟨_, _, R, Ls, B, d, k, rfl, hk, hp, hb, kc.sub m, q'⟩
          · by_cases hg : bs.all (blockB R B Ls) = true
            · rw [hg, Bool.true_and] at q
              rw [hg, if_neg (by simp)]
              refine ⟨bs, rfl, kc.len, fun q m => ?_, fun q m => ?_, fun x m y n => ?_, ⟨s, u, q⟩⟩
              · obtain ⟨f, r, e, _⟩ := blocks_lc hg q m; exact ⟨f, r, e⟩
              · have kq := kc.sub m
                obtain ⟨f, r, rfl, h1⟩ := blocks_lc hg q m
                obtain ⟨_, _, _, e, _⟩ := spot_shape h1
                exact ⟨_, e, (kq.sub (d := f) (by simp)).th.fine (by omega)⟩
              · obtain ⟨f, r, rfl, h1⟩ := blocks_lc hg x m
                obtain ⟨f', r', rfl, h2⟩ := blocks_lc hg y n
                exact alike_spot h1 h2
            · rw [eq_false_of_ne_true hg, Bool.false_and] at q
              rw [eq_false_of_ne_true hg, if_pos rfl]
              exact ⟨s, u, q⟩
        | ref a => exact absurd kc.th.g (by simp [gd])
        | _ => walk_at "rd"; simpa [creditsB] using fin q
      · rw [eq_false_of_ne_true hw, Bool.not_false, if_pos rfl]
        have : creditsB R B Ls (.tup [w, c]) = false := by
          unfold creditsB
          split
          · rename_i e
            simp only [D.tup.injEq, List.cons.injEq] at e
            rw [← e.1, eq_false_of_ne_true hw, Bool.false_and]
          · rfl
        rw [this] at q
        exact fin q
    · have : creditsB R B Ls (.tup zs) = false := by
        cases h : creditsB R B Ls (.tup zs) with
        | false => rfl
        | true => exact absurd (credits_shape h) ht
      rw [this] at q
      have hz : ¬ zs.length = 2 := fun z => ht (by simp [duo, isTup, z])
      first | rw [if_pos (by omega)] | rw [if_neg (by omega)]
      exact fin q
  | _ => walk_at "rd"; exact fin q
end Toy

set_option maxHeartbeats 2000000
namespace Toy
open PySem DL
local macro_rules | `(tactic| walk_at "rd") => `(tactic| simp only [dSeq, dAsg, dRet, dRetN, dIfS, dNext, dDrop, dPar, dVar, dC, dOp, dUn, dAndV, dOrV, dNotV, dIf, dTest, dTru, dAnd, dOr, dNot, dTup, dLst, daNil, daCons, dCall, dCB, dChain, dSl, dPart_i, dNoPart,
  dDGet, dDPut, dAppend, dgName, dgTup, dgNil, dgCons, dFor, dIter, dAug, dLc, dYes, dDisp, dPairs, isC, isCc,
  rAdd_i, rAdd_s, rAdd_t, rAdd_l, rIAdd_i, rIAdd_s, rIAdd_l, rSub_i, rMul_i, rMul_l, rFdiv_i, rMod_i, rPow_i, rNeg_i, rEq_ii, rEq_ss, rEq_ns, rEq_sn, rEq_is, rEq_si, rEq_bs, rEq_sb, rEq_bb, rEq_nn, rEq_tt, rEq_nt, rEq_tn, rLt_i, rLtD_i, rLtD_s, rLtD_t, rIn_ss, rIn_r, rIn_t, inC_l, inC_d, dgSeq_t, dgSeq_l, rSorted_l, iEnum_l, iZip_l, iZip_t, iRev_l, iRev_t, rGt_i, rLe_i, rGe_i, rLe_s, rLt_s,
  rIs_nn, rIs_bb, rIs_in, rIs_sn, rIs_bn, rIs_rn, rIs_tn, rTru_n, rTru_b, rTru_i, rTru_s, rTru_t, rTru_l, rIx_t, rIx_l, rIx_s, rLen_s, rLen_t, rLen_l, rAbs_i, rInt_i, rStr_i, rMax_i, rMin_i, rTupOf_l, rTupOf_t, rListOf_l, rListOf_t, rAll_l, rAny_l, rSum_l,
  rIsi_r, rIsi_n, rIsi_b, rIsi_i, rIsi_s, rIsi_t, iD_t, iD_s, iD_l, iR1, iR2, rSl_t, rSl_s, rSl_l,
  endsOf, startD, List.map_cons, List.map_nil, List.length_cons, List.length_nil, Nat.reduceAdd, Nat.reduceSub, List.replicate, List.cons_append, List.nil_append, List.getElem?_cons_zero, List.getElem?_cons_succ, List.set_cons_zero, List.set_cons_succ,
  Option.some.injEq, exists_eq_left', exists_eq_left, List.cons.injEq, D.int.injEq, D.tup.injEq, D.bl.injEq, D.str.injEq, D.ref.injEq, and_true, true_and, and_self, id_eq, size0, size1, size2, size3, size4, size5, size6, size7, size8, sizel0, sizel1, sizel2, sizel3, sizel4, sizel5, sizel6, sizel7, lenOf_l, lenOf_d, List.length_map, Int.reduceToNat, Int.reducePow, Int.reduceNeg, Int.reduceLT, Int.reduceLE, atI_0, atI_1, atI_2, atI_3, atI_4, reduceCtorEq, false_and, or_false, false_or, exists_const, exists_false, ite_true, ite_false,
  Bool.false_eq_true, if_true, if_false, decide_eq_true_eq, Bool.not_eq_true', decide_eq_false_iff_not, Bool.not_true, Bool.not_false, and_assoc, exists_and_left, D.key, S.set_same, S.set_set, C.lst.injEq, C.dic.injEq, jd_cells, jd_at, jd_turn, jd_stock, jp_at, jp_turn, jp_stock, jd_len, wipeD])

/-! ### sorted things that differ ascend -/
abbrev tk (d : D) : List (Int ⊕ List Nat) := PySem.W.keyToks d.pd
theorem lt_irr (a : D) : D.lt a a = false := PyProof.Rows.lex_irrefl (O := PyProof.Rows.itemOrd) _
theorem le_tr (a b c : D) (h1 : D.le a b = true) (h2 : D.le b c = true) : D.le a c = true := by
  simp only [D.le, Bool.not_eq_true'] at h1 h2 ⊢
  cases h : D.lt c a with
  | false => rfl
  | true =>
    rcases PyProof.Rows.lex_negTrans (O := PyProof.Rows.itemOrd) _ (tk b) _ h with q | q
    · rw [show D.lt c b = true from q] at h2; cases h2
    · rw [show D.lt b a = true from q] at h1; cases h1
theorem le_tot (a b : D) : (D.le a b || D.le b a) = true := by
  simp only [D.le, Bool.or_eq_true, Bool.not_eq_true']
  cases h : D.lt b a with
  | false => exact .inl rfl
  | true =>
    refine .inr ?_
    cases h2 : D.lt a b with
    | false => rfl
    | true =>
      have t : D.lt b b = true := PyProof.Rows.lex_trans (O := PyProof.Rows.itemOrd) _ _ _ h h2
      rw [lt_irr b] at t; cases t
theorem tk_ne {a b : D} (ha : a.ok = true) (hb : b.ok = true) (al : D.alike a b = true) (h : a.eqv b = false) : tk a ≠ tk b := fun e => by
  have h' : PyData.eqv a.pd b.pd = false := by rw [eqv_pd a b ha hb]; exact h
  have q := (PySem.W.toks_eqv a.pd b.pd al).2 h' [.inl 0] [.inl 1]
  have e' : PySem.W.keyToks a.pd = PySem.W.keyToks b.pd := e
  rw [e', PySem.W.lex_pre, PyProof.Rows.lex_irrefl] at q
  revert q
  decide
theorem climb_sort {ms : List D} (nd : (ms.map tk).Nodup) : climb (sortD ms) = true := by
  have hs := List.pairwise_mergeSort (le := D.le) le_tr (fun a b => le_tot a b) ms
  have hp : ((sortD ms).map tk).Nodup := ((List.mergeSort_perm ms D.le).map tk).nodup_iff.mpr nd
  have go : ∀ l : List D, l.Pairwise (fun a b => D.le a b = true) → (l.map tk).Nodup → climb l = true := by
    intro l
    induction l with
    | nil => intro _ _; rfl
    | cons a l ih =>
      intro h1 h2
      cases l with
      | nil => rfl
      | cons b r =>
        obtain ⟨h3, h4⟩ := List.pairwise_cons.mp h1
        obtain ⟨h5, h6⟩ := List.nodup_cons.mp h2
        rw [climb, ih h4 h6, Bool.and_true]
        have hle := h3 b List.mem_cons_self
        simp only [D.le, Bool.not_eq_true'] at hle
        cases hlt : D.lt a b with
        | true => rfl
        | false =>
          have e := PyProof.Rows.lex_total (O := PyProof.Rows.itemOrd) _ _ hlt hle
          exact absurd (show tk a ∈ (b :: r).map tk by rw [show tk a = tk b from e]; simp) h5
  exact go _ hs hp
/-- a comprehension whose item draws and keeps the thing -/
theorem lc_map {j c : Addr} {b : S} {n : Nat} {g : TDG} {te : TD} {G : S → Prop} {σ : DS} {p : Addr} {QS : S → Prop} (k : Nat) (f : D → D) (P : D → Prop) (hb : b p = none) (hG : ∀ s, Ext j b s → G s) : ∀ (ds acc : List D) (s : S),
    (∀ d ∈ ds, ∀ m s (acc : List D) (N : QD), St j c b (m + k) s → s p = some (.lst acc) → (∀ y s', P y → f y = d → Ext j s s' → Jar s' j c m → N y s') → g d σ s fun σ1 s1 => te σ1 s1 N) →
    St j c b (n + ds.length * k) s → s p = some (.lst acc) → (∀ x ∈ acc, P x) → acc.length + ds.length ≤ 1000000 →
    (∀ acc' s', acc'.map f = acc.map f ++ ds → (∀ x ∈ acc', P x) → St j c b n s' → s' p = some (.lst acc') → QS s') → lcD g dYes te G σ p QS ds s
  | [], acc, s, _, h, hp, ha, _, q => ⟨hG s h.ext, q acc s (by simp) ha (by simpa using h) hp⟩
  | d :: ds, acc, s, hs, h, hp, ha, hl, q => by
    refine ⟨hG s h.ext, ?_⟩
    have hj : p ≠ j := fun z => h.hj (by rw [← z]; exact hb)
    have h' : St j c b (n + ds.length * k + k) s := h.mono (by rw [List.length_cons, Nat.succ_mul]; omega)
    refine hs d List.mem_cons_self _ s acc (fun y s3 => ∃ acc, s3 p = some (.lst acc) ∧ acc.length < sizeLine ∧ lcD g dYes te G σ p QS ds (s3.set p (.lst (acc ++ [y])))) h' hp fun y s' Py fy e J => ?_
    simp only [List.length_cons] at hl
    refine ⟨acc, e p _ hj hp, Nat.lt_of_lt_of_le (show acc.length < 1000001 by omega) (by decide), ?_⟩
    refine lc_map k f P hb hG ds (acc ++ [y]) _ (fun d m => hs d (List.mem_cons_of_mem _ m)) ((h'.next e J).put hb) DL.S.set_same (fun x m => ?_) (by simp only [List.length_append, List.length_cons, List.length_nil]; omega) (fun acc' s' l => q acc' s' (by rw [l, List.map_append, List.append_assoc]; simp [fy]))
    rcases List.mem_append.mp m with m | m
    · exact ha x m
    · rw [List.mem_singleton.mp m]; exact Py
def sp_much : DSp := spG 1 (fun as _ _ => as = []) (fun _ _ d _ => ∃ i : Int, d = .int i ∧ 0 ≤ i)
theorem rd_much (K : PySem.W.Frag) : ∀ ds s Q, sp_much ds s Q → t__law_much K sp_of (endsOf Q) (startD N__law_much ds) s := by
  rintro ds s0 Q ⟨j, c, n, as, rfl, rfl, J, q⟩
  have S00 := St.start J
  unfold t__law_much N__law_much
  walk_at "rd"
  refine ⟨⟨by decide, by decide, by decide⟩, by decide, fun p hp => ?_⟩
  refine of_new S00 hp (by simp) (by decide) fun x s1 m S1 x1 => fin (q _ s1 S1.ext S1.jar ?_)
  simp only [List.mem_cons, List.not_mem_nil, or_false] at m
  rcases m with rfl | rfl | rfl | rfl | rfl | rfl | rfl | rfl | rfl <;> exact ⟨_, rfl, by decide⟩
def sp_priced : DSp := fun ds s Q => ∃ (th : Addr) (xs : List D) (p : D → Bool), s th = some (.lst xs) ∧ xs.length ≤ 10 ∧ (∀ x ∈ xs, p x = true ∧ Th 10 x) ∧ (∀ x, p x = true → ∃ a r, x = .tup (a :: r)) ∧ (∀ x y, p x = true → p y = true → D.alike x y = true) ∧
  spG 20 (fun as _ _ => as = [.ref th]) (fun _ _ d _ => ∃ ps, d = .tup ps ∧ ps.length ≤ xs.length ∧ (∀ q ∈ ps, ∃ x i, q = .tup [x, .int i] ∧ 0 ≤ i ∧ x ∈ xs) ∧ climb (ps.map fstD) = true) ds s Q
theorem rd_priced (K : PySem.W.Frag) : ∀ ds s Q, sp_priced ds s Q → t__law_priced K sp_much (endsOf Q) (startD N__law_priced ds) s := by
  rintro ds s0 Q ⟨th, xs, P, hth, hxl, hx, hP, hal, j, c, n, as, rfl, rfl, J, q⟩
  have S00 := St.start J
  have thj := Jar_ne J hth
  have okx : ∀ x ∈ xs, x.ok = true := fun x m => gd_ok x (hx x m).2.g
  have tupf : ∀ ms : List D, (∀ x ∈ ms, x ∈ xs) → (D.tup ms).fine = true := fun ms hm => (Th.tup (k := 10) fun d m => (hx d (hm d m)).2).fine (by decide)
  unfold t__law_priced N__law_priced
  walk_at "rd"
  intro me hme
  have htm : th ≠ me := ne_of_some hth hme
  have mej := (S00.fresh hme).2.1
  unfold b__law_priced_1
  walk_at "rd"
  refine ⟨xs, by rw [DL.S.set_ne htm]; exact hth, ?_⟩
  refine for_inv (fun i σ s => i ≤ xs.length ∧ ∃ ms o, σ = [some (.ref j), some (.ref th), some (.ref me), o] ∧ St j c s0 (n + 20) s ∧ s me = some (.lst ms) ∧ (ms : List D).length ≤ i ∧ (∀ x ∈ ms, x ∈ xs) ∧ (ms.map tk).Nodup) xs 0 _ _ ?_ ?_ ?_ ?_
  · rintro i σ s ⟨_, ms, o, rfl, S, _⟩; exact S.ext th _ thj hth
  · rintro i d σ s hd ⟨hi, ms, o, rfl, S, e, hml, hms, hnd⟩ N hN
    have hi' : i < xs.length := (List.getElem?_eq_some_iff.mp hd).1
    have md := List.mem_of_getElem? hd
    unfold l__law_priced_1
    walk_at "rd"
    refine ⟨_, e, (hx d md).2.fine (by decide), tupf ms hms, ?_⟩
    refine ⟨_, rfl, ?_⟩
    by_cases hin : (ms.any fun z => z.eqv d) = true
    · rw [hin, Bool.not_true, if_neg (by simp)]
      exact hN _ _ ⟨by omega, ms, _, rfl, S, e, by omega, hms, hnd⟩
    · rw [eq_false_of_ne_true hin, Bool.not_false, if_pos rfl]
      refine ⟨⟨_, e⟩, _, e, size_small' (by omega), ?_⟩
      refine hN _ _ ⟨by omega, ms ++ [d], _, rfl, S.put hme, DL.S.set_same, by rw [List.length_append]; simp; omega, fun x m => ?_, ?_⟩
      · rcases List.mem_append.mp m with m | m
        · exact hms x m
        · rw [List.mem_singleton.mp m]; exact md
      · rw [List.map_append, List.nodup_append]
        refine ⟨hnd, by simp, fun a ha b hb => ?_⟩
        obtain ⟨z, hz, rfl⟩ := List.mem_map.mp ha
        simp at hb
        subst hb
        have hzd : z.eqv d = false := by
          cases h : z.eqv d with
          | false => rfl
          | true => exact absurd (List.any_eq_true.mpr ⟨z, hz, h⟩) hin
        exact tk_ne (okx z (hms z hz)) (okx d md) (hal _ _ (hx z (hms z hz)).1 (hx d md).1) hzd
  · rintro σ s ⟨hi, ms, o, rfl, S, e, hml, hms, hnd⟩
    rw [Nat.zero_add] at hml
    unfold b__law_priced_2
    walk_at "rd"
    have srt : sortable ms = true := by
      unfold DL.sortable
      rw [tupf ms hms]
      simp only [Bool.true_and, Bool.and_eq_true, Bool.or_eq_true, List.all_eq_true]
      refine ⟨fun x m y m' => hal _ _ (hx x (hms x m)).1 (hx y (hms y m')).1, .inl fun x m => ?_⟩
      obtain ⟨a, r, rfl⟩ := hP x (hx x (hms x m)).1
      rfl
    refine ⟨ms, e, srt, fun l hl p hp => ?_⟩
    have Sl : St j c s0 (n + 20) (s.set l (.lst (sortD ms))) := S.new hl
    have plj := Sl.fresh hp
    have Sb : St j c (s.set l (.lst (sortD ms))) (n + 20) (s.set l (.lst (sortD ms))) := St.start Sl.jar
    have hll : (sortD ms).length ≤ 10 := by rw [len_sortD]; omega
    have hlp : l ≠ p := fun z => by rw [← z, DL.S.set_same] at hp; cases hp
    refine lc_map (n := n) 1 fstD (fun y => ∃ x i, y = .tup [x, .int i] ∧ 0 ≤ i ∧ x ∈ xs) hp (fun s' ee => ee l _ (S.fresh hl).2.1 DL.S.set_same) _ [] _ ?_ ((Sb.new hp).mono (by omega)) DL.S.set_same (fun x m => by simp at m) (by simp; omega) ?_
    · intro d hd m s acc N Sx ea hN
      walk_at "rd"
      refine call_g Sx rfl fun y s1 S1 x1 ⟨i, hy, h0⟩ => ?_
      subst hy
      exact hN _ s1 ⟨d, i, rfl, h0, hms d (mem_sortD.mp hd)⟩ rfl x1 S1.jar
    · intro ps s1 hmap hall S1 e1
      have S1b : St j c s0 n s1 := Sl.next S1.ext S1.jar
      simp only [List.map_nil, List.nil_append] at hmap
      refine ⟨ps, e1, fin (q _ s1 S1b.ext S1b.jar ⟨ps, rfl, ?_, hall, ?_⟩)⟩
      · have : ps.length = (sortD ms).length := by rw [← hmap, List.length_map]
        rw [this, len_sortD]; omega
      · rw [hmap]; exact climb_sort hnd
  · exact ⟨by omega, [], _, rfl, S00.new hme, DL.S.set_same, by simp, fun x m => by simp at m, by simp⟩
end Toy

set_option maxHeartbeats 2000000
namespace Toy
open PySem DL
local macro_rules | `(tactic| walk_at "rd") => `(tactic| simp only [dSeq, dAsg, dRet, dRetN, dIfS, dNext, dDrop, dPar, dVar, dC, dOp, dUn, dAndV, dOrV, dNotV, dIf, dTest, dTru, dAnd, dOr, dNot, dTup, dLst, daNil, daCons, dCall, dCB, dChain, dSl, dPart_i, dNoPart,
  dDGet, dDPut, dAppend, dgName, dgTup, dgNil, dgCons, dFor, dIter, dAug, dLc, dYes, dDisp, dPairs, isC, isCc,
  rAdd_i, rAdd_s, rAdd_t, rAdd_l, rIAdd_i, rIAdd_s, rIAdd_l, rSub_i, rMul_i, rMul_l, rFdiv_i, rMod_i, rPow_i, rNeg_i, rEq_ii, rEq_ss, rEq_ns, rEq_sn, rEq_is, rEq_si, rEq_bs, rEq_sb, rEq_bb, rEq_nn, rEq_tt, rEq_nt, rEq_tn, rLt_i, rLtD_i, rLtD_s, rLtD_t, rIn_ss, rIn_r, rIn_t, inC_l, inC_d, dgSeq_t, dgSeq_l, rSorted_l, iEnum_l, iZip_l, iZip_t, iRev_l, iRev_t, rGt_i, rLe_i, rGe_i, rLe_s, rLt_s,
  rIs_nn, rIs_bb, rIs_in, rIs_sn, rIs_bn, rIs_rn, rIs_tn, rTru_n, rTru_b, rTru_i, rTru_s, rTru_t, rTru_l, rIx_t, rIx_l, rIx_s, rLen_s, rLen_t, rLen_l, rAbs_i, rInt_i, rStr_i, rMax_i, rMin_i, rTupOf_l, rTupOf_t, rListOf_l, rListOf_t, rAll_l, rAny_l, rSum_l,
  rIsi_r, rIsi_n, rIsi_b, rIsi_i, rIsi_s, rIsi_t, iD_t, iD_s, iD_l, iR1, iR2, rSl_t, rSl_s, rSl_l,
  endsOf, startD, List.map_cons, List.map_nil, List.length_cons, List.length_nil, Nat.reduceAdd, Nat.reduceSub, List.replicate, List.cons_append, List.nil_append, List.getElem?_cons_zero, List.getElem?_cons_succ, List.set_cons_zero, List.set_cons_succ,
  Option.some.injEq, exists_eq_left', exists_eq_left, List.cons.injEq, D.int.injEq, D.tup.injEq, D.bl.injEq, D.str.injEq, D.ref.injEq, and_true, true_and, and_self, id_eq, size0, size1, size2, size3, size4, size5, size6, size7, size8, sizel0, sizel1, sizel2, sizel3, sizel4, sizel5, sizel6, sizel7, lenOf_l, lenOf_d, List.length_map, Int.reduceToNat, Int.reducePow, Int.reduceNeg, Int.reduceLT, Int.reduceLE, atI_0, atI_1, atI_2, atI_3, atI_4, reduceCtorEq, false_and, or_false, false_or, exists_const, exists_false, ite_true, ite_false,
  Bool.false_eq_true, if_true, if_false, decide_eq_true_eq, Bool.not_eq_true', decide_eq_false_iff_not, Bool.not_true, Bool.not_false, and_assoc, exists_and_left, D.key, S.set_same, S.set_set, C.lst.injEq, C.dic.injEq, jd_cells, jd_at, jd_turn, jd_stock, jp_at, jp_turn, jp_stock, jd_len, wipeD])

/-! ### whole numbers, texts and short tuples of them -/
mutual
def pur : D → Bool
  | .int _ => true
  | .str x => PyData.strOk x && decide (x.length ≤ 100)
  | .tup ds => decide (ds.length ≤ 6) && purs ds
  | .ref _ => false | .non => false | .bl _ => false
def purs : List D → Bool
  | [] => true | d :: ds => pur d && purs ds
end
theorem purs_mem : ∀ {ds : List D}, purs ds = true → ∀ d ∈ ds, pur d = true
  | [], _, d, h => absurd h (by simp)
  | x :: ds, g, d, h => by
    rw [purs, Bool.and_eq_true] at g
    rcases List.mem_cons.mp h with rfl | h
    · exact g.1
    · exact purs_mem g.2 d h
theorem purs_of : ∀ {ds : List D}, (∀ d ∈ ds, pur d = true) → purs ds = true
  | [], _ => by rw [purs]
  | x :: ds, h => by rw [purs, h x List.mem_cons_self, purs_of fun d hd => h d (List.mem_cons_of_mem _ hd)]; rfl
structure Pu (k : Nat) (d : D) : Prop where
  p : pur d = true
  d : d.dep ≤ k
theorem Pu.mono {j k : Nat} {d : D} (h : Pu j d) (l : j ≤ k) : Pu k d := ⟨h.p, Nat.le_trans h.d l⟩
theorem Pu.int {k : Nat} (i : Int) : Pu k (.int i) := ⟨by rw [pur], by rw [D.dep]; omega⟩
theorem Pu.str {k : Nat} {x : Str} (h : PyData.strOk x = true) (l : x.length ≤ 100) : Pu k (.str x) := ⟨by rw [pur, h]; simpa using l, by rw [D.dep]; omega⟩
theorem Pu.tup {k : Nat} {ds : List D} (h : ∀ d ∈ ds, Pu k d) (l : ds.length ≤ 6) : Pu (k + 1) (.tup ds) :=
  ⟨by rw [pur, purs_of fun d m => (h d m).p]; simpa using l, by rw [D.dep]; have := deps_le fun d m => (h d m).d; omega⟩
theorem Pu.sub {k : Nat} {ds : List D} (h : Pu (k + 1) (.tup ds)) {d : D} (m : d ∈ ds) : Pu k d := by
  have h1 := h.p; have h2 := h.d
  rw [pur, Bool.and_eq_true] at h1; rw [D.dep] at h2
  have := deps_mem m
  exact ⟨purs_mem h1.2 d m, by omega⟩
theorem Pu.len {k : Nat} {ds : List D} (h : Pu k (.tup ds)) : ds.length ≤ 6 := by
  have h1 := h.p
  rw [pur, Bool.and_eq_true] at h1
  simpa using h1.1
mutual
theorem pur_ok : ∀ d : D, pur d = true → gd d = true ∧ slim d = true
  | .int _, _ => ⟨by rw [gd], by rw [slim]⟩
  | .str x, h => by
    rw [pur, Bool.and_eq_true] at h
    have h2 : x.length ≤ 100 := by simpa using h.2
    exact ⟨by rw [gd, h.1]; simp; omega, by rw [slim]⟩
  | .tup ds, h => by
    rw [pur, Bool.and_eq_true] at h
    have h2 : ds.length ≤ 6 := by simpa using h.1
    obtain ⟨a, b⟩ := purs_ok ds h.2
    exact ⟨by rw [gd, a], by rw [slim, b]; simp; omega⟩
  | .ref _, h => by rw [pur] at h; cases h
  | .non, h => by rw [pur] at h; cases h
  | .bl _, h => by rw [pur] at h; cases h
theorem purs_ok : ∀ ds : List D, purs ds = true → gds ds = true ∧ slims ds = true
  | [], _ => ⟨by rw [gds], by rw [slims]⟩
  | d :: ds, h => by
    rw [purs, Bool.and_eq_true] at h
    obtain ⟨a, b⟩ := pur_ok d h.1
    obtain ⟨a', b'⟩ := purs_ok ds h.2
    exact ⟨by rw [gds, a, a']; rfl, by rw [slims, b, b']; rfl⟩
end
theorem Pu.ok {k : Nat} {d : D} (h : Pu k d) : Ok k d := ⟨⟨(pur_ok d h.p).1, h.d⟩, (pur_ok d h.p).2⟩
theorem pu_spot {R B m : Nat} {d : D} (h : spotB R B m d = true) (hR : R ≤ 2) : Pu 2 d := by
  obtain ⟨a, ns, g, rfl, h1, _⟩ := spot_shape h
  refine Pu.tup (fun d m => ?_) (by simp)
  simp only [List.mem_cons, List.not_mem_nil, or_false] at m
  rcases m with rfl | rfl | rfl
  · exact .int _
  · refine Pu.tup (fun d m => ?_) (by rw [List.length_map]; omega)
    obtain ⟨i, _, rfl⟩ := List.mem_map.mp m
    exact .int _
  · exact .int _
theorem pu_gate {R B : Nat} {d : D} (h : gateB R B d = true) (hR : R ≤ 2) : Pu 2 d := by
  obtain ⟨x, ns, g, rfl, h1, hx⟩ := gate_shape h
  have nm : Nm x := ⟨hx⟩
  refine Pu.tup (fun d m => ?_) (by simp)
  simp only [List.mem_cons, List.not_mem_nil, or_false] at m
  rcases m with rfl | rfl | rfl
  · exact .str nm.ok (by have := nm.len; omega)
  · refine Pu.tup (fun d m => ?_) (by rw [List.length_map]; omega)
    obtain ⟨i, _, rfl⟩ := List.mem_map.mp m
    exact .int _
  · exact .int _
def sp_spot : DSp := fun ds s Q => ∃ p b R Ls B, ∃ m : Nat, Pg p R Ls ∧ Bk b B ∧ R ≤ 2 ∧ 1 ≤ m ∧ m ≤ 1000 ∧ spG 10 (fun as _ _ => as = [p, b, .int m]) (fun _ _ d _ => spotB R B m d = true) ds s Q
theorem nums_of {n : Nat} {lo hi : Int} : ∀ {xs : List D}, xs.length = n → (∀ x ∈ xs, ∃ i, x = .int i ∧ lo ≤ i ∧ i ≤ hi) → numsB (.tup xs) n lo hi = true := by
  intro xs hl h
  simp only [numsB, hl, decide_true, Bool.true_and, List.all_eq_true]
  intro x m
  obtain ⟨i, rfl, h1, h2⟩ := h x m
  simp [wholeB, h1, h2]
theorem rd_spot (K : PySem.W.Frag) : ∀ ds s Q, sp_spot ds s Q → t__law_spot K sp_one_in sp_draw (endsOf Q) (startD N__law_spot ds) s := by
  rintro ds s0 Q ⟨p, b, R, Ls, B, m, hp, hb, hR, hm1, hm2, j, c, n, as, rfl, rfl, J, q⟩
  have S00 := St.start J
  obtain ⟨xs, rs, rfl, h1, h2⟩ := hp.rows
  obtain ⟨ys, pgs, rfl, h4, h5⟩ := hb.pages
  have hB1 := hb.pos
  have hB2 := hb.small
  unfold t__law_spot N__law_spot
  walk_at "rd"
  refine call_g (n := n + 9) (S00.mono (by omega)) ⟨3, rfl, by decide, by decide⟩ fun d s1 S1 x1 ⟨t, ht⟩ => ?_
  subst ht
  rw [rTru_b]
  -- the end
  have last : ∀ (a g : Int) s, 0 ≤ a → a < m → 0 ≤ g → g < B → St j c s0 (n + 5) s → ∃ d, L2.atI xs 3 = some d ∧ iD (fun J s1 => ∀ p, s1 p = none → lcD (dgName 6) dYes (dCall sp_draw (daCons (dVar 0) (daCons (dC (.int 2)) daNil))) J.G [some (.ref j), some (.tup xs), some (.tup ys), some (.int m), some (.int a), some (.int g), none] p
      (fun s1 => ∃ ds, s1 p = some (.lst ds) ∧ ∃ s'', Sub s'' s1 ∧ Q (.tup [.int a, .tup ds, .int g]) s'') J.ds (s1.set p (.lst []))) d s := by
    intro a g s ha0 ha1 hg0 hg1 S
    refine ⟨_, h1, ?_⟩
    rw [iD_t]
    intro p hp
    refine lc_jar (n := n) 1 (fun y _ => ∃ i : Int, y = .int i ∧ 0 ≤ i ∧ i ≤ 1) (S.fresh hp).1 (fun _ _ => trivial) (fun _ _ _ h _ => h) (fun _ _ _ h => h) _ [] _ ?_ ((S.new hp).mono (by simp; omega)) DL.S.set_same (fun x m => by simp at m) (by simp; omega) ?_
    · intro d hd m s acc N Sx ea hN
      walk_at "rd"
      refine draw_g Sx (by decide) (by decide) fun r s2 r0 r1 S2 x2 => hN _ s2 ⟨r, rfl, r0, by omega⟩ x2 S2.jar
    · intro es s2 hel hes S2 ee
      refine ⟨es, ee, fin (q _ s2 S2.ext S2.jar ?_)⟩
      have hn : numsB (.tup es) R 0 1 = true := nums_of (by rw [hel, h2]; simp) hes
      simp only [spotB, hn, Bool.true_and, wholeB, Bool.and_eq_true, decide_eq_true_eq]
      omega
  have page : ∀ (a : Int) s, 0 ≤ a → a < m → St j c s0 (n + 8) s → sp_one_in [.ref j, .int 3] s fun x s' => rTru x s' fun k s1 => if k = true then ∃ d, L2.atI ys 3 = some d ∧ rLenD [d] s1 fun x s1 => rSub x (.int 1) s1 fun x s1 => ∃ d, L2.atI xs 3 = some d ∧ iD (fun J s1 => ∀ p, s1 p = none → lcD (dgName 6) dYes (dCall sp_draw (daCons (dVar 0) (daCons (dC (.int 2)) daNil))) J.G [some (.ref j), some (.tup xs), some (.tup ys), some (.int m), some (.int a), some x, none] p
      (fun s1 => ∃ ds, s1 p = some (.lst ds) ∧ ∃ s'', Sub s'' s1 ∧ Q (.tup [.int a, .tup ds, x]) s'') J.ds (s1.set p (.lst []))) d s1
      else ∃ d, L2.atI ys 3 = some d ∧ rLenD [d] s1 fun x s1 => sp_draw [.ref j, x] s1 fun x s1 => ∃ d, L2.atI xs 3 = some d ∧ iD (fun J s1 => ∀ p, s1 p = none → lcD (dgName 6) dYes (dCall sp_draw (daCons (dVar 0) (daCons (dC (.int 2)) daNil))) J.G [some (.ref j), some (.tup xs), some (.tup ys), some (.int m), some (.int a), some x, none] p
      (fun s1 => ∃ ds, s1 p = some (.lst ds) ∧ ∃ s'', Sub s'' s1 ∧ Q (.tup [.int a, .tup ds, x]) s'') J.ds (s1.set p (.lst []))) d s1 := by
    intro a s ha0 ha1 S
    refine call_g (n := n + 7) (S.mono (by omega)) ⟨3, rfl, by decide, by decide⟩ fun d s1 S1 x1 ⟨t, ht⟩ => ?_
    subst ht
    rw [rTru_b]
    cases t
    · rw [if_neg (by decide)]
      refine ⟨_, h4, ?_⟩
      rw [rLen_t, h5]
      refine draw_g (n := n + 6) (S1.mono (by omega)) (by omega) (by omega) fun r s2 r0 r1 S2 x2 => ?_
      exact last a r s2 ha0 ha1 r0 (by omega) (S2.mono (by omega))
    · rw [if_pos rfl]
      refine ⟨_, h4, ?_⟩
      rw [rLen_t, h5, rSub_i]
      exact last a _ s1 ha0 ha1 (by omega) (by omega) (S1.mono (by omega))
  cases t
  · rw [if_neg (by decide)]
    refine draw_g (n := n + 8) (S1.mono (by omega)) (by omega) (by omega) fun r s2 r0 r1 S2 x2 => ?_
    exact page r s2 r0 r1 S2
  · rw [if_pos rfl]
    exact page _ s1 (by omega) (by omega) (S1.mono (by omega))
end Toy

set_option maxHeartbeats 2000000
namespace Toy
open PySem DL
local macro_rules | `(tactic| walk_at "rd") => `(tactic| simp only [dSeq, dAsg, dRet, dRetN, dIfS, dNext, dDrop, dPar, dVar, dC, dOp, dUn, dAndV, dOrV, dNotV, dIf, dTest, dTru, dAnd, dOr, dNot, dTup, dLst, daNil, daCons, dCall, dCB, dChain, dSl, dPart_i, dNoPart,
  dDGet, dDPut, dAppend, dgName, dgTup, dgNil, dgCons, dFor, dIter, dAug, dLc, dYes, dDisp, dPairs, isC, isCc,
  rAdd_i, rAdd_s, rAdd_t, rAdd_l, rIAdd_i, rIAdd_s, rIAdd_l, rSub_i, rMul_i, rMul_l, rFdiv_i, rMod_i, rPow_i, rNeg_i, rEq_ii, rEq_ss, rEq_ns, rEq_sn, rEq_is, rEq_si, rEq_bs, rEq_sb, rEq_bb, rEq_nn, rEq_tt, rEq_nt, rEq_tn, rLt_i, rLtD_i, rLtD_s, rLtD_t, rIn_ss, rIn_r, rIn_t, inC_l, inC_d, dgSeq_t, dgSeq_l, rSorted_l, iEnum_l, iZip_l, iZip_t, iRev_l, iRev_t, rGt_i, rLe_i, rGe_i, rLe_s, rLt_s,
  rIs_nn, rIs_bb, rIs_in, rIs_sn, rIs_bn, rIs_rn, rIs_tn, rTru_n, rTru_b, rTru_i, rTru_s, rTru_t, rTru_l, rIx_t, rIx_l, rIx_s, rLen_s, rLen_t, rLen_l, rAbs_i, rInt_i, rStr_i, rMax_i, rMin_i, rTupOf_l, rTupOf_t, rListOf_l, rListOf_t, rAll_l, rAny_l, rSum_l,
  rIsi_r, rIsi_n, rIsi_b, rIsi_i, rIsi_s, rIsi_t, iD_t, iD_s, iD_l, iR1, iR2, rSl_t, rSl_s, rSl_l,
  endsOf, startD, List.map_cons, List.map_nil, List.length_cons, List.length_nil, Nat.reduceAdd, Nat.reduceSub, List.replicate, List.cons_append, List.nil_append, List.getElem?_cons_zero, List.getElem?_cons_succ, List.set_cons_zero, List.set_cons_succ,
  Option.some.injEq, exists_eq_left', exists_eq_left, List.cons.injEq, D.int.injEq, D.tup.injEq, D.bl.injEq, D.str.injEq, D.ref.injEq, and_true, true_and, and_self, id_eq, size0, size1, size2, size3, size4, size5, size6, size7, size8, sizel0, sizel1, sizel2, sizel3, sizel4, sizel5, sizel6, sizel7, lenOf_l, lenOf_d, List.length_map, Int.reduceToNat, Int.reducePow, Int.reduceNeg, Int.reduceLT, Int.reduceLE, atI_0, atI_1, atI_2, atI_3, atI_4, reduceCtorEq, false_and, or_false, false_or, exists_const, exists_false, ite_true, ite_false,
  Bool.false_eq_true, if_true, if_false, decide_eq_true_eq, Bool.not_eq_true', decide_eq_false_iff_not, Bool.not_true, Bool.not_false, and_assoc, exists_and_left, D.key, S.set_same, S.set_set, C.lst.injEq, C.dic.injEq, jd_cells, jd_at, jd_turn, jd_stock, jp_at, jp_turn, jp_stock, jd_len, wipeD])

theorem drop_1 (x : D) (xs : List D) : cutD (x :: xs) (some 1) none = xs := by rw [cut_1]; rfl
/-- pairs of a key and an amount, in form -/
theorem rows_of {p : D → Bool} {ps : List D} (h : ∀ q ∈ ps, ∃ x i, q = .tup [x, .int i] ∧ 0 ≤ i ∧ p x = true) (hc : climb (ps.map fstD) = true) : rowsB p (.tup ps) = true := by
  simp only [rowsB, hc, Bool.and_true, Bool.and_eq_true, List.all_eq_true]
  refine ⟨fun q m => ?_, fun q m => ?_⟩
  · obtain ⟨x, i, rfl, h0, _⟩ := h q m
    simp [pairB, wholeB, h0]
  · obtain ⟨x, i, rfl, _, hx⟩ := h q m
    exact hx
theorem pu_rows {p : D → Bool} {ps : List D} (h : ∀ q ∈ ps, ∃ x i, q = .tup [x, .int i] ∧ 0 ≤ i ∧ p x = true) (hp : ∀ x, p x = true → Pu 2 x) (l : ps.length ≤ 6) : Pu 4 (.tup ps) := by
  refine Pu.tup (fun q m => ?_) l
  obtain ⟨x, i, rfl, _, hx⟩ := h q m
  refine Pu.tup (fun d m => ?_) (by simp)
  simp only [List.mem_cons, List.not_mem_nil, or_false] at m
  rcases m with rfl | rfl
  · exact hp _ hx
  · exact .int _
structure Paper (R B : Nat) (Ls : List Nat) (d : D) : Prop where
  ok : creditsB R B Ls d = true
  pu : Pu 7 d
  bs : ∃ bs, d = .tup [.str (Str.ofString "credits"), .tup bs]
theorem cred_ok : PyData.strOk (Str.ofString "credits") = true ∧ (Str.ofString "credits").length ≤ 100 := by decide +kernel
def sp_formed : DSp := fun ds s Q => ∃ p b R Ls B, Pg p R Ls ∧ Bk b B ∧ R ≤ 2 ∧ spG 1500 (fun as _ _ => as = [p, b]) (fun _ _ d _ => Paper R B Ls d) ds s Q
theorem spot_tup {R B m : Nat} {x : D} (h : spotB R B m x = true) : ∃ a r, x = .tup (a :: r) := by
  obtain ⟨a, ns, g, rfl, _⟩ := spot_shape h; exact ⟨_, _, rfl⟩
theorem gate_tup {R B : Nat} {x : D} (h : gateB R B x = true) : ∃ a r, x = .tup (a :: r) := by
  obtain ⟨a, ns, g, rfl, _⟩ := gate_shape h; exact ⟨_, _, rfl⟩
theorem rd_formed (K : PySem.W.Frag) : ∀ ds s Q, sp_formed ds s Q → t__law_formed K sp_priced sp_spot sp_draw sp_stem (endsOf Q) (startD N__law_formed ds) s := by
  rintro ds s0 Q ⟨p, b, R, Ls, B, hp, hb, hR, j, c, n, as, rfl, rfl, J, q⟩
  have S00 := St.start J
  obtain ⟨xs, prs, e, h1, h2, h3⟩ := hp.procs
  subst e
  unfold t__law_formed N__law_formed
  walk_at "rd"
  intro bl hbl
  have blj := (S00.fresh hbl).2.1
  unfold b__law_formed_1
  walk_at "rd"
  refine draw_g (n := n + 1490) ((S00.new hbl).mono (by omega)) (by decide) (by decide) fun r s1 r0 r1 S1 x1 => ?_
  have ebl1 := x1 bl _ blj S.set_same
  walk_at "rd"
  refine ⟨by omega, by omega, fun l1 hl1 => ?_⟩
  have ne1 : bl ≠ l1 := ne_of_some ebl1 hl1
  have hrl : (rngD 0 r.toNat).length ≤ 4 := by rw [rng_len]; omega
  have Sb1 : St j c s1 (n + 1490) s1 := St.start S1.jar
  refine lc_jar (n := n + 1400) 10 (fun y _ => spotB R B Ls.length y = true) hl1 (fun _ _ => trivial) (fun _ _ _ h _ => h) (fun _ _ _ h => h) _ [] _ ?_ ((Sb1.new hl1).mono (by omega)) S.set_same (fun x m => by simp at m) (by simp; omega) ?_
  · intro d hd m s acc N Sx ea hN
    walk_at "rd"
    refine ⟨_, h1, ?_⟩
    walk_at "rd"
    refine ⟨_, _, R, Ls, B, prs.length, hp, hb, hR, by rw [h2]; exact hp.pos, by rw [h2]; exact hp.small.2.1, call_g Sx rfl fun y s2 S2 x2 hy => ?_⟩
    rw [h2] at hy
    exact hN y s2 hy x2 S2.jar
  intro fs s2 hfl hfs S2 ef
  have S2b : St j c s0 (n + 1400) s2 := S1.next S2.ext S2.jar
  have ebl2 := S2.ext bl _ blj ebl1
  refine ⟨l1, fs, spotB R B Ls.length, ef, by simp at hfl; omega, fun x m => ⟨hfs x m, (pu_spot (hfs x m) hR).ok.th.mono (by decide)⟩, fun x hx => spot_tup hx, fun x y hx hy => alike_spot hx hy, ?_⟩
  refine call_g (n := n + 1300) (S2b.mono (by omega)) rfl fun d s3 S3 x3 ⟨ps, hd, hpl, hps, hcl⟩ => ?_
  subst hd
  have ebl3 := x3 bl _ blj ebl2
  have hpl4 : ps.length ≤ 4 := by simp at hfl; omega
  unfold b__law_formed_2
  walk_at "rd"
  refine for_inv (fun i σ s => i ≤ ps.length ∧ ∃ bs a5 a6 a7 a8 a9, σ = [some (.ref j), some (.tup xs), some b, some (.ref bl), some (.tup ps), a5, a6, a7, a8, a9, none] ∧ St j c s0 (n + (4 - i) * 250) s ∧ s bl = some (.lst bs) ∧ (bs : List D).map fstD = (ps.take i).map fstD ∧ ∀ x ∈ bs, blockB R B Ls x = true ∧ Pu 5 x) ps 0 _ _ (fun _ _ _ _ => trivial) ?_ ?_ ?_
  · rintro i d σ s hd ⟨hi, bs, a5, a6, a7, a8, a9, rfl, S, ebl, hbm, hbs⟩ N hN
    have hi' : i < ps.length := (List.getElem?_eq_some_iff.mp hd).1
    have md := List.mem_of_getElem? hd
    obtain ⟨x, am, rfl, am0, mx⟩ := hps d md
    have hxs := hfs x mx
    have puf := pu_spot hxs hR
    obtain ⟨fi, ns, g, rfl, _, hf0, hf1, _⟩ := spot_shape hxs
    obtain ⟨nm, pl, h6, h7⟩ := h3 fi.toNat (by omega)
    have h8 : Ls.getD fi.toNat 0 = pl.length := by rw [List.getD_eq_getElem?_getD, h7]; rfl
    have mpl := List.mem_of_getElem? h7
    have hpl1 := hp.all _ mpl
    have hpl2 := hp.small.2.2 _ mpl
    walk_at "rd"
    unfold l__law_formed_1
    walk_at "rd"
    refine ⟨_, h1, ?_⟩
    walk_at "rd"
    refine ⟨_, atI_int hf0 h6, ?_⟩
    walk_at "rd"
    unfold l__law_formed_1_1
    walk_at "rd"
    refine draw_g (n := n + (4 - (0 + i + 1)) * 250 + 249) (S.mono (by omega)) (by decide) (by decide) fun r s1 r0 r1 S1 x1 => ?_
    have eb1 := x1 bl _ blj ebl
    walk_at "rd"
    refine ⟨by omega, by omega, fun l2 hl2 => ?_⟩
    have hrl2 : (rngD 0 r.toNat).length ≤ 3 := by rw [rng_len]; omega
    have Sb2 : St j c s1 (n + (4 - (0 + i + 1)) * 250 + 249) s1 := St.start S1.jar
    refine lc_jar (n := n + (4 - (0 + i + 1)) * 250 + 160) 22 (fun y _ => gateB R B y = true) hl2 (fun _ _ => trivial) (fun _ _ _ h _ => h) (fun _ _ _ h => h) _ [] _ ?_ ((Sb2.new hl2).mono (by omega)) DL.S.set_same (fun x m => by simp at m) (by simp; omega) ?_
    · intro d hd m s acc N Sx ea hN
      walk_at "rd"
      refine call_g (n := m + 10) (Sx.mono (by omega)) rfl fun y s2 S2 x2 ⟨z, hy, hz⟩ => ?_
      subst hy
      refine ⟨_, _, R, Ls, B, 1, hp, hb, hR, by decide, by decide, call_g S2 rfl fun y s3 S3 x3 hy => ?_⟩
      obtain ⟨a, ns, g, rfl, hnl, ha0, ha1, hg0, hg1⟩ := spot_shape hy
      walk_at "rd"
      rw [drop_1]
      refine ⟨by simp only [List.length_cons, List.length_nil]; decide, hN _ s3 ?_ (x2.trans x3) S3.jar⟩
      simp only [spotB, Bool.and_eq_true] at hy
      simp only [gateB, hy.2.1, hy.2.2, nameB, hz.w, Bool.and_self]
    intro es s2 hel hes S2 ee
    have S2b : St j c s0 (n + (4 - (0 + i + 1)) * 250 + 160) s2 := S1.next S2.ext S2.jar
    have eb2 := S2.ext bl _ blj eb1
    have l2j := Jar_ne S2.jar ee
    unfold l__law_formed_1_2
    walk_at "rd"
    refine draw_g (n := n + (4 - (0 + i + 1)) * 250 + 159) S2b (by decide) (by decide) fun r3 s3 r30 r31 S3 x3 => ?_
    have eb3 := x3 bl _ blj eb2
    have ee3 := x3 l2 _ l2j ee
    walk_at "rd"
    refine ⟨by omega, by omega, fun l3 hl3 => ?_⟩
    have hrl3 : (rngD 0 r3.toNat).length ≤ 6 := by rw [rng_len]; omega
    have Sb3 : St j c s3 (n + (4 - (0 + i + 1)) * 250 + 159) s3 := St.start S3.jar
    refine lc_jar (n := n + (4 - (0 + i + 1)) * 250 + 90) 10 (fun y _ => spotB R B pl.length y = true) hl3 (fun _ _ => trivial) (fun _ _ _ h _ => h) (fun _ _ _ h => h) _ [] _ ?_ ((Sb3.new hl3).mono (by omega)) DL.S.set_same (fun x m => by simp at m) (by simp; omega) ?_
    · intro d hd m s acc N Sx ea hN
      walk_at "rd"
      exact ⟨_, _, R, Ls, B, pl.length, hp, hb, hR, hpl1, hpl2, call_g Sx rfl fun y s2 S2 x2 hy => hN y s2 hy x2 S2.jar⟩
    intro ws s4 hwl hws S4 ew
    have S4b : St j c s0 (n + (4 - (0 + i + 1)) * 250 + 90) s4 := S3.next S4.ext S4.jar
    have eb4 := S4.ext bl _ blj eb3
    have ee4 := S4.ext l2 _ l2j ee3
    have l3j := Jar_ne S4.jar ew
    have hel3 : es.length ≤ 3 := by simp at hel; omega
    have hwl6 : ws.length ≤ 6 := by simp at hwl; omega
    unfold l__law_formed_1_3
    walk_at "rd"
    refine ⟨⟨_, eb4⟩, ?_⟩
    refine ⟨l2, es, gateB R B, ee4, by omega, fun x m => ⟨hes x m, (pu_gate (hes x m) hR).ok.th.mono (by decide)⟩, fun x hx => gate_tup hx, fun x y hx hy => alike_gate hx hy, ?_⟩
    refine call_g (n := n + (4 - (0 + i + 1)) * 250 + 60) (S4b.mono (by omega)) rfl fun d s5 S5 x5 ⟨ls, hd, hll, hls, hlc⟩ => ?_
    subst hd
    have eb5 := x5 bl _ blj eb4
    have ew5 := x5 l3 _ l3j ew
    refine ⟨l3, ws, spotB R B pl.length, ew5, by omega, fun x m => ⟨hws x m, (pu_spot (hws x m) hR).ok.th.mono (by decide)⟩, fun x hx => spot_tup hx, fun x y hx hy => alike_spot hx hy, ?_⟩
    refine call_g (n := n + (4 - (0 + i + 1)) * 250) (S5.mono (by omega)) rfl fun d s6 S6 x6 ⟨hs, hd, hhl, hhs, hhc⟩ => ?_
    subst hd
    have eb6 := x6 bl _ blj eb5
    have hls' : ∀ q ∈ ls, ∃ x i, q = .tup [x, .int i] ∧ 0 ≤ i ∧ gateB R B x = true := fun q m => by
      obtain ⟨x, i, e, h0, hx⟩ := hls q m; exact ⟨x, i, e, h0, hes x hx⟩
    have hhs' : ∀ q ∈ hs, ∃ x i, q = .tup [x, .int i] ∧ 0 ≤ i ∧ spotB R B pl.length x = true := fun q m => by
      obtain ⟨x, i, e, h0, hx⟩ := hhs q m; exact ⟨x, i, e, h0, hws x hx⟩
    have hbl6 : bs.length ≤ 4 := by
      have := congrArg List.length hbm
      rw [List.length_map, List.length_map, List.length_take] at this
      omega
    refine ⟨_, eb6, size_small' (by omega), ?_⟩
    refine hN _ _ ⟨by omega, _, _, _, _, _, _, rfl, S6.put hbl, DL.S.set_same, ?_, fun x m => ?_⟩
    · have ht : ps.take (0 + i + 1) = ps.take (0 + i) ++ [.tup [.tup [.int fi, .tup (ns.map .int), .int g], .int am]] := by
        rw [List.take_succ, Nat.zero_add, hd]; rfl
      rw [ht, List.map_append, List.map_append, hbm]; rfl
    · rcases List.mem_append.mp m with m | m
      · exact hbs x m
      · rw [List.mem_singleton.mp m]
        refine ⟨?_, ?_⟩
        · simp only [blockB, hxs, rows_of hls' hlc, Bool.true_and, atF, h8, rows_of hhs' hhc, Bool.and_true]
          simpa [wholeB] using am0
        · refine Pu.tup (fun d m => ?_) (by simp)
          simp only [List.mem_cons, List.not_mem_nil, or_false] at m
          rcases m with rfl | rfl | rfl | rfl
          · exact puf.mono (by decide)
          · exact .int _
          · exact pu_rows hls' (fun x hx => pu_gate hx hR) (by omega)
          · exact pu_rows hhs' (fun x hx => pu_spot hx hR) (by omega)
  · rintro σ s ⟨hi, bs, a5, a6, a7, a8, a9, rfl, S, ebl, hbm, hbs⟩
    rw [Nat.zero_add, List.take_length] at hbm
    have hbl4 : bs.length ≤ 4 := by
      have := congrArg List.length hbm
      rw [List.length_map, List.length_map] at this
      omega
    unfold b__law_formed_3
    walk_at "rd"
    refine ⟨bs, ebl, fin (q _ s S.ext (S.jar.mono (by omega)) ⟨?_, ?_, bs, rfl⟩)⟩
    · simp only [creditsB, hbm, hcl, Bool.and_true, Bool.and_eq_true, List.all_eq_true]
      exact ⟨by simp [D.eqv], fun x m => (hbs x m).1⟩
    · refine Pu.tup (fun d m => ?_) (by simp)
      simp only [List.mem_cons, List.not_mem_nil, or_false] at m
      rcases m with rfl | rfl
      · exact .str cred_ok.1 cred_ok.2
      · exact Pu.tup (fun d m => (hbs d m).2) (by omega)
  · exact ⟨by omega, [], _, _, _, _, _, rfl, S3.mono (by omega), ebl3, by simp, fun x m => by simp at m⟩
end Toy

set_option maxHeartbeats 2000000
namespace Toy
open PySem DL
local macro_rules | `(tactic| walk_at "rd") => `(tactic| simp only [dSeq, dAsg, dRet, dRetN, dIfS, dNext, dDrop, dPar, dVar, dC, dOp, dUn, dAndV, dOrV, dNotV, dIf, dTest, dTru, dAnd, dOr, dNot, dTup, dLst, daNil, daCons, dCall, dCB, dChain, dSl, dPart_i, dNoPart,
  dDGet, dDPut, dAppend, dgName, dgTup, dgNil, dgCons, dFor, dIter, dAug, dLc, dYes, dDisp, dPairs, isC, isCc,
  rAdd_i, rAdd_s, rAdd_t, rAdd_l, rIAdd_i, rIAdd_s, rIAdd_l, rSub_i, rMul_i, rMul_l, rFdiv_i, rMod_i, rPow_i, rNeg_i, rEq_ii, rEq_ss, rEq_ns, rEq_sn, rEq_is, rEq_si, rEq_bs, rEq_sb, rEq_bb, rEq_nn, rEq_tt, rEq_nt, rEq_tn, rLt_i, rLtD_i, rLtD_s, rLtD_t, rIn_ss, rIn_r, rIn_t, inC_l, inC_d, dgSeq_t, dgSeq_l, rSorted_l, iEnum_l, iZip_l, iZip_t, iRev_l, iRev_t, rGt_i, rLe_i, rGe_i, rLe_s, rLt_s,
  rIs_nn, rIs_bb, rIs_in, rIs_sn, rIs_bn, rIs_rn, rIs_tn, rTru_n, rTru_b, rTru_i, rTru_s, rTru_t, rTru_l, rIx_t, rIx_l, rIx_s, rLen_s, rLen_t, rLen_l, rAbs_i, rInt_i, rStr_i, rMax_i, rMin_i, rTupOf_l, rTupOf_t, rListOf_l, rListOf_t, rAll_l, rAny_l, rSum_l,
  rIsi_r, rIsi_n, rIsi_b, rIsi_i, rIsi_s, rIsi_t, iD_t, iD_s, iD_l, iR1, iR2, rSl_t, rSl_s, rSl_l,
  endsOf, startD, List.map_cons, List.map_nil, List.length_cons, List.length_nil, Nat.reduceAdd, Nat.reduceSub, List.replicate, List.cons_append, List.nil_append, List.getElem?_cons_zero, List.getElem?_cons_succ, List.set_cons_zero, List.set_cons_succ,
  Option.some.injEq, exists_eq_left', exists_eq_left, List.cons.injEq, D.int.injEq, D.tup.injEq, D.bl.injEq, D.str.injEq, D.ref.injEq, and_true, true_and, and_self, id_eq, size0, size1, size2, size3, size4, size5, size6, size7, size8, sizel0, sizel1, sizel2, sizel3, sizel4, sizel5, sizel6, sizel7, lenOf_l, lenOf_d, List.length_map, Int.reduceToNat, Int.reducePow, Int.reduceNeg, Int.reduceLT, Int.reduceLE, atI_0, atI_1, atI_2, atI_3, atI_4, reduceCtorEq, false_and, or_false, false_or, exists_const, exists_false, ite_true, ite_false,
  Bool.false_eq_true, if_true, if_false, decide_eq_true_eq, Bool.not_eq_true', decide_eq_false_iff_not, Bool.not_true, Bool.not_false, and_assoc, exists_and_left, D.key, S.set_same, S.set_set, C.lst.injEq, C.dic.injEq, jd_cells, jd_at, jd_turn, jd_stock, jp_at, jp_turn, jp_stock, jd_len, wipeD])

theorem cutD_mem {xs : List D} {lo hi : Option Int} {x : D} (h : x ∈ cutD xs lo hi) : x ∈ xs := List.mem_of_mem_drop (List.mem_of_mem_take h)
theorem cutD_len (xs : List D) (lo hi : Option Int) : (cutD xs lo hi).length ≤ xs.length := by
  unfold cutD; rw [List.length_take, List.length_drop]; omega
theorem cutS_mem {z : Str} {lo hi : Option Int} {x : Nat} (h : x ∈ (L2.cutS z lo hi).cps.toList) : x ∈ z.cps.toList := by
  unfold L2.cutS at h
  exact List.mem_of_mem_drop (List.mem_of_mem_take (by simpa using h))
theorem strOk_iff {x : Str} : PyData.strOk x = true ↔ ∀ c ∈ x.cps.toList, c < 0x110000 := by
  unfold PyData.strOk
  rw [Array.all_eq_true_iff_forall_mem]
  constructor
  · intro h c hc; simpa using h c (by simpa using hc)
  · intro h c hc; simpa using h c (by simpa using hc)
theorem strOk_app {x y : Str} (hx : PyData.strOk x = true) (hy : PyData.strOk y = true) : PyData.strOk (x ++ y) = true := strOk_iff.mpr fun c hc => by
  rw [app_cps] at hc
  rcases List.mem_append.mp hc with hc | hc
  · exact strOk_iff.mp hx c hc
  · exact strOk_iff.mp hy c hc
theorem strOk_cut {x : Str} {lo hi : Option Int} (hx : PyData.strOk x = true) : PyData.strOk (L2.cutS x lo hi) = true := strOk_iff.mpr fun c hc => strOk_iff.mp hx c (cutS_mem hc)
theorem ok_str {k : Nat} {x : Str} (h : PyData.strOk x = true) (l : x.length ≤ 1000) : Ok k (.str x) := ⟨Th.str h l, by rw [slim]⟩
theorem ok_int {k : Nat} (i : Int) : Ok k (.int i) := ⟨Th.int i, by rw [slim]⟩
theorem ok_non {k : Nat} : Ok k .non := ⟨Th.non, by rw [slim]⟩
theorem ok_bl {k : Nat} (b : Bool) : Ok k (.bl b) := ⟨Th.bl b, by rw [slim]⟩
theorem ok_nil {k : Nat} : Ok (k + 1) (.tup []) := Ok.tup (fun d m => by simp at m) (by simp)
theorem ok_one {k : Nat} {d : D} (h : Ok k d) : Ok (k + 1) (.tup [d]) := Ok.tup (fun x m => by rw [List.mem_singleton.mp m]; exact h) (by simp)
theorem lits : ∀ z ∈ ["a", "0", "12345678", "9", "Z", " a", "", "end", "credits", "1"], PyData.strOk (Str.ofString z) = true ∧ (Str.ofString z).length ≤ 8 := by decide +kernel
def sp_odd : DSp := fun ds s Q => ∃ (d : D) (k : Nat), Pu k d ∧ spG 2 (fun as _ _ => as = [d]) (fun _ _ y _ => Ok (k + 1) y) ds s Q
theorem rd_odd (K : PySem.W.Frag) : ∀ ds s Q, sp_odd ds s Q → t__law_odd K sp_of sp_draw (endsOf Q) (startD N__law_odd ds) s := by
  rintro ds s0 Q ⟨d, k, hd, j, c, n, as, rfl, rfl, J, q⟩
  have S00 := St.start J
  have okd := hd.ok
  have fin_ : ∀ y s, Ok (k + 1) y → St j c s0 n s → ∃ s'', Sub s'' s ∧ Q y s'' := fun y s h S => fin (q y s S.ext S.jar h)
  have lit := fun z h => lits z h
  unfold t__law_odd N__law_odd
  cases d with
  | ref a => have := hd.p; rw [pur] at this; cases this
  | non => have := hd.p; rw [pur] at this; cases this
  | bl b => have := hd.p; rw [pur] at this; cases this
  | int i =>
    walk_at "rd"
    refine ⟨by decide, fun p hp => ?_⟩
    refine of_new (n := n) (S00.mono (by omega)) hp (by simp) (by simp) fun x s1 m S1 x1 => fin_ x s1 ?_ S1
    simp only [List.mem_cons, List.not_mem_nil, or_false] at m
    rcases m with rfl | rfl | rfl | rfl | rfl | rfl | rfl | rfl | rfl | rfl | rfl | rfl | rfl
    · exact ok_int _
    · exact ok_int _
    · exact ok_int _
    · exact ok_int _
    · exact ok_bl _
    · exact ok_bl _
    · exact ok_bl _
    · exact ok_non
    · exact ok_str (lit "1" (by simp)).1 (by have := (lit "1" (by simp)).2; omega)
    · exact ok_one okd
    · exact ok_int _
    · exact ok_int _
    · exact ok_int _
  | str x =>
    have hx := hd.p
    rw [pur, Bool.and_eq_true] at hx
    have hxl : x.length ≤ 100 := by simpa using hx.2
    have la := lit "a" (by simp)
    have l0 := lit "0" (by simp)
    have l1 := lit "12345678" (by simp)
    have l9 := lit "9" (by simp)
    have lZ := lit "Z" (by simp)
    have lb := lit " a" (by simp)
    have c3 := L2.cutS_length x none (some 3)
    have c2 := L2.cutS_length x none (some 2)
    walk_at "rd"
    have k3 : (L2.cutS x none (some 3)).length ≤ 100 := by omega
    have k2 : (L2.cutS x none (some 2)).length ≤ 100 := by omega
    refine ⟨sz (by omega), sz (by omega), sz (by omega), sz (by omega), sz (by omega), sz (by omega), sz (by omega), sz (by omega), sz (by omega), fun p hp p2 hp2 => ?_⟩
    have hne : p ≠ p2 := fun z => by rw [z, S.set_same] at hp2; cases hp2
    have A1 : ∀ y ∈ ([.str (x ++ Str.ofString "a"), .str (x ++ Str.ofString "0"), .str (x ++ Str.ofString "12345678"), .str (Str.ofString "9" ++ L2.cutS x none (some 3)), .str (L2.cutS x none (some 3) ++ Str.ofString "Z"), .str (L2.cutS x none (some 2) ++ Str.ofString " a")] : List D), Ok (k + 1) y := by
      intro y m
      simp only [List.mem_cons, List.not_mem_nil, or_false] at m
      rcases m with rfl | rfl | rfl | rfl | rfl | rfl
      · exact ok_str (strOk_app hx.1 la.1) (by rw [app_len]; omega)
      · exact ok_str (strOk_app hx.1 l0.1) (by rw [app_len]; omega)
      · exact ok_str (strOk_app hx.1 l1.1) (by rw [app_len]; omega)
      · exact ok_str (strOk_app l9.1 (strOk_cut hx.1)) (by rw [app_len]; omega)
      · exact ok_str (strOk_app (strOk_cut hx.1) lZ.1) (by rw [app_len]; omega)
      · exact ok_str (strOk_app (strOk_cut hx.1) lb.1) (by rw [app_len]; omega)
    have A2 : ∀ y ∈ ([.str (Str.ofString ""), .str (Str.ofString "end"), .str (Str.ofString "credits"), .non, .int 0, .bl true, .tup [.str x]] : List D), Ok (k + 1) y := by
      intro y m
      simp only [List.mem_cons, List.not_mem_nil, or_false] at m
      rcases m with rfl | rfl | rfl | rfl | rfl | rfl | rfl
      · exact ok_str (lit "" (by simp)).1 (by have := (lit "" (by simp)).2; omega)
      · exact ok_str (lit "end" (by simp)).1 (by have := (lit "end" (by simp)).2; omega)
      · exact ok_str (lit "credits" (by simp)).1 (by have := (lit "credits" (by simp)).2; omega)
      · exact ok_non
      · exact ok_int _
      · exact ok_bl _
      · exact ok_one okd
    refine ⟨_, by rw [S.set_ne hne]; exact S.set_same, sz (by simp), fun p3 hp3 => ?_⟩
    refine of_new (n := n) (((S00.new hp).new hp2).mono (by omega)) hp3 (by simp) (by simp) fun y s1 m S1 x1 => fin_ y s1 ?_ S1
    rcases List.mem_append.mp m with m | m
    · exact A1 y m
    · exact A2 y m
  | tup xs =>
    have hl := hd.len
    have sub : ∀ y ∈ xs, Ok k y := fun y m => by
      cases k with
      | zero => have := hd.d; rw [D.dep] at this; omega
      | succ k => exact (hd.sub m).ok.mono (by omega)
    have tupOk : ∀ ys : List D, (∀ y ∈ ys, Ok k y) → ys.length ≤ 1000 → Ok (k + 1) (.tup ys) := fun ys h l => Ok.tup h (by omega)
    have cm : ∀ {lo hi : Option Int} (y : D), y ∈ cutD xs lo hi → Ok k y := fun y m => sub y (cutD_mem m)
    have cl : ∀ lo hi, (cutD xs lo hi).length ≤ 6 := fun lo hi => Nat.le_trans (cutD_len _ _ _) hl
    walk_at "rd"
    split <;> rename_i h0
    · refine draw_g (n := n + 1) S00 (by omega) (by omega) fun r s1 r0 r1 S1 x1 => ?_
      walk_at "rd"
      have c1 := cl none (some r)
      have c2 := cl (some (r + 1)) (some (r + 2))
      have c3 := cl (some r) (some (r + 1))
      have c4 := cl (some (r + 2)) none
      have c5 := cl (some r) none
      have c6 := cl (some (r + 1)) none
      simp only [List.length_append]
      refine ⟨sz (by omega), sz (by omega), sz (by omega), sz (by omega), sz (by omega), sz (by omega), sz (by omega), sz (by omega), by decide, fun p hp => ?_⟩
      refine of_new (n := n) (S1.mono (by omega)) hp (by simp) (by simp) fun y s2 m S2 x2 => fin_ y s2 ?_ S2
      have A : Ok (k + 1) (.tup (cutD xs none (some r) ++ cutD xs (some (r + 1)) (some (r + 2)) ++ cutD xs (some r) (some (r + 1)) ++ cutD xs (some (r + 2)) none)) := tupOk _ (fun y m => by
        simp only [List.mem_append] at m
        rcases m with ((m | m) | m) | m <;> exact cm y m) (by simp only [List.length_append]; omega)
      have B : Ok (k + 1) (.tup (cutD xs none (some r) ++ cutD xs (some r) (some (r + 1)) ++ cutD xs (some r) none)) := tupOk _ (fun y m => by
        simp only [List.mem_append] at m
        rcases m with (m | m) | m <;> exact cm y m) (by simp only [List.length_append]; omega)
      have C : Ok (k + 1) (.tup (cutD xs none (some r) ++ cutD xs (some (r + 1)) none)) := tupOk _ (fun y m => by
        simp only [List.mem_append] at m
        rcases m with m | m <;> exact cm y m) (by simp only [List.length_append]; omega)
      simp only [List.mem_cons, List.not_mem_nil, or_false] at m
      rcases m with rfl | rfl | rfl | rfl | rfl | rfl | rfl | rfl | rfl | rfl
      · exact A
      · exact B
      · exact C
      · exact B
      · exact A
      · refine tupOk _ (fun y m => ?_) (by rw [List.length_append]; simp; omega)
        rcases List.mem_append.mp m with m | m
        · exact sub y m
        · rw [List.mem_singleton.mp m]; exact ok_int _
      · refine tupOk _ (fun y m => ?_) (by rw [List.length_append]; simp; omega)
        rcases List.mem_append.mp m with m | m
        · exact sub y m
        · rw [List.mem_singleton.mp m]; exact ok_non
      · exact ok_one okd
      · exact ok_nil
      · exact ok_non
    · refine fun p hp => ?_
      refine of_new (n := n) (S00.mono (by omega)) hp (by simp) (by simp) fun y s2 m S2 x2 => fin_ y s2 ?_ S2
      have hx0 : xs = [] := List.eq_nil_of_length_eq_zero (by omega)
      simp only [List.mem_cons, List.not_mem_nil, or_false] at m
      rcases m with rfl | rfl | rfl | rfl | rfl | rfl | rfl
      · exact ok_non
      · exact ok_int _
      · exact ok_str (lit "" (by simp)).1 (by have := (lit "" (by simp)).2; omega)
      · exact ok_one (ok_int _)
      · cases k with
        | zero => have := hd.d; rw [D.dep] at this; omega
        | succ k => exact ok_one ok_nil
      · exact ok_one ok_non
      · exact ok_bl _
end Toy

set_option maxHeartbeats 2000000
namespace Toy
open PySem DL
local macro_rules | `(tactic| walk_at "rd") => `(tactic| simp only [dSeq, dAsg, dRet, dRetN, dIfS, dNext, dDrop, dPar, dVar, dC, dOp, dUn, dAndV, dOrV, dNotV, dIf, dTest, dTru, dAnd, dOr, dNot, dTup, dLst, daNil, daCons, dCall, dCB, dChain, dSl, dPart_i, dNoPart,
  dDGet, dDPut, dAppend, dgName, dgTup, dgNil, dgCons, dFor, dIter, dAug, dLc, dYes, dDisp, dPairs, isC, isCc,
  rAdd_i, rAdd_s, rAdd_t, rAdd_l, rIAdd_i, rIAdd_s, rIAdd_l, rSub_i, rMul_i, rMul_l, rFdiv_i, rMod_i, rPow_i, rNeg_i, rEq_ii, rEq_ss, rEq_ns, rEq_sn, rEq_is, rEq_si, rEq_bs, rEq_sb, rEq_bb, rEq_nn, rEq_tt, rEq_nt, rEq_tn, rLt_i, rLtD_i, rLtD_s, rLtD_t, rIn_ss, rIn_r, rIn_t, inC_l, inC_d, dgSeq_t, dgSeq_l, rSorted_l, iEnum_l, iZip_l, iZip_t, iRev_l, iRev_t, rGt_i, rLe_i, rGe_i, rLe_s, rLt_s,
  rIs_nn, rIs_bb, rIs_in, rIs_sn, rIs_bn, rIs_rn, rIs_tn, rTru_n, rTru_b, rTru_i, rTru_s, rTru_t, rTru_l, rIx_t, rIx_l, rIx_s, rLen_s, rLen_t, rLen_l, rAbs_i, rInt_i, rStr_i, rMax_i, rMin_i, rTupOf_l, rTupOf_t, rListOf_l, rListOf_t, rAll_l, rAny_l, rSum_l,
  rIsi_r, rIsi_n, rIsi_b, rIsi_i, rIsi_s, rIsi_t, iD_t, iD_s, iD_l, iR1, iR2, rSl_t, rSl_s, rSl_l,
  endsOf, startD, List.map_cons, List.map_nil, List.length_cons, List.length_nil, Nat.reduceAdd, Nat.reduceSub, List.replicate, List.cons_append, List.nil_append, List.getElem?_cons_zero, List.getElem?_cons_succ, List.set_cons_zero, List.set_cons_succ,
  Option.some.injEq, exists_eq_left', exists_eq_left, List.cons.injEq, D.int.injEq, D.tup.injEq, D.bl.injEq, D.str.injEq, D.ref.injEq, and_true, true_and, and_self, id_eq, size0, size1, size2, size3, size4, size5, size6, size7, size8, sizel0, sizel1, sizel2, sizel3, sizel4, sizel5, sizel6, sizel7, lenOf_l, lenOf_d, List.length_map, Int.reduceToNat, Int.reducePow, Int.reduceNeg, Int.reduceLT, Int.reduceLE, atI_0, atI_1, atI_2, atI_3, atI_4, reduceCtorEq, false_and, or_false, false_or, exists_const, exists_false, ite_true, ite_false,
  Bool.false_eq_true, if_true, if_false, decide_eq_true_eq, Bool.not_eq_true', decide_eq_false_iff_not, Bool.not_true, Bool.not_false, and_assoc, exists_and_left, D.key, S.set_same, S.set_set, C.lst.injEq, C.dic.injEq, jd_cells, jd_at, jd_turn, jd_stock, jp_at, jp_turn, jp_stock, jd_len, wipeD])

/-- where a way leads -/
def goes : D → List Int → Option D
  | d, [] => some d
  | .tup ds, i :: r => if 0 ≤ i then (match ds[i.toNat]? with | some x => goes x r | none => none) else none
  | _, _ :: _ => none
theorem goes_cons {d : D} {i : Int} {r : List Int} {y : D} (h : goes d (i :: r) = some y) : ∃ ds x, d = .tup ds ∧ 0 ≤ i ∧ ds[i.toNat]? = some x ∧ goes x r = some y := by
  cases d with
  | tup ds =>
    rw [goes] at h
    split at h
    · rename_i h0
      split at h
      · rename_i x hx; exact ⟨ds, x, rfl, h0, hx, h⟩
      · cases h
    · cases h
  | _ => simp [goes] at h
theorem goes_snoc : ∀ {ns : List Int} {d : D} {ds : List D} {i : Nat} {x : D}, goes d ns = some (.tup ds) → ds[i]? = some x → goes d (ns ++ [(i : Int)]) = some x
  | [], d, ds, i, x, h, hx => by
    rw [goes] at h; cases h
    rw [List.nil_append, goes, if_pos (by omega)]
    simp only [Int.toNat_natCast, hx]
    rw [goes]
  | k :: ns, d, ds, i, x, h, hx => by
    obtain ⟨es, y, rfl, h0, h1, h2⟩ := goes_cons h
    rw [List.cons_append, goes, if_pos h0]
    simp only [h1]
    exact goes_snoc h2 hx
def sp_part : DSp := fun ds s Q => ∃ (d : D) (ns : List Int) (y : D), ds = [d, .tup (ns.map .int)] ∧ goes d ns = some y ∧ Q y s
theorem rd_part (K : PySem.W.Frag) : ∀ ds s Q, sp_part ds s Q → t__law_part K (endsOf Q) (startD N__law_part ds) s := by
  rintro ds s Q ⟨d, ns, y, rfl, hg, q⟩
  unfold t__law_part N__law_part
  walk_at "rd"
  have go : ∀ (E : EndsD) (ns : List Int) (w d : D) (o : Option D), goes d ns = some y → (∀ o, E.nx [some y, some w, o] s) → forD (dgName 2) (dAsg (dOp rIxD (dVar 0) (dVar 2)) (dgName 0)) (fun _ => True) E (ns.map .int) [some d, some w, o] s := by
    intro E ns
    induction ns with
    | nil => intro w d o h k; rw [goes] at h; cases h; exact ⟨trivial, k o⟩
    | cons i r ih =>
      intro w d o h k
      obtain ⟨ds, x, rfl, h0, h1, h2⟩ := goes_cons h
      refine ⟨trivial, ?_⟩
      walk_at "rd"
      exact ⟨x, atI_int h0 h1, ih w x _ h2 k⟩
  refine go _ ns _ d none hg fun o => ?_
  walk_at "rd"
  exact fin q
def sp_put (N : Nat) : DSp := fun ds s Q => ∃ (d : D) (ns : List Int) (y other : D) (k k' M : Nat), ds = [d, .tup (ns.map .int), other] ∧ ns.length ≤ N ∧ goes d ns = some y ∧ Pu k d ∧ Ok k' other ∧ k ≤ M ∧ k' + ns.length ≤ M ∧ ∀ z, Ok M z → Q z s
theorem rd_put0 (K : PySem.W.Frag) (sp : DSp) : ∀ ds s Q, sp_put 0 ds s Q → t__law_put K sp (endsOf Q) (startD N__law_put ds) s := by
  rintro ds s Q ⟨d, ns, y, other, k, k', M, rfl, hN, hg, hd, ho, h1, h2, q⟩
  have : ns = [] := List.eq_nil_of_length_eq_zero (by omega)
  subst this
  unfold t__law_put N__law_put
  walk_at "rd"
  rw [if_pos (by rfl)]
  exact fin (q other (ho.mono (by simpa using h2)))
theorem rd_put (K : PySem.W.Frag) (N : Nat) : ∀ ds s Q, sp_put (N + 1) ds s Q → t__law_put K (sp_put N) (endsOf Q) (startD N__law_put ds) s := by
  rintro ds s Q ⟨d, ns, y, other, k, k', M, rfl, hN, hg, hd, ho, h1, h2, q⟩
  unfold t__law_put N__law_put
  cases ns with
  | nil =>
    walk_at "rd"
    rw [if_pos (by rfl)]
    exact fin (q other (ho.mono (by simpa using h2)))
  | cons i r =>
    obtain ⟨ds, x, rfl, h0, hx, hg2⟩ := goes_cons hg
    simp only [List.length_cons] at hN h2
    obtain ⟨k, rfl⟩ : ∃ k0, k = k0 + 1 := by
      cases k with
      | zero => have := hd.d; rw [D.dep] at this; omega
      | succ k => exact ⟨k, rfl⟩
    obtain ⟨M, rfl⟩ : ∃ m, M = m + 1 := ⟨M - 1, by omega⟩
    have hl := hd.len
    walk_at "rd"
    rw [if_neg (by omega)]
    refine ⟨x, atI_int h0 hx, ?_⟩
    rw [drop_1]
    refine ⟨x, r, y, other, k, k', M, rfl, by omega, hg2, hd.sub (List.mem_of_getElem? hx), ho, by omega, by omega, fun z hz => ?_⟩
    walk_at "rd"
    have c1 := cutD_len ds none (some i)
    have c2 := cutD_len ds (some (i + 1)) none
    simp only [List.length_append, List.length_cons, List.length_nil]
    refine ⟨sz (by omega), sz (by omega), fin (q _ (Ok.tup (fun w m => ?_) (by simp only [List.length_append, List.length_cons, List.length_nil]; omega)))⟩
    have sub : ∀ w ∈ ds, Ok M w := fun w m => (hd.sub m).ok.mono (by omega)
    rcases List.mem_append.mp m with m | m
    · rcases List.mem_append.mp m with m | m
      · exact sub w (cutD_mem m)
      · rw [List.mem_singleton.mp m]; exact hz
    · exact sub w (cutD_mem m)
end Toy

set_option maxHeartbeats 2000000
namespace Toy
open PySem DL
local macro_rules | `(tactic| walk_at "rd") => `(tactic| simp only [dSeq, dAsg, dRet, dRetN, dIfS, dNext, dDrop, dPar, dVar, dC, dOp, dUn, dAndV, dOrV, dNotV, dIf, dTest, dTru, dAnd, dOr, dNot, dTup, dLst, daNil, daCons, dCall, dCB, dChain, dSl, dPart_i, dNoPart,
  dDGet, dDPut, dAppend, dgName, dgTup, dgNil, dgCons, dFor, dIter, dAug, dLc, dYes, dDisp, dPairs, isC, isCc,
  rAdd_i, rAdd_s, rAdd_t, rAdd_l, rIAdd_i, rIAdd_s, rIAdd_l, rSub_i, rMul_i, rMul_l, rFdiv_i, rMod_i, rPow_i, rNeg_i, rEq_ii, rEq_ss, rEq_ns, rEq_sn, rEq_is, rEq_si, rEq_bs, rEq_sb, rEq_bb, rEq_nn, rEq_tt, rEq_nt, rEq_tn, rLt_i, rLtD_i, rLtD_s, rLtD_t, rIn_ss, rIn_r, rIn_t, inC_l, inC_d, dgSeq_t, dgSeq_l, rSorted_l, iEnum_l, iZip_l, iZip_t, iRev_l, iRev_t, rGt_i, rLe_i, rGe_i, rLe_s, rLt_s,
  rIs_nn, rIs_bb, rIs_in, rIs_sn, rIs_bn, rIs_rn, rIs_tn, rTru_n, rTru_b, rTru_i, rTru_s, rTru_t, rTru_l, rIx_t, rIx_l, rIx_s, rLen_s, rLen_t, rLen_l, rAbs_i, rInt_i, rStr_i, rMax_i, rMin_i, rTupOf_l, rTupOf_t, rListOf_l, rListOf_t, rAll_l, rAny_l, rSum_l,
  rIsi_r, rIsi_n, rIsi_b, rIsi_i, rIsi_s, rIsi_t, iD_t, iD_s, iD_l, iR1, iR2, rSl_t, rSl_s, rSl_l,
  endsOf, startD, List.map_cons, List.map_nil, List.length_cons, List.length_nil, Nat.reduceAdd, Nat.reduceSub, List.replicate, List.cons_append, List.nil_append, List.getElem?_cons_zero, List.getElem?_cons_succ, List.set_cons_zero, List.set_cons_succ,
  Option.some.injEq, exists_eq_left', exists_eq_left, List.cons.injEq, D.int.injEq, D.tup.injEq, D.bl.injEq, D.str.injEq, D.ref.injEq, and_true, true_and, and_self, id_eq, size0, size1, size2, size3, size4, size5, size6, size7, size8, sizel0, sizel1, sizel2, sizel3, sizel4, sizel5, sizel6, sizel7, lenOf_l, lenOf_d, List.length_map, Int.reduceToNat, Int.reducePow, Int.reduceNeg, Int.reduceLT, Int.reduceLE, atI_0, atI_1, atI_2, atI_3, atI_4, reduceCtorEq, false_and, or_false, false_or, exists_const, exists_false, ite_true, ite_false,
  Bool.false_eq_true, if_true, if_false, decide_eq_true_eq, Bool.not_eq_true', decide_eq_false_iff_not, Bool.not_true, Bool.not_false, and_assoc, exists_and_left, D.key, S.set_same, S.set_set, C.lst.injEq, C.dic.injEq, jd_cells, jd_at, jd_turn, jd_stock, jp_at, jp_turn, jp_stock, jd_len, wipeD])

theorem sz' {n : Nat} (h : n ≤ 1000000) : n ≤ sizeLine := size_small h
theorem Sub_put {s0 s : S} {p : Addr} {x : C} (h : Sub s0 s) (e : s0 p = none) : Sub s0 (s.set p x) := fun b y q => by
  rw [S.set_ne (fun z => by rw [z, e] at q; cases q)]; exact h b y q
theorem Sub_none {s0 s : S} {p : Addr} (h : Sub s0 s) (e : s p = none) : s0 p = none := by
  cases q : s0 p with
  | none => rfl
  | some x => rw [h p x q] at e; cases e
def LayerOk (d : D) (t : Nat) (z : D) : Prop := ∃ (ns : List Int) (y : D), z = .tup [.tup (ns.map .int), y] ∧ ns.length = t ∧ t ≤ 7 ∧ Pu (7 - t) y ∧ goes d ns = some y
def WayOk (d : D) (w : D) : Prop := ∃ (ns : List Int) (y : D), w = .tup (ns.map .int) ∧ ns.length ≤ 7 ∧ goes d ns = some y ∧ Pu 7 y
def wayF : D → D | .tup [w, _] => w | z => z
def sp_paths : DSp := fun ds s Q => ∃ d, ds = [d] ∧ Pu 7 d ∧ ∀ p ws s', s p = none → Sub s s' → s' p = some (.lst ws) → (∀ w ∈ ws, WayOk d w) → .tup [] ∈ ws → ws.length ≤ 400000 → Q (.ref p) s'
theorem deep_loop {K : PySem.W.Frag} {E : EndsD} {d : D} {t : Nat} {fp lp dp : Addr} {sb s : S} {layer : List D} {o3 o5 o6 o7 : Option D} (hl : sb lp = some (.lst layer)) (hlo : ∀ z ∈ layer, LayerOk d t z) (hll : layer.length ≤ 6 ^ t) (hdp : sb dp = none) (hs : Sub sb s) (e0 : s dp = some (.lst []))
    (fin_ : ∀ o5 o6 o7 s' acc, Sub sb s' → s' dp = some (.lst acc) → acc.length ≤ 6 * layer.length → (∀ z ∈ acc, LayerOk d (t + 1) z) → E.nx [some d, some (.ref fp), some (.ref lp), o3, some (.ref dp), o5, o6, o7] s') :
    forD (dgTup 2 (dgCons (dgName 5) (dgCons (dgName 6) dgNil))) (l__law_paths_2 K) (fun s' => s' lp = some (.lst layer)) E layer [some d, some (.ref fp), some (.ref lp), o3, some (.ref dp), o5, o6, o7] s := by
  refine for_inv (fun i σ s => i ≤ layer.length ∧ ∃ acc o5 o6 o7, σ = [some d, some (.ref fp), some (.ref lp), o3, some (.ref dp), o5, o6, o7] ∧ Sub sb s ∧ s dp = some (.lst acc) ∧ acc.length ≤ 6 * i ∧ ∀ z ∈ acc, LayerOk d (t + 1) z) layer 0 _ s ?_ ?_ ?_ ?_
  · rintro i σ s ⟨_, acc, o5, o6, o7, rfl, u, _⟩; exact u _ _ hl
  · rintro i z σ s hd ⟨hi, acc, o5, o6, o7, rfl, u, e, hal, ha⟩ N hN
    have hi' : i < layer.length := (List.getElem?_eq_some_iff.mp hd).1
    obtain ⟨ns, y, rfl, hns, ht7, hy, hg⟩ := hlo z (List.mem_of_getElem? hd)
    walk_at "rd"
    unfold l__law_paths_2
    cases y with
    | ref a => have := hy.p; rw [pur] at this; cases this
    | tup xs =>
      obtain ⟨k, hk⟩ : ∃ k, 7 - t = k + 1 := by
        cases hk : 7 - t with
        | zero => rw [hk] at hy; have := hy.d; rw [D.dep] at this; omega
        | succ k => exact ⟨k, rfl⟩
      rw [hk] at hy
      have hxl := hy.len
      have hpow : 6 ^ t ≤ 6 ^ 6 := Nat.pow_le_pow_right (by decide) (by omega)
      have h66 : 6 ^ 6 = 46656 := by decide
      walk_at "rd"
      refine ⟨by omega, by omega, ?_⟩
      refine for_inv (fun m σ s => m ≤ xs.length ∧ ∃ acc o7, σ = [some d, some (.ref fp), some (.ref lp), o3, some (.ref dp), some (.tup (ns.map .int)), some (.tup xs), o7] ∧ Sub sb s ∧ s dp = some (.lst acc) ∧ acc.length ≤ 6 * i + m ∧ ∀ z ∈ acc, LayerOk d (t + 1) z) _ 0 _ s (fun _ _ _ _ => trivial) ?_ ?_ ⟨by omega, acc, o7, rfl, u, e, by omega, ha⟩
      · rintro m z σ s hd ⟨hm, acc, o7, rfl, u, e, hal, ha⟩ N2 hN2
        obtain ⟨rfl, hm'⟩ := rng_get hd
        have hm2 : m < xs.length := by omega
        have e1 : (0 : Int) + (m : Nat) = ((m : Nat) : Int) := by omega
        unfold l__law_paths_3
        walk_at "rd"
        rw [e1]
        refine ⟨⟨_, e⟩, by rw [hns]; exact sz (by omega), xs[m], atI_nat' (by simp [hm2]), _, e, size_small' (by omega), ?_⟩
        refine hN2 _ _ ⟨by omega, _, _, rfl, Sub_put u hdp, DL.S.set_same, by rw [List.length_append]; simp; omega, fun z mz => ?_⟩
        rcases List.mem_append.mp mz with mz | mz
        · exact ha z mz
        · rw [List.mem_singleton.mp mz]
          refine ⟨ns ++ [(m : Int)], xs[m], by rw [List.map_append]; rfl, by rw [List.length_append, hns]; rfl, by omega, ?_, goes_snoc hg (by simp [hm2])⟩
          have : 7 - (t + 1) = k := by omega
          rw [this]; exact hy.sub (List.getElem_mem hm2)
      · rintro σ s ⟨hm, acc, o7, rfl, u, e, hal, ha⟩
        rw [rng_len] at hal
        exact hN _ _ ⟨by omega, acc, _, _, _, rfl, u, e, by omega, ha⟩
    | _ => walk_at "rd"; exact hN _ _ ⟨by omega, acc, _, _, _, rfl, u, e, by omega, ha⟩
  · rintro σ s ⟨hi, acc, o5, o6, o7, rfl, u, e, hal, ha⟩
    rw [Nat.zero_add] at hal
    exact fin_ o5 o6 o7 s acc u e hal ha
  · exact ⟨by omega, [], _, _, _, rfl, hs, e0, by simp, fun z m => by simp at m⟩
theorem rd_paths (K : PySem.W.Frag) : ∀ ds s Q, sp_paths ds s Q → t__law_paths K (endsOf Q) (startD N__law_paths ds) s := by
  rintro ds s0 Q ⟨d, rfl, hd, q⟩
  unfold t__law_paths N__law_paths
  walk_at "rd"
  intro f0 hf0
  unfold b__law_paths_1
  walk_at "rd"
  intro l0 hl0
  have hl00 : s0 l0 = none := Sub_none (Sub.set hf0) hl0
  have hfl : f0 ≠ l0 := fun z => by rw [z, S.set_same] at hl0; cases hl0
  unfold b__law_paths_2
  walk_at "rd"
  refine for_inv (fun t σ s => t ≤ 10 ∧ ∃ fp lp found layer o3 o4 o5 o6 o7, σ = [some d, some (.ref fp), some (.ref lp), o3, o4, o5, o6, o7] ∧ s0 fp = none ∧ s0 lp = none ∧ Sub s0 s ∧ s fp = some (.lst found) ∧ s lp = some (.lst layer) ∧ (∀ w ∈ found, WayOk d w) ∧ (∀ z ∈ layer, LayerOk d t z) ∧ layer.length ≤ 6 ^ t ∧ found.length * 5 + 1 ≤ 6 ^ (min t 8) ∧ (t = 0 → layer = [.tup [.tup [], d]]) ∧ (0 < t → .tup [] ∈ found)) _ 0 _ _ (fun _ _ _ _ => trivial) ?_ ?_ ?_
  · rintro t z σ s hd' ⟨ht, fp, lp, found, layer, o3, o4, o5, o6, o7, rfl, hf, hl, u, ef, el, hfw, hlo, hll, hfl5, h0, h1⟩ N hN
    rw [Nat.zero_add] at ht hlo hll hfl5 h0 h1
    have ht10 : t < 10 := by have := (List.getElem?_eq_some_iff.mp hd').1; rw [rng_len] at this; exact this
    have hll7 : layer.length ≤ 6 ^ 7 := by
      rcases Nat.lt_or_ge 7 t with h | h
      · cases layer with
        | nil => simp
        | cons z l => obtain ⟨_, _, _, _, h7, _⟩ := hlo z List.mem_cons_self; omega
      · exact Nat.le_trans hll (Nat.pow_le_pow_right (by decide) h)
    have h67 : 6 ^ 7 = 279936 := by decide
    have h68 : 6 ^ 8 = 1679616 := by decide
    have hfl6 : found.length * 5 + 1 ≤ 6 ^ 8 := Nat.le_trans hfl5 (Nat.pow_le_pow_right (by decide) (Nat.min_le_right _ _))
    unfold l__law_paths_1
    walk_at "rd"
    refine ⟨layer, el, fun p hp => ?_⟩
    have hlp : lp ≠ p := ne_of_some el hp
    have hfp : fp ≠ p := ne_of_some ef hp
    refine lcD_pure wayF s layer [] (fun z m acc Q' q' => ?_) (fun acc => by rw [S.set_ne hlp]; exact el) (size_small' (by simp; omega)) ?_
    · obtain ⟨ns, y, rfl, _⟩ := hlo z m
      walk_at "rd"
      exact q'
    rw [List.nil_append]
    refine ⟨found, by rw [S.set_ne hfp]; exact ef, layer.map wayF, S.set_same, sz' (by rw [List.length_map]; omega), fun f2 hf2 => ?_⟩
    have u2 : Sub s ((s.set p (.lst (layer.map wayF))).set f2 (.lst (found ++ layer.map wayF))) := (Sub.set hp).trans (Sub.set hf2)
    have hf20 : s0 f2 = none := Sub_none u (Sub_none (Sub.set hp) hf2)
    have el2 := u2 _ _ el
    have ef2 : ((s.set p (.lst (layer.map wayF))).set f2 (.lst (found ++ layer.map wayF))) f2 = _ := S.set_same
    have u3 : Sub s0 _ := u.trans u2
    generalize ((s.set p (.lst (layer.map wayF))).set f2 (.lst (found ++ layer.map wayF))) = s2 at *
    unfold l__law_paths_1_1
    walk_at "rd"
    intro dp hdp
    unfold l__law_paths_1_2
    walk_at "rd"
    have hld : lp ≠ dp := ne_of_some el2 hdp
    refine ⟨layer, by rw [S.set_ne hld]; exact el2, ?_⟩
    refine deep_loop (sb := s2) el2 hlo hll hdp (Sub.set hdp) S.set_same ?_
    intro o5 o6 o7 s3 acc u4 ed hal ha
    unfold l__law_paths_1_3
    walk_at "rd"
    refine hN _ _ ⟨by omega, f2, dp, _, acc, _, _, _, _, _, rfl, hf20, Sub_none u3 hdp, u3.trans u4, u4 _ _ ef2, ed, fun w m => ?_, by rw [Nat.zero_add]; exact ha, ?_, ?_, fun h => by omega, fun _ => ?_⟩
    · rcases List.mem_append.mp m with m | m
      · exact hfw w m
      · obtain ⟨z, mz, rfl⟩ := List.mem_map.mp m
        obtain ⟨ns, y, rfl, h2, h3, h4, h5⟩ := hlo z mz
        exact ⟨ns, y, rfl, by omega, h5, h4.mono (by omega)⟩
    · rw [Nat.zero_add, Nat.pow_succ]; omega
    · rw [List.length_append, List.length_map, Nat.zero_add]
      rcases Nat.lt_or_ge 7 t with h | h
      · have : layer.length = 0 := by
          cases layer with
          | nil => rfl
          | cons z l => obtain ⟨_, _, _, _, h7, _⟩ := hlo z List.mem_cons_self; omega
        rw [Nat.min_eq_right (by omega)] at hfl5 ⊢
        omega
      · rw [Nat.min_eq_left (by omega)] at hfl5 ⊢
        rw [Nat.pow_succ]; omega
    · rcases Nat.eq_zero_or_pos t with h | h
      · rw [h0 h]; simp [wayF]
      · exact List.mem_append_left _ (h1 h)
  · rintro σ s ⟨ht, fp, lp, found, layer, o3, o4, o5, o6, o7, rfl, hf, hl, u, ef, el, hfw, hlo, hll, hfl5, h0, h1⟩
    unfold b__law_paths_3
    walk_at "rd"
    have h68 : 6 ^ 8 = 1679616 := by decide
    have hfl6 : found.length * 5 + 1 ≤ 6 ^ 8 := Nat.le_trans hfl5 (Nat.pow_le_pow_right (by decide) (Nat.min_le_right _ _))
    exact fin (q fp found s hf u ef hfw (h1 (by rw [rng_len]; decide)) (by omega))
  · refine ⟨by omega, f0, l0, [], _, _, _, _, _, _, rfl, hf0, hl00, (Sub.set hf0).trans (Sub.set hl0), by rw [S.set_ne hfl]; exact S.set_same, S.set_same, fun w m => by simp at m, fun z m => ?_, by simp, by simp, fun _ => rfl, fun h => by omega⟩
    rw [List.mem_singleton.mp m]
    exact ⟨[], d, rfl, rfl, by decide, hd, by rw [goes]⟩
end Toy

set_option maxHeartbeats 2000000
namespace Toy
open PySem DL
local macro_rules | `(tactic| walk_at "rd") => `(tactic| simp only [dSeq, dAsg, dRet, dRetN, dIfS, dNext, dDrop, dPar, dVar, dC, dOp, dUn, dAndV, dOrV, dNotV, dIf, dTest, dTru, dAnd, dOr, dNot, dTup, dLst, daNil, daCons, dCall, dCB, dChain, dSl, dPart_i, dNoPart,
  dDGet, dDPut, dAppend, dgName, dgTup, dgNil, dgCons, dFor, dIter, dAug, dLc, dYes, dDisp, dPairs, isC, isCc,
  rAdd_i, rAdd_s, rAdd_t, rAdd_l, rIAdd_i, rIAdd_s, rIAdd_l, rSub_i, rMul_i, rMul_l, rFdiv_i, rMod_i, rPow_i, rNeg_i, rEq_ii, rEq_ss, rEq_ns, rEq_sn, rEq_is, rEq_si, rEq_bs, rEq_sb, rEq_bb, rEq_nn, rEq_tt, rEq_nt, rEq_tn, rLt_i, rLtD_i, rLtD_s, rLtD_t, rIn_ss, rIn_r, rIn_t, inC_l, inC_d, dgSeq_t, dgSeq_l, rSorted_l, iEnum_l, iZip_l, iZip_t, iRev_l, iRev_t, rGt_i, rLe_i, rGe_i, rLe_s, rLt_s,
  rIs_nn, rIs_bb, rIs_in, rIs_sn, rIs_bn, rIs_rn, rIs_tn, rTru_n, rTru_b, rTru_i, rTru_s, rTru_t, rTru_l, rIx_t, rIx_l, rIx_s, rLen_s, rLen_t, rLen_l, rAbs_i, rInt_i, rStr_i, rMax_i, rMin_i, rTupOf_l, rTupOf_t, rListOf_l, rListOf_t, rAll_l, rAny_l, rSum_l,
  rIsi_r, rIsi_n, rIsi_b, rIsi_i, rIsi_s, rIsi_t, iD_t, iD_s, iD_l, iR1, iR2, rSl_t, rSl_s, rSl_l,
  endsOf, startD, List.map_cons, List.map_nil, List.length_cons, List.length_nil, Nat.reduceAdd, Nat.reduceSub, List.replicate, List.cons_append, List.nil_append, List.getElem?_cons_zero, List.getElem?_cons_succ, List.set_cons_zero, List.set_cons_succ,
  Option.some.injEq, exists_eq_left', exists_eq_left, List.cons.injEq, D.int.injEq, D.tup.injEq, D.bl.injEq, D.str.injEq, D.ref.injEq, and_true, true_and, and_self, id_eq, size0, size1, size2, size3, size4, size5, size6, size7, size8, sizel0, sizel1, sizel2, sizel3, sizel4, sizel5, sizel6, sizel7, lenOf_l, lenOf_d, List.length_map, Int.reduceToNat, Int.reducePow, Int.reduceNeg, Int.reduceLT, Int.reduceLE, atI_0, atI_1, atI_2, atI_3, atI_4, reduceCtorEq, false_and, or_false, false_or, exists_const, exists_false, ite_true, ite_false,
  Bool.false_eq_true, if_true, if_false, decide_eq_true_eq, Bool.not_eq_true', decide_eq_false_iff_not, Bool.not_true, Bool.not_false, and_assoc, exists_and_left, D.key, S.set_same, S.set_set, C.lst.injEq, C.dic.injEq, jd_cells, jd_at, jd_turn, jd_stock, jp_at, jp_turn, jp_stock, jd_len, wipeD])

def isShort : D → Bool | .tup xs => decide (xs.length ≤ 4) | _ => false
def sp_bent : DSp := fun ds s Q => ∃ (d : D) (m : Nat), Pu 7 d ∧ m ≤ 20 ∧ spG 60 (fun as _ _ => as = [d, .int m]) (fun _ s y s' => ∃ p xs, y = .ref p ∧ s p = none ∧ s' p = some (.lst xs) ∧ xs.length = m ∧ ∀ x ∈ xs, Ok 30 x) ds s Q
theorem rd_bent (K : PySem.W.Frag) : ∀ ds s Q, sp_bent ds s Q → t__law_bent K sp_paths sp_of (sp_put 10) sp_odd sp_part (endsOf Q) (startD N__law_bent ds) s := by
  rintro ds s0 Q ⟨d, m, hd, hm, j, c, n, as, rfl, rfl, J, q⟩
  have S00 := St.start J
  unfold t__law_bent N__law_bent
  walk_at "rd"
  refine ⟨d, rfl, hd, fun wp ways s1 hwp u1 ewp hways hnil hwl => ?_⟩
  have S1 := St_sub S00 u1
  have wpj := Jar_ne S1.jar ewp
  unfold b__law_bent_1
  walk_at "rd"
  refine ⟨ways, ewp, fun sp hsp => ?_⟩
  have wps : wp ≠ sp := ne_of_some ewp hsp
  have hG : ∀ acc, (s1.set sp (.lst acc)) wp = some (.lst ways) := fun acc => by rw [S.set_ne wps]; exact ewp
  have flt : ∀ (QS : S → Prop) (σ : DS) (ds acc : List D), (∀ w ∈ ds, WayOk d w) → acc.length + ds.length ≤ 400000 → QS (s1.set sp (.lst (acc ++ ds.filter isShort))) →
      lcD (dgName 7) (dTest (dOp rLe (dCB rLenD (daCons (dVar 7) daNil)) (dC (.int 4)))) (dVar 7) (fun s' => s' wp = some (.lst ways)) [some (.ref j), some d, some (.int m), some (.ref wp), none, none, none, none] sp QS ds (s1.set sp (.lst acc)) := by
    intro QS σ ds
    induction ds with
    | nil => intro acc _ _ h; exact ⟨hG _, by simpa using h⟩
    | cons w ds ih =>
      intro acc hw hl h
      obtain ⟨ns, y, rfl, _⟩ := hw w List.mem_cons_self
      simp only [List.length_cons] at hl
      refine ⟨hG _, ?_⟩
      walk_at "rd"
      split <;> rename_i h4
      · refine ⟨size_small' (by omega), ih _ (fun w m => hw w (List.mem_cons_of_mem _ m)) (by rw [List.length_append]; simp; omega) ?_⟩
        have : isShort (.tup (ns.map .int)) = true := by simp [isShort]; omega
        rw [List.filter_cons_of_pos this] at h
        simpa using h
      · refine ih _ (fun w m => hw w (List.mem_cons_of_mem _ m)) (by omega) ?_
        have : ¬ isShort (.tup (ns.map .int)) = true := by simp [isShort]; omega
        rw [List.filter_cons_of_neg this] at h
        exact h
  refine flt _ [] ways [] hways (by simp; omega) ?_
  rw [List.nil_append]
  have u2 : Sub s1 (s1.set sp (.lst (ways.filter isShort))) := Sub.set hsp
  have S2 := St_sub S1 u2
  have ewp2 := u2 _ _ ewp
  have esp2 : (s1.set sp (.lst (ways.filter isShort))) sp = _ := S.set_same
  have spj := Jar_ne S2.jar esp2
  generalize (s1.set sp (.lst (ways.filter isShort))) = s2 at *
  unfold b__law_bent_2
  walk_at "rd"
  intro fp hfp
  have fpj := (S2.fresh hfp).2.1
  have fp0 := (S2.fresh hfp).1
  unfold b__law_bent_3
  walk_at "rd"
  refine ⟨by omega, by omega, ?_⟩
  have Sb : St j c s2 (n + 60) (s2.set fp (.lst [])) := (St.start S2.jar).new hfp
  refine for_inv (fun i σ s => i ≤ m ∧ ∃ found o6 o7, σ = [some (.ref j), some d, some (.int m), some (.ref wp), some (.ref sp), some (.ref fp), o6, o7] ∧ St j c s2 (n + (20 - i) * 3) s ∧ s fp = some (.lst found) ∧ (found : List D).length = i ∧ ∀ x ∈ found, Ok 30 x) _ 0 _ _ (fun _ _ _ _ => trivial) ?_ ?_ ?_
  · rintro i z σ s hdd ⟨hi, found, o6, o7, rfl, S, e, hl, hf⟩ N hN
    obtain ⟨rfl, hi'⟩ := rng_get hdd
    have hi2 : i < m := by omega
    have ewp3 := S.ext wp _ wpj ewp2
    have esp3 := S.ext sp _ spj esp2
    unfold l__law_bent_1
    walk_at "rd"
    have go : ∀ w s3, w ∈ ways → St j c s2 (n + (20 - (0 + i)) * 3 - 1) s3 → s3 fp = some (.lst found) → l__law_bent_1_1 K sp_paths sp_of (sp_put 10) sp_odd sp_part { nx := N, rt := fun d s' => ∃ s'', Sub s'' s' ∧ Q d s'', bk := b__law_bent_4 K sp_paths sp_of (sp_put 10) sp_odd sp_part { nx := fun x s' => ∃ s'', Sub s'' s' ∧ Q D.non s'', rt := fun d s' => ∃ s'', Sub s'' s' ∧ Q d s'' }, ct := N } [some (.ref j), some d, some (.int m), some (.ref wp), some (.ref sp), some (.ref fp), some (.int (0 + (i : Nat))), some w] s3 := by
      intro w s3 mw S3 e3
      obtain ⟨ns, y, rfl, hn7, hg, hy⟩ := hways w mw
      unfold l__law_bent_1_1
      walk_at "rd"
      refine ⟨⟨_, e3⟩, d, ns, y, rfl, hg, ?_⟩
      refine ⟨y, 7, hy, call_g (n := n + (20 - (0 + i + 1)) * 3) (S3.mono (by omega)) rfl fun z s4 S4 x4 hz => ?_⟩
      have e4 := x4 fp _ fpj e3
      refine ⟨d, ns, y, z, 7, 8, 30, rfl, by omega, hg, hd, hz, by decide, by omega, fun r hr => ?_⟩
      refine ⟨_, e4, size_small' (by omega), ?_⟩
      refine hN _ _ ⟨by omega, _, _, _, rfl, S4.put hfp, DL.S.set_same, by rw [List.length_append, hl]; rfl, fun x mx => ?_⟩
      rcases List.mem_append.mp mx with mx | mx
      · exact hf x mx
      · rw [List.mem_singleton.mp mx]; exact hr
    refine ⟨div_okc (by decide) (by decide), ?_⟩
    split
    · refine of_l (n := n + (20 - (0 + i)) * 3 - 1) (S.mono (by omega)) esp3 spj ?_ ?_ fun w s3 mw S3 x3 => ?_
      · intro h
        have : D.tup [] ∈ ways.filter isShort := List.mem_filter.mpr ⟨hnil, rfl⟩
        rw [h] at this; simp at this
      · have := List.length_filter_le isShort ways; omega
      · exact go w s3 (List.mem_filter.mp mw).1 S3 (x3 fp _ fpj e)
    · refine of_l (n := n + (20 - (0 + i)) * 3 - 1) (S.mono (by omega)) ewp3 wpj ?_ (by omega) fun w s3 mw S3 x3 => ?_
      · rintro rfl; simp at hnil
      · exact go w s3 mw S3 (x3 fp _ fpj e)
  · rintro σ s ⟨hi, found, o6, o7, rfl, S, e, hl, hf⟩
    rw [rng_len] at hl
    unfold b__law_bent_4
    walk_at "rd"
    have Sf := S2.next S.ext S.jar
    exact fin (q _ s Sf.ext (Sf.jar.mono (by omega)) ⟨fp, found, rfl, fp0, e, by omega, hf⟩)
  · exact ⟨by omega, [], _, _, rfl, Sb.mono (by omega), S.set_same, rfl, fun x m => by simp at m⟩
end Toy

set_option maxHeartbeats 2000000
namespace Toy
open PySem DL
local macro_rules | `(tactic| walk_at "rd") => `(tactic| simp only [dSeq, dAsg, dRet, dRetN, dIfS, dNext, dDrop, dPar, dVar, dC, dOp, dUn, dAndV, dOrV, dNotV, dIf, dTest, dTru, dAnd, dOr, dNot, dTup, dLst, daNil, daCons, dCall, dCB, dChain, dSl, dPart_i, dNoPart,
  dDGet, dDPut, dAppend, dgName, dgTup, dgNil, dgCons, dFor, dIter, dAug, dLc, dYes, dDisp, dPairs, isC, isCc,
  rAdd_i, rAdd_s, rAdd_t, rAdd_l, rIAdd_i, rIAdd_s, rIAdd_l, rSub_i, rMul_i, rMul_l, rFdiv_i, rMod_i, rPow_i, rNeg_i, rEq_ii, rEq_ss, rEq_ns, rEq_sn, rEq_is, rEq_si, rEq_bs, rEq_sb, rEq_bb, rEq_nn, rEq_tt, rEq_nt, rEq_tn, rLt_i, rLtD_i, rLtD_s, rLtD_t, rIn_ss, rIn_r, rIn_t, inC_l, inC_d, dgSeq_t, dgSeq_l, rSorted_l, iEnum_l, iZip_l, iZip_t, iRev_l, iRev_t, rGt_i, rLe_i, rGe_i, rLe_s, rLt_s,
  rIs_nn, rIs_bb, rIs_in, rIs_sn, rIs_bn, rIs_rn, rIs_tn, rTru_n, rTru_b, rTru_i, rTru_s, rTru_t, rTru_l, rIx_t, rIx_l, rIx_s, rLen_s, rLen_t, rLen_l, rAbs_i, rInt_i, rStr_i, rMax_i, rMin_i, rTupOf_l, rTupOf_t, rListOf_l, rListOf_t, rAll_l, rAny_l, rSum_l,
  rIsi_r, rIsi_n, rIsi_b, rIsi_i, rIsi_s, rIsi_t, iD_t, iD_s, iD_l, iR1, iR2, rSl_t, rSl_s, rSl_l,
  endsOf, startD, List.map_cons, List.map_nil, List.length_cons, List.length_nil, Nat.reduceAdd, Nat.reduceSub, List.replicate, List.cons_append, List.nil_append, List.getElem?_cons_zero, List.getElem?_cons_succ, List.set_cons_zero, List.set_cons_succ,
  Option.some.injEq, exists_eq_left', exists_eq_left, List.cons.injEq, D.int.injEq, D.tup.injEq, D.bl.injEq, D.str.injEq, D.ref.injEq, and_true, true_and, and_self, id_eq, size0, size1, size2, size3, size4, size5, size6, size7, size8, sizel0, sizel1, sizel2, sizel3, sizel4, sizel5, sizel6, sizel7, lenOf_l, lenOf_d, List.length_map, Int.reduceToNat, Int.reducePow, Int.reduceNeg, Int.reduceLT, Int.reduceLE, atI_0, atI_1, atI_2, atI_3, atI_4, reduceCtorEq, false_and, or_false, false_or, exists_const, exists_false, ite_true, ite_false,
  Bool.false_eq_true, if_true, if_false, decide_eq_true_eq, Bool.not_eq_true', decide_eq_false_iff_not, Bool.not_true, Bool.not_false, and_assoc, exists_and_left, D.key, S.set_same, S.set_set, C.lst.injEq, C.dic.injEq, jd_cells, jd_at, jd_turn, jd_stock, jp_at, jp_turn, jp_stock, jd_len, wipeD])

def sp_law (K : PySem.W.Frag) : DSp := fun ds s Q => ∃ a ns, ds = [.ref a] ∧ (s a = some (.lst ((ns : List Int).map .int)) ∨ s a = some (.ro (ns.map .int)) ∨ KRo K a (ns.map .int)) ∧ ns.length ≤ 63 ∧ ∀ s', Q (.bl true) s'
def sgL (a j : Addr) (p book paper other : D) (na th : Addr) (o8 o9 o10 o11 o12 : Option D) : DS := [some (.ref a), some (.ref j), some p, some (.ref na), some book, some paper, some other, some (.ref th), o8, o9, o10, o11, o12, none, none]
section
variable {K : PySem.W.Frag} {j c a na th : Addr} {b s : S} {n : Nat} {E : EndsD} {p book paper other : D} {R B : Nat} {Ls : List Nat} {o8 o9 o10 o11 o12 : Option D}
theorem things_loop {l : Addr} {xs : List D} (hp : Pg p R Ls) (hb : Bk book B) (hx : ∀ x ∈ xs, Ok 36 x) (S0 : St j c b n s) (el : s l = some (.lst xs))
    (fin_ : ∀ o8 o10, E.nx (sgL a j p book paper other na th o8 o9 o10 o11 o12) s) :
    forD (dgName 8) (l_law_1 K (sp_jar K) sp_names sp_formed sp_of sp_one_in sp_great sp_program sp_stem sp_bent sp_is_credits sp_is_block sp__law_is_paper sp__law_is_block) (fun s' => s' l = some (.lst xs)) E xs (sgL a j p book paper other na th o8 o9 o10 o11 o12) s := by
  refine for_inv (fun i σ s' => s' = s ∧ ∃ o8 o10, σ = sgL a j p book paper other na th o8 o9 o10 o11 o12) xs 0 _ s ?_ ?_ ?_ ⟨rfl, _, _, rfl⟩
  · rintro i σ s' ⟨rfl, _⟩; exact el
  · rintro i d σ s' hd ⟨rfl, o8, o10, rfl⟩ N hN
    have ok := hx d (List.mem_of_getElem? hd)
    unfold sgL
    walk_at "rd"
    unfold l_law_1
    walk_at "rd"
    refine ⟨p, book, R, Ls, B, d, 30, rfl, by decide, hp, hb, ok, ?_⟩
    unfold l_law_1_1
    walk_at "rd"
    refine ⟨p, book, R, Ls, B, d, 30, rfl, by decide, hp, hb, ok, ?_⟩
    simp only [rEq_bb]
    refine ⟨_, rfl, ?_⟩
    rw [beq_self_eq_true, Bool.not_true, if_neg (by simp)]
    exact hN _ _ ⟨rfl, _, _, rfl⟩
  · rintro σ s' ⟨rfl, o8, o10, rfl⟩
    exact fin_ o8 o10
theorem blocks_loop {l : Addr} {xs : List D} (hp : Pg p R Ls) (hb : Bk book B) (hx : ∀ x ∈ xs, Ok 34 x) (el : s l = some (.lst xs))
    (fin_ : ∀ o8 o10, E.nx (sgL a j p book paper other na th o8 o9 o10 o11 o12) s) :
    forD (dgName 8) (l_law_3 K (sp_jar K) sp_names sp_formed sp_of sp_one_in sp_great sp_program sp_stem sp_bent sp_is_credits sp_is_block sp__law_is_paper sp__law_is_block) (fun s' => s' l = some (.lst xs)) E xs (sgL a j p book paper other na th o8 o9 o10 o11 o12) s := by
  refine for_inv (fun i σ s' => s' = s ∧ ∃ o8 o10, σ = sgL a j p book paper other na th o8 o9 o10 o11 o12) xs 0 _ s ?_ ?_ ?_ ⟨rfl, _, _, rfl⟩
  · rintro i σ s' ⟨rfl, _⟩; exact el
  · rintro i d σ s' hd ⟨rfl, o8, o10, rfl⟩ N hN
    have ok := hx d (List.mem_of_getElem? hd)
    unfold sgL
    walk_at "rd"
    unfold l_law_3
    walk_at "rd"
    refine ⟨p, book, R, Ls, B, d, 30, rfl, by decide, hp, hb, ok, ?_⟩
    unfold l_law_3_1
    walk_at "rd"
    refine ⟨p, book, R, Ls, B, d, 30, rfl, by decide, hp, hb, ok, ?_⟩
    simp only [rEq_bb]
    refine ⟨_, rfl, ?_⟩
    rw [beq_self_eq_true, Bool.not_true, if_neg (by simp)]
    exact hN _ _ ⟨rfl, _, _, rfl⟩
  · rintro σ s' ⟨rfl, o8, o10, rfl⟩
    exact fin_ o8 o10
end
theorem pu_ok {k m : Nat} {d : D} (h : Pu k d) (l : k ≤ m) : Ok m d := h.ok.mono l
theorem out_ok : PyData.strOk (Str.ofString "out") = true ∧ (Str.ofString "out").length ≤ 100 := by decide +kernel
theorem cut_ok {m : Nat} {xs : List D} {lo hi : Option Int} (h : ∀ x ∈ xs, Ok m x) : ∀ x ∈ cutD xs lo hi, Ok m x := fun x mx => h x (cutD_mem mx)
theorem app_ok {m : Nat} {xs ys : List D} (h : ∀ x ∈ xs, Ok m x) (h' : ∀ x ∈ ys, Ok m x) : ∀ x ∈ xs ++ ys, Ok m x := fun x mx => by
  rcases List.mem_append.mp mx with mx | mx
  · exact h x mx
  · exact h' x mx
theorem one_ok {m : Nat} {x : D} (h : Ok m x) : ∀ y ∈ [x], Ok m y := fun y my => by rw [List.mem_singleton.mp my]; exact h
/-- one block: itself and bent -/
theorem block_turn {K : PySem.W.Frag} {j c a na th : Addr} {b s : S} {n : Nat} {E : EndsD} {p book paper other blk : D} {R B : Nat} {Ls : List Nat} {o8 o10 o11 o12 : Option D}
    (hp : Pg p R Ls) (hb : Bk book B) (hblk : blockB R B Ls blk = true) (hpu : Pu 5 blk) (S0 : St j c b (n + 60) s)
    (fin_ : ∀ o8 o10 o11 o12 s', St j c b n s' → E.nx (sgL a j p book paper other na th o8 (some blk) o10 o11 o12) s') :
    l_law_2 K (sp_jar K) sp_names sp_formed sp_of sp_one_in sp_great sp_program sp_stem sp_bent sp_is_credits sp_is_block sp__law_is_paper sp__law_is_block E (sgL a j p book paper other na th o8 (some blk) o10 o11 o12) s := by
  obtain ⟨f, nd, l, h, rfl, hf⟩ := block_shape hblk
  obtain ⟨ys, pgs, rfl, h4, h5⟩ := hb.pages
  have pf : Pu 4 f := hpu.sub (by simp)
  have pn : Pu 4 nd := hpu.sub (by simp)
  have pl : Pu 4 l := hpu.sub (by simp)
  have ph : Pu 4 h := hpu.sub (by simp)
  obtain ⟨fi, ns, g, rfl, hnl, hf0, hf1, _⟩ := spot_shape hf
  have pns : Pu 3 (.tup (ns.map .int)) := pf.sub (by simp)
  simp only [blockB, Bool.and_eq_true] at hblk
  obtain ⟨hs, rfl⟩ : ∃ hs, h = .tup hs := by
    cases h with
    | tup hs => exact ⟨hs, rfl⟩
    | _ => simp [rowsB] at hblk
  have hhl := ph.len
  have k1 := cutD_len hs none (some 1)
  have k3 : (cutD [.tup [.int fi, .tup (ns.map .int), .int g], nd, l, .tup hs] none (some 3)).length ≤ 4 := cutD_len _ _ _
  have k2 : (cutD [.tup [.int fi, .tup (ns.map .int), .int g], nd, l, .tup hs] none (some 2)).length ≤ 4 := cutD_len _ _ _
  unfold l_law_2 sgL
  walk_at "rd"
  refine ⟨_, h4, ?_⟩
  walk_at "rd"
  unfold l_law_2_1
  walk_at "rd"
  refine ⟨sz (by omega), sz (by omega), sz (by omega), fun l1 hl1 => ?_⟩
  unfold l_law_2_2
  walk_at "rd"
  have A : ∀ x ∈ [.tup [.int fi, .tup (ns.map .int), .int g], nd, l, .tup hs], Ok 20 x := by
    intro x m
    simp only [List.mem_cons, List.not_mem_nil, or_false] at m
    rcases m with rfl | rfl | rfl | rfl
    · exact pu_ok pf (by decide)
    · exact pu_ok pn (by decide)
    · exact pu_ok pl (by decide)
    · exact pu_ok ph (by decide)
  have H : ∀ x ∈ hs, Ok 20 x := fun x m => pu_ok (ph.sub m) (by decide)
  have tp : ∀ {m : Nat} {xs : List D}, m ≤ 33 → (∀ x ∈ xs, Ok m x) → xs.length ≤ 1000 → Ok 34 (.tup xs) := fun hm h l => (Ok.tup h (by omega)).mono (by omega)
  have O : Ok 30 (.tup [.tup [.tup [.str (Str.ofString "out"), .tup (ns.map .int), .int pgs.length], .int 0]]) := by
    have o1 : Ok 20 (.tup [.str (Str.ofString "out"), .tup (ns.map .int), .int pgs.length]) := (Ok.tup (k := 10) (fun x m => by
      simp only [List.mem_cons, List.not_mem_nil, or_false] at m
      rcases m with rfl | rfl | rfl
      · exact ok_str out_ok.1 (by have := out_ok.2; omega)
      · exact pu_ok pns (by decide)
      · exact ok_int _) (by simp)).mono (by decide)
    refine (ok_one (k := 21) (Ok.tup (fun x m => ?_) (by simp))).mono (by decide)
    simp only [List.mem_cons, List.not_mem_nil, or_false] at m
    rcases m with rfl | rfl
    · exact o1
    · exact ok_int _
  have H2 : Ok 30 (.tup hs) := pu_ok ph (by decide)
  have all : ∀ x ∈ [D.tup [.tup [.int fi, .tup (ns.map .int), .int g], nd, l, .tup hs], .tup (cutD [.tup [.int fi, .tup (ns.map .int), .int g], nd, l, .tup hs] none (some 3)), .tup [.tup [.int fi, .tup (ns.map .int), .int g], nd, l, .tup hs, .int 0],
      .tup (cutD [.tup [.int fi, .tup (ns.map .int), .int g], nd, l, .tup hs] none (some 3) ++ [.tup (cutD hs none (some 1) ++ hs)]),
      .tup (cutD [.tup [.int fi, .tup (ns.map .int), .int g], nd, l, .tup hs] none (some 2) ++ [.tup [.tup [.tup [.str (Str.ofString "out"), .tup (ns.map .int), .int pgs.length], .int 0]], .tup hs])], Ok 34 x := by
    intro x m
    simp only [List.mem_cons, List.not_mem_nil, or_false] at m
    rcases m with rfl | rfl | rfl | rfl | rfl
    · exact pu_ok hpu (by decide)
    · exact tp (by decide) (cut_ok A) (by omega)
    · exact tp (m := 20) (by decide) (app_ok (xs := [.tup [.int fi, .tup (ns.map .int), .int g], nd, l, .tup hs]) (ys := [.int 0]) A (one_ok (ok_int _))) (by simp)
    · refine tp (m := 30) (by decide) (app_ok (fun x m => (cut_ok A x m).mono (by decide)) (one_ok ?_)) (by rw [List.length_append]; simp; omega)
      exact (Ok.tup (k := 20) (app_ok (cut_ok H) H) (by rw [List.length_append]; omega)).mono (by decide)
    · refine tp (m := 30) (by decide) (app_ok (fun x m => (cut_ok A x m).mono (by decide)) fun x m => ?_) (by rw [List.length_append]; simp; omega)
      simp only [List.mem_cons, List.not_mem_nil, or_false] at m
      rcases m with rfl | rfl
      · exact O
      · exact H2
  generalize hxs : [D.tup [.tup [.int fi, .tup (ns.map .int), .int g], nd, l, .tup hs], .tup (cutD [.tup [.int fi, .tup (ns.map .int), .int g], nd, l, .tup hs] none (some 3)), .tup [.tup [.int fi, .tup (ns.map .int), .int g], nd, l, .tup hs, .int 0],
      .tup (cutD [.tup [.int fi, .tup (ns.map .int), .int g], nd, l, .tup hs] none (some 3) ++ [.tup (cutD hs none (some 1) ++ hs)]),
      .tup (cutD [.tup [.int fi, .tup (ns.map .int), .int g], nd, l, .tup hs] none (some 2) ++ [.tup [.tup [.tup [.str (Str.ofString "out"), .tup (ns.map .int), .int pgs.length], .int 0]], .tup hs])] = near at all ⊢
  have hnear : near.length = 5 := by rw [← hxs]; rfl
  have S1 := S0.new (x := .lst near) hl1
  have l1j := (S0.fresh hl1).2.1
  refine ⟨_, 4, hpu.mono (by decide), by decide, call_g (n := n) S1 rfl fun y s2 S2 x2 ⟨bp, bs, hy, _, ebp, hbl, hbs⟩ => ?_⟩
  subst hy
  have el2 := x2 l1 _ l1j S.set_same
  walk_at "rd"
  refine ⟨_, el2, _, ebp, sz (by omega), fun l2 hl2 => ?_⟩
  refine blocks_loop (a := a) (na := na) (th := th) (other := other) hp hb (app_ok all fun x m => (hbs x m).mono (by decide)) S.set_same fun o8 o10 => ?_
  exact fin_ o8 o10 _ _ _ (S2.new hl2)
theorem rd_law (K : PySem.W.Frag) : ∀ ds s Q, sp_law K ds s Q → t_law K (sp_jar K) sp_names sp_formed sp_of sp_one_in sp_great sp_program sp_stem sp_bent sp_is_credits sp_is_block sp__law_is_paper sp__law_is_block (endsOf Q) (startD N_law ds) s := by
  rintro ds s Q ⟨a, ns, rfl, hs, hl, q⟩
  have fq : ∀ s' : S, ∃ s'', Sub s'' s' ∧ Q (.bl true) s'' := fun s' => fin (q s')
  unfold t_law N_law
  walk_at "rd"
  refine ⟨a, 26, ns, rfl, hs, hl, by decide, by decide, fun j c s0 _ _ _ J => ?_⟩
  have S0 : St j c s0 (800000 + 100000) s0 := (St.start J).mono (by decide)
  unfold b_law_1
  walk_at "rd"
  have rest : ∀ (p : D) (R : Nat) (Ls : List Nat) s, PgX p R Ls → St j c s0 800000 s → b_law_2 K (sp_jar K) sp_names sp_formed sp_of sp_one_in sp_great sp_program sp_stem sp_bent sp_is_credits sp_is_block sp__law_is_paper sp__law_is_block (endsOf Q) [some (.ref a), some (.ref j), some p, none, none, none, none, none, none, none, none, none, none, none, none] s := by
    intro p R Ls s hpx S
    have hp := hpx.pg
    obtain ⟨x1, x2, cs, rs, prs, rfl, hcs⟩ := hpx.few
    unfold b_law_2
    walk_at "rd"
    intro l hl
    refine of_new (n := 799999) S hl (by simp) (by decide) fun x s1 m S1 _ => ?_
    obtain ⟨B, rfl, hB1, hB2⟩ : ∃ k : Nat, x = .int (k : Nat) ∧ 1 ≤ k ∧ k ≤ 14 := by
      simp only [List.mem_cons, List.not_mem_nil, or_false] at m
      rcases m with rfl | rfl | rfl | rfl | rfl
      · exact ⟨1, rfl, by decide, by decide⟩
      · exact ⟨1, rfl, by decide, by decide⟩
      · exact ⟨2, rfl, by decide, by decide⟩
      · exact ⟨3, rfl, by decide, by decide⟩
      · exact ⟨14, rfl, by decide, by decide⟩
    refine ⟨B, by omega, call_g (n := 700000) (S1.mono (by omega)) rfl fun d s2 S2 _ ⟨na, names, hd, _, ena, hnl, hns⟩ => ?_⟩
    subst hd
    have naj := Jar_ne S2.jar ena
    unfold b_law_3
    walk_at "rd"
    refine call_g (n := 690000) (S2.mono (by omega)) rfl fun d s3 S3 x3 ⟨z, hd, hz⟩ => ?_
    subst hd
    have ena3 := x3 na _ naj ena
    intro p1 hp1
    have np1 : na ≠ p1 := ne_of_some ena3 hp1
    refine lcD_pure (fun _ => .int 0) s3 cs [] (fun d m acc Q' q' => ?_) (fun _ => trivial) (size_small' (by simp; omega)) ?_
    · walk_at "rd"; exact q'
    rw [List.nil_append]
    have S3' := S3.new (x := .lst (cs.map fun _ => D.int 0)) hp1
    have ena4 : (s3.set p1 (.lst (cs.map fun _ => D.int 0))) na = some (.lst names) := by rw [DL.S.set_ne np1]; exact ena3
    have ep1 : (s3.set p1 (.lst (cs.map fun _ => D.int 0))) p1 = _ := DL.S.set_same
    generalize (s3.set p1 (.lst (cs.map fun _ => D.int 0))) = s4 at *
    refine ⟨_, ep1, names, ena4, fun p2 hp2 => ?_⟩
    have np2 : na ≠ p2 := ne_of_some ena4 hp2
    refine lcD_pure (fun d => .tup [d, .tup []]) s4 names [] (fun d m acc Q' q' => ?_) (fun acc => by rw [DL.S.set_ne np2]; exact ena4) (size_small' (by simp; omega)) ?_
    · walk_at "rd"; exact q'
    rw [List.nil_append]
    have S4 := S3'.new (x := .lst (names.map fun d => D.tup [d, .tup []])) hp2
    have ep2 : (s4.set p2 (.lst (names.map fun d => D.tup [d, .tup []]))) p2 = _ := DL.S.set_same
    generalize (s4.set p2 (.lst (names.map fun d => D.tup [d, .tup []]))) = s5 at *
    refine ⟨_, ep2, ?_⟩
    have hb : Bk (.tup [.str (Str.ofString "book"), .str z, .tup (cs.map fun _ => D.int 0), .tup (names.map fun d => D.tup [d, .tup []])]) B := ⟨⟨_, _, _, _, rfl, by rw [List.length_map]; exact hnl⟩, hB1, by omega⟩
    generalize D.tup [.str (Str.ofString "book"), .str z, .tup (cs.map fun _ => D.int 0), .tup (names.map fun d => D.tup [d, .tup []])] = book at *
    generalize D.tup [x1, x2, .tup cs, .tup rs, .tup prs] = p at *
    unfold b_law_4
    walk_at "rd"
    refine ⟨p, book, R, Ls, B, hp, hb, hpx.r2, call_g (n := 600000) (S4.mono (by omega)) rfl fun paper s6 S6 _ pap => ?_⟩
    obtain ⟨bs, rfl⟩ := pap.bs
    have okp : Ok 36 (.tup [.str (Str.ofString "credits"), .tup bs]) := pu_ok pap.pu (by decide)
    have hpok := pap.ok
    have puB : Pu 6 (.tup bs) := pap.pu.sub (by simp)
    have hbl := puB.len
    unfold b_law_5
    walk_at "rd"
    refine ⟨by decide, fun p3 hp3 => ?_⟩
    refine of_new (n := 599999) S6 hp3 (by simp) (by simp) fun other s7 m S7 _ => ?_
    have oko : Ok 36 other := by
      have cr : ∀ {k}, Ok k (.str (Str.ofString "credits")) := ok_str cred_ok.1 (by have := cred_ok.2; omega)
      have em : ∀ {k}, Ok k (.str (Str.ofString "")) := ok_str (lits "" (by simp)).1 (by have := (lits "" (by simp)).2; omega)
      simp only [List.mem_cons, List.not_mem_nil, or_false] at m
      rcases m with rfl | rfl | rfl | rfl | rfl | rfl | rfl | rfl | rfl
      · exact ok_non
      · exact ok_bl _
      · exact ok_int _
      · exact cr
      · exact ok_nil
      · exact ok_one cr
      · refine Ok.tup (fun x m => ?_) (by simp)
        simp only [List.mem_cons, List.not_mem_nil, or_false] at m
        rcases m with rfl | rfl
        · exact cr
        · exact ok_non
      · refine Ok.tup (fun x m => ?_) (by simp)
        simp only [List.mem_cons, List.not_mem_nil, or_false] at m
        rcases m with rfl | rfl | rfl
        · exact cr
        · exact em
        · exact ok_nil
      · refine Ok.tup (fun x m => ?_) (by simp)
        simp only [List.mem_cons, List.not_mem_nil, or_false] at m
        rcases m with rfl | rfl <;> exact ok_nil
    clear m
    unfold b_law_6
    walk_at "rd"
    have c1 := cutD_len bs none (some 1)
    have c2 := cutD_len bs (some (-1)) none
    refine ⟨sz (by omega), fun th hth => ?_⟩
    have B6 : ∀ x ∈ bs, Ok 30 x := fun x m => pu_ok (puB.sub m) (by decide)
    have all : ∀ x ∈ [D.tup [.str (Str.ofString "credits"), .tup bs], .tup [.str (Str.ofString "credits"), .tup (cutD bs none (some 1))], .tup [.str (Str.ofString "credits"), .tup (bs ++ cutD bs (some (-1)) none)], other], Ok 36 x := by
      have two : ∀ ys : List D, (∀ x ∈ ys, Ok 30 x) → ys.length ≤ 1000 → Ok 36 (.tup [.str (Str.ofString "credits"), .tup ys]) := fun ys h l => (Ok.tup (k := 31) (fun x m => by
        simp only [List.mem_cons, List.not_mem_nil, or_false] at m
        rcases m with rfl | rfl
        · exact ok_str cred_ok.1 (by have := cred_ok.2; omega)
        · exact Ok.tup h (by omega)) (by simp)).mono (by decide)
      intro x m
      simp only [List.mem_cons, List.not_mem_nil, or_false] at m
      rcases m with rfl | rfl | rfl | rfl
      · exact okp
      · exact two _ (cut_ok B6) (by omega)
      · exact two _ (app_ok B6 (cut_ok B6)) (by rw [List.length_append]; omega)
      · exact oko
    generalize hxs : [D.tup [.str (Str.ofString "credits"), .tup bs], .tup [.str (Str.ofString "credits"), .tup (cutD bs none (some 1))], .tup [.str (Str.ofString "credits"), .tup (bs ++ cutD bs (some (-1)) none)], other] = things at all ⊢
    have hthl : things.length = 4 := by rw [← hxs]; rfl
    have thj := (S7.fresh hth).2.1
    unfold b_law_7
    walk_at "rd"
    refine ⟨_, 14, pap.pu, by decide, call_g (n := 500000) ((S7.new hth).mono (by omega)) rfl fun y s8 S8 x8 ⟨bp, bents, hy, _, ebp, hbel, hbents⟩ => ?_⟩
    subst hy
    have eth := x8 th _ thj DL.S.set_same
    walk_at "rd"
    refine ⟨_, eth, _, ebp, sz (by omega), fun l2 hl2 => ?_⟩
    have S9 := S8.new (x := .lst (things ++ bents)) hl2
    refine things_loop (a := a) (na := na) (th := th) (other := other) hp hb (app_ok all fun x m => (hbents x m).mono (by decide)) S9 DL.S.set_same fun o8 o10 => ?_
    generalize s8.set l2 (.lst (things ++ bents)) = s9 at *
    unfold b_law_8 sgL
    walk_at "rd"
    have hbok : ∀ x ∈ bs, blockB R B Ls x = true := by
      simp only [creditsB, Bool.and_eq_true, List.all_eq_true] at hpok
      exact hpok.2.1
    refine for_inv (fun i σ s => i ≤ bs.length ∧ ∃ o8 o9 o10 o11 o12, σ = sgL a j p book (.tup [.str (Str.ofString "credits"), .tup bs]) other na th o8 o9 o10 o11 o12 ∧ St j c s0 (1000 + (6 - i) * 60) s) bs 0 _ _ (fun _ _ _ _ => trivial) ?_ ?_ ?_
    · rintro i blk σ s hd ⟨hi, o8, o9, o10, o11, o12, rfl, S⟩ N hN
      have hi' : i < bs.length := (List.getElem?_eq_some_iff.mp hd).1
      have mb := List.mem_of_getElem? hd
      show l_law_2 K _ _ _ _ _ _ _ _ _ _ _ _ _ _ (sgL a j p book (.tup [.str (Str.ofString "credits"), .tup bs]) other na th o8 (some blk) o10 o11 o12) s
      refine block_turn (n := 1000 + (6 - (0 + i + 1)) * 60) hp hb (hbok blk mb) (puB.sub mb) (S.mono (by omega)) fun o8 o10 o11 o12 s' S' => ?_
      exact hN _ _ ⟨by omega, _, _, _, _, _, rfl, S'⟩
    · rintro σ s ⟨hi, o8, o9, o10, o11, o12, rfl, S⟩
      unfold b_law_9 sgL
      walk_at "rd"
      refine ⟨p, book, R, Ls, B, _, 30, rfl, by decide, hp, hb, okp, ?_⟩
      rw [hpok]
      walk_at "rd"
      refine ⟨p, book, R, Ls, B, _, 30, rfl, by decide, hp, hb, ?_, ?_⟩
      · refine Ok.tup (k := 35) (fun x m => ?_) (by simp)
        simp only [List.mem_cons, List.not_mem_nil, or_false] at m
        rcases m with rfl | rfl
        · exact ok_str cred_ok.1 (by have := cred_ok.2; omega)
        · exact ok_nil
      · have e : creditsB R B Ls (.tup [.str (Str.ofString "credits"), .tup []]) = true := by simp [creditsB, D.eqv, climb]
        rw [e]
        walk_at "rd"
        exact fq s
    · exact ⟨by omega, _, _, _, _, _, rfl, S9.mono (by omega)⟩
  refine call_g (n := 850000) (S0.mono (by omega)) ⟨3, rfl, by decide, by decide⟩ fun d s1 S1 x1 ⟨t, ht⟩ => ?_
  subst ht
  rw [rTru_b]
  cases t
  · rw [if_neg (by decide)]
    refine call_g (n := 800000) (S1.mono (by omega)) ⟨_, _, rfl⟩ fun p s2 S2 x2 ⟨R, Ls, h⟩ => rest p R Ls s2 h S2
  · rw [if_pos rfl]
    refine call_g (n := 800000) (S1.mono (by omega)) rfl fun p s2 S2 x2 ⟨R, Ls, h⟩ => rest p R Ls s2 h S2
end Toy

set_option maxHeartbeats 400000
namespace Toy
open PySem DL
theorem len_g {cost : Nat} {pre : List D → S → Addr → Prop} {post : List D → S → D → S → Prop} {k : Nat} (hp : ∀ as s j, pre as s j → as.length = k) {ds : List D} {s : S} {Q : QD} (h : spG cost pre post ds s Q) : ds.length = k + 1 := by
  obtain ⟨j, c, n, as, rfl, p, _⟩ := h
  rw [List.length_cons, hp as s j p]
theorem len_one_in : ∀ ds s Q, sp_one_in ds s Q → ds.length = 2 := fun ds s Q h => len_g (fun as s j ⟨m, e, _⟩ => by rw [e]; rfl) h
theorem len_stem : ∀ ds s Q, sp_stem ds s Q → ds.length = 1 := fun ds s Q h => len_g (fun as s j e => by rw [e]; rfl) h
theorem len_name : ∀ ds s Q, sp_name ds s Q → ds.length = 2 := fun ds s Q h => len_g (fun as s j ⟨p, xs, e, _⟩ => by rw [e]; rfl) h
theorem len_names : ∀ ds s Q, sp_names ds s Q → ds.length = 2 := fun ds s Q ⟨_, _, h⟩ => len_g (fun as s j e => by rw [e]; rfl) h
theorem len_target : ∀ ds s Q, sp_target ds s Q → ds.length = 3 := fun ds s Q ⟨_, _, _, _, h⟩ => len_g (fun as s j e => by rw [e]; rfl) h
theorem len_price : ∀ ds s Q, sp_price ds s Q → ds.length = 2 := fun ds s Q h => len_g (fun as s j ⟨_, e⟩ => by rw [e]; rfl) h
theorem len_words : ∀ ds s Q, sp_words ds s Q → ds.length = 7 := fun ds s Q ⟨_, _, _, _, _, _, _, _, h⟩ => len_g (fun as s j e => by rw [e]; rfl) h
theorem len_shape : ∀ ds s Q, sp_shape ds s Q → ds.length = 2 := fun ds s Q h => len_g (fun as s j ⟨_, e⟩ => by rw [e]; rfl) h
theorem len_callee : ∀ ds s Q, sp_callee ds s Q → ds.length = 5 := fun ds s Q ⟨_, _, _, _, _, _, _, _, h⟩ => len_g (fun as s j e => by rw [e]; rfl) h
theorem len_deed : ∀ ds s Q, sp_deed ds s Q → ds.length = 8 := fun ds s Q ⟨_, _, _, _, _, _, _, _, _, _, _, _, _, _, _, _, _, _, _, _, _, _, h⟩ => len_g (fun as s j e => by rw [e]; rfl) h
theorem len_program : ∀ ds s Q, sp_program ds s Q → ds.length = 3 := fun ds s Q h => len_g (fun as s j ⟨_, _, e⟩ => by rw [e]; rfl) h
theorem len_great : ∀ ds s Q, sp_great ds s Q → ds.length = 1 := fun ds s Q h => len_g (fun as s j e => by rw [e]; rfl) h
theorem len_spot : ∀ ds s Q, sp_spot ds s Q → ds.length = 4 := fun ds s Q ⟨_, _, _, _, _, _, _, _, _, _, _, h⟩ => len_g (fun as s j e => by rw [e]; rfl) h
theorem len_much : ∀ ds s Q, sp_much ds s Q → ds.length = 1 := fun ds s Q h => len_g (fun as s j e => by rw [e]; rfl) h
theorem len_priced : ∀ ds s Q, sp_priced ds s Q → ds.length = 2 := fun ds s Q ⟨_, _, _, _, _, _, _, _, h⟩ => len_g (fun as s j e => by rw [e]; rfl) h
theorem len_formed : ∀ ds s Q, sp_formed ds s Q → ds.length = 3 := fun ds s Q ⟨_, _, _, _, _, _, _, _, h⟩ => len_g (fun as s j e => by rw [e]; rfl) h
theorem len_odd : ∀ ds s Q, sp_odd ds s Q → ds.length = 2 := fun ds s Q ⟨_, _, _, h⟩ => len_g (fun as s j e => by rw [e]; rfl) h
theorem len_bent : ∀ ds s Q, sp_bent ds s Q → ds.length = 3 := fun ds s Q ⟨_, _, _, _, h⟩ => len_g (fun as s j e => by rw [e]; rfl) h
end Toy

set_option maxHeartbeats 4000000
namespace Toy
open PySem PySem.Spec L2 DL
variable {P : Program} {w : World} {K : PySem.W.Frag} {mg : Str → Option Value} {base : Heap}
theorem sc_is_number : FnScope N_is_number ["thing", "low", "high"] (defScope s_is_number) := ⟨rfl, rfl, rfl, by decide +kernel, rfl, by decide +kernel, by decide +kernel⟩
theorem der_is_number {sp : DSp} (T : Tp K mg)  (len : ∀ ds s Q, sp ds s Q → ds.length = 3)
    (rd : ∀ ds s Q, sp ds s Q → t_is_number K  (endsOf Q) (startD N_is_number ds) s) : Known P w K mg base (1) "is_number" sp := by
  obtain ⟨f, fd, F, gm⟩ := T.def_ 0 0 (d := d_is_number) (by rfl) (by rfl) (by rfl)
  refine known_of (k := 0) F gm sc_is_number (F.bindsN fun _ _ _ _ _ _ us hl => match us, hl with | [_, _, _], _ => rfl) (ps := ["thing", "low", "high"]) len (fun cdv A outer s H E hr => ⟨t_is_number K , ?_, rd⟩)
  unfold t_is_number
  exact (dss_cons (ds_if (dt_w (dw_or (dt_not (dt_truth (de_isi .int (by rfl) (T.free 55 (by rfl)) (by rfl) (T.free 54 (by rfl)) (de_var (i := 0))))) (dw_or1 (dt_truth (de_isi .bool (by rfl) (T.free 55 (by rfl)) (by rfl) (T.free 53 (by rfl)) (de_var (i := 0))))))) (dss_one (ds_ret de_bl)) dss_nil)
    (dss_one (ds_ret (de_chain cm_le cm_le (de_var (i := 1)) (de_var (i := 0)) (de_var (i := 2))))))
theorem sc_is_name : FnScope N_is_name ["thing"] (defScope s_is_name) := ⟨rfl, rfl, rfl, by decide +kernel, rfl, by decide +kernel, by decide +kernel⟩
theorem der_is_name {sp : DSp} (T : Tp K mg)  (len : ∀ ds s Q, sp ds s Q → ds.length = 1)
    (rd : ∀ ds s Q, sp ds s Q → t_is_name K  (endsOf Q) (startD N_is_name ds) s) : Known P w K mg base (1) "is_name" sp := by
  obtain ⟨f, fd, F, gm⟩ := T.def_ 1 1 (d := d_is_name) (by rfl) (by rfl) (by rfl)
  have c_LETTERS := T.str 63 (by rfl)
  have c_SIGNS := T.str 64 (by rfl)
  refine known_of (k := 0) F gm sc_is_name (F.bindsN fun _ _ _ _ _ _ us hl => match us, hl with | [_], _ => rfl) (ps := ["thing"]) len (fun cdv A outer s H E hr => ⟨t_is_name K , ?_, rd⟩)
  unfold t_is_name
  exact (dss_cons (ds_if (dt_w (dw_or (dt_not (dt_truth (de_isi .str (by rfl) (T.free 55 (by rfl)) (by rfl) (T.free 60 (by rfl)) (de_var (i := 0))))) (dw_or1 (dt_not (dt_chain cm_le cm_le de_int (de_len (by rfl) (T.free 56 (by rfl)) (da_cons (de_var (i := 0)) da_nil)) de_int))))) (dss_one (ds_ret de_bl)) dss_nil)
    (dss_one (ds_ret (de_and (de_cmp (cm_in (u65 hr)) (de_ix (de_var (i := 0)) de_int) (de_gstr (by rfl) c_LETTERS)) (de_one (de_all rfl (by rfl) (T.free 52 (by rfl)) (da_cons (de_lc (own := [("sign", 1)]) rfl sc_is_name.nd (di_any (de_var (i := 0))) (blkOk_by (N := N_is_name) (sc := defScope s_is_name) (by decide +kernel)) (fun _ _ _ _ _ => (dg_name 1 sc_is_name.nd)) (fun _ _ _ _ _ => dts_nil) (fun _ _ _ _ _ => (de_cmp (cm_in (u65 hr)) (de_var (i := 1)) (de_gstr (by rfl) c_SIGNS)))) da_nil)))))))
theorem sc_is_tuple : FnScope N_is_tuple ["thing", "least", "most"] (defScope s_is_tuple) := ⟨rfl, rfl, rfl, by decide +kernel, rfl, by decide +kernel, by decide +kernel⟩
theorem der_is_tuple {sp : DSp} (T : Tp K mg)  (len : ∀ ds s Q, sp ds s Q → ds.length = 3)
    (rd : ∀ ds s Q, sp ds s Q → t_is_tuple K  (endsOf Q) (startD N_is_tuple ds) s) : Known P w K mg base (1) "is_tuple" sp := by
  obtain ⟨f, fd, F, gm⟩ := T.def_ 2 2 (d := d_is_tuple) (by rfl) (by rfl) (by rfl)
  refine known_of (k := 0) F gm sc_is_tuple (F.bindsN fun _ _ _ _ _ _ us hl => match us, hl with | [_, _, _], _ => rfl) (ps := ["thing", "least", "most"]) len (fun cdv A outer s H E hr => ⟨t_is_tuple K , ?_, rd⟩)
  unfold t_is_tuple
  exact (dss_one (ds_ret (de_and (de_isi .tuple (by rfl) (T.free 55 (by rfl)) (by rfl) (T.free 61 (by rfl)) (de_var (i := 0))) (de_one (de_chain cm_le cm_le (de_var (i := 1)) (de_len (by rfl) (T.free 56 (by rfl)) (da_cons (de_var (i := 0)) da_nil)) (de_var (i := 2)))))))
theorem sc_are_numbers : FnScope N_are_numbers ["thing", "many", "low", "high"] (defScope s_are_numbers) := ⟨rfl, rfl, rfl, by decide +kernel, rfl, by decide +kernel, by decide +kernel⟩
theorem der_are_numbers {sp sp_is_tuple sp_is_number : DSp} (T : Tp K mg) (G_is_tuple : Known P w K mg base 1 "is_tuple" sp_is_tuple) (G_is_number : Known P w K mg base 1 "is_number" sp_is_number) (len : ∀ ds s Q, sp ds s Q → ds.length = 4)
    (rd : ∀ ds s Q, sp ds s Q → t_are_numbers K sp_is_tuple sp_is_number (endsOf Q) (startD N_are_numbers ds) s) : Known P w K mg base (2) "are_numbers" sp := by
  obtain ⟨f, fd, F, gm⟩ := T.def_ 3 3 (d := d_are_numbers) (by rfl) (by rfl) (by rfl)
  refine known_of (k := 1) F gm sc_are_numbers (F.bindsN fun _ _ _ _ _ _ us hl => match us, hl with | [_, _, _, _], _ => rfl) (ps := ["thing", "many", "low", "high"]) len (fun cdv A outer s H E hr => ⟨t_are_numbers K sp_is_tuple sp_is_number, ?_, rd⟩)
  unfold t_are_numbers
  exact (dss_one (ds_ret (de_and (de_call G_is_tuple (hr.mono (by first | decide | omega)) (by rfl) (da_cons (de_var (i := 0)) (da_cons (de_var (i := 1)) (da_cons (de_var (i := 1)) da_nil)))) (de_one (de_all rfl (by rfl) (T.free 52 (by rfl)) (da_cons (de_lc (own := [("number", 4)]) rfl sc_are_numbers.nd (di_any (de_var (i := 0))) (blkOk_by (N := N_are_numbers) (sc := defScope s_are_numbers) (by decide +kernel)) (fun _ _ _ _ _ => (dg_name 4 sc_are_numbers.nd)) (fun _ _ _ _ _ => dts_nil) (fun _ _ _ _ _ => (de_call G_is_number (hr.mono (by first | decide | omega)) (by rfl) (da_cons (de_var (i := 4)) (da_cons (de_var (i := 2)) (da_cons (de_var (i := 3)) da_nil)))))) da_nil))))))
theorem sc_is_ascending : FnScope N_is_ascending ["row"] (defScope s_is_ascending) := ⟨rfl, rfl, rfl, by decide +kernel, rfl, by decide +kernel, by decide +kernel⟩
theorem der_is_ascending {sp : DSp} (T : Tp K mg)  (len : ∀ ds s Q, sp ds s Q → ds.length = 1)
    (rd : ∀ ds s Q, sp ds s Q → t_is_ascending K  (endsOf Q) (startD N_is_ascending ds) s) : Known P w K mg base (1) "is_ascending" sp := by
  obtain ⟨f, fd, F, gm⟩ := T.def_ 4 4 (d := d_is_ascending) (by rfl) (by rfl) (by rfl)
  refine known_of (k := 0) F gm sc_is_ascending (F.bindsN fun _ _ _ _ _ _ us hl => match us, hl with | [_], _ => rfl) (ps := ["row"]) len (fun cdv A outer s H E hr => ⟨t_is_ascending K , ?_, rd⟩)
  unfold t_is_ascending
  exact (dss_one (ds_ret (de_all rfl (by rfl) (T.free 52 (by rfl)) (da_cons (de_lc (own := [("one", 1), ("two", 2)]) rfl sc_is_ascending.nd (di_zip (by rfl) (T.free 62 (by rfl)) (da_cons (de_var (i := 0)) (da_cons (de_slice (de_var (i := 0)) (do_some de_int) do_none) da_nil))) (blkOk_by (N := N_is_ascending) (sc := defScope s_is_ascending) (by decide +kernel)) (fun _ _ _ _ _ => (dg_tup rfl (dgs_cons (dg_name 1 sc_is_ascending.nd) (dgs_cons (dg_name 2 sc_is_ascending.nd) dgs_nil)))) (fun _ _ _ _ _ => dts_nil) (fun _ _ _ _ _ => (de_cmp (cm_ltD hr.units) (de_var (i := 1)) (de_var (i := 2))))) da_nil))))
theorem sc_is_ended : FnScope N_is_ended ["program", "thing"] (defScope s_is_ended) := ⟨rfl, rfl, rfl, by decide +kernel, rfl, by decide +kernel, by decide +kernel⟩
theorem der_is_ended {sp sp_are_numbers : DSp} (T : Tp K mg) (G_are_numbers : Known P w K mg base 2 "are_numbers" sp_are_numbers) (len : ∀ ds s Q, sp ds s Q → ds.length = 2)
    (rd : ∀ ds s Q, sp ds s Q → t_is_ended K sp_are_numbers (endsOf Q) (startD N_is_ended ds) s) : Known P w K mg base (3) "is_ended" sp := by
  obtain ⟨f, fd, F, gm⟩ := T.def_ 5 5 (d := d_is_ended) (by rfl) (by rfl) (by rfl)
  refine known_of (k := 2) F gm sc_is_ended (F.bindsN fun _ _ _ _ _ _ us hl => match us, hl with | [_, _], _ => rfl) (ps := ["program", "thing"]) len (fun cdv A outer s H E hr => ⟨t_is_ended K sp_are_numbers, ?_, rd⟩)
  unfold t_is_ended
  exact (dss_one (ds_ret (de_call G_are_numbers (hr.mono (by first | decide | omega)) (by rfl) (da_cons (de_var (i := 1)) (da_cons (de_len (by rfl) (T.free 56 (by rfl)) (da_cons (de_ix (de_var (i := 0)) de_int) da_nil)) (da_cons de_int (da_cons de_int da_nil)))))))
theorem sc_is_frame : FnScope N_is_frame ["program", "book", "thing"] (defScope s_is_frame) := ⟨rfl, rfl, rfl, by decide +kernel, rfl, by decide +kernel, by decide +kernel⟩
theorem der_is_frame {sp sp_is_ended sp_is_number sp_is_tuple : DSp} (T : Tp K mg) (G_is_ended : Known P w K mg base 3 "is_ended" sp_is_ended) (G_is_number : Known P w K mg base 1 "is_number" sp_is_number) (G_is_tuple : Known P w K mg base 1 "is_tuple" sp_is_tuple) (len : ∀ ds s Q, sp ds s Q → ds.length = 3)
    (rd : ∀ ds s Q, sp ds s Q → t_is_frame K sp_is_ended sp_is_number sp_is_tuple (endsOf Q) (startD N_is_frame ds) s) : Known P w K mg base (4) "is_frame" sp := by
  obtain ⟨f, fd, F, gm⟩ := T.def_ 6 6 (d := d_is_frame) (by rfl) (by rfl) (by rfl)
  refine known_of (k := 3) F gm sc_is_frame (F.bindsN fun _ _ _ _ _ _ us hl => match us, hl with | [_, _, _], _ => rfl) (ps := ["program", "book", "thing"]) len (fun cdv A outer s H E hr => ⟨t_is_frame K sp_is_ended sp_is_number sp_is_tuple, ?_, rd⟩)
  unfold t_is_frame
  exact (dss_cons (ds_if (dt_w (dw_or (dt_not (dt_truth (de_call G_is_tuple (hr.mono (by first | decide | omega)) (by rfl) (da_cons (de_var (i := 2)) (da_cons de_int (da_cons de_int da_nil)))))) (dw_or1 (dt_not (dt_truth (de_call G_is_number (hr.mono (by first | decide | omega)) (by rfl) (da_cons (de_ix (de_var (i := 2)) de_int) (da_cons de_int (da_cons (de_sub (de_len (by rfl) (T.free 56 (by rfl)) (da_cons (de_ix (de_var (i := 0)) de_int) da_nil)) de_int) da_nil))))))))) (dss_one (ds_ret de_bl)) dss_nil)
    (dss_one (ds_ret (de_and (de_call G_is_ended (hr.mono (by first | decide | omega)) (by rfl) (da_cons (de_var (i := 0)) (da_cons (de_ix (de_var (i := 2)) de_int) da_nil))) (de_one (de_call G_is_number (hr.mono (by first | decide | omega)) (by rfl) (da_cons (de_ix (de_var (i := 2)) de_int) (da_cons de_int (da_cons (de_sub (de_len (by rfl) (T.free 56 (by rfl)) (da_cons (de_ix (de_var (i := 1)) de_int) da_nil)) de_int) da_nil)))))))))
theorem sc_is_point : FnScope N_is_point ["program", "book", "frame", "thing"] (defScope s_is_point) := ⟨rfl, rfl, rfl, by decide +kernel, rfl, by decide +kernel, by decide +kernel⟩
theorem der_is_point {sp sp_is_ended sp_is_number sp_is_tuple : DSp} (T : Tp K mg) (G_is_ended : Known P w K mg base 3 "is_ended" sp_is_ended) (G_is_number : Known P w K mg base 1 "is_number" sp_is_number) (G_is_tuple : Known P w K mg base 1 "is_tuple" sp_is_tuple) (len : ∀ ds s Q, sp ds s Q → ds.length = 4)
    (rd : ∀ ds s Q, sp ds s Q → t_is_point K sp_is_ended sp_is_number sp_is_tuple (endsOf Q) (startD N_is_point ds) s) : Known P w K mg base (4) "is_point" sp := by
  obtain ⟨f, fd, F, gm⟩ := T.def_ 7 7 (d := d_is_point) (by rfl) (by rfl) (by rfl)
  refine known_of (k := 3) F gm sc_is_point (F.bindsN fun _ _ _ _ _ _ us hl => match us, hl with | [_, _, _, _], _ => rfl) (ps := ["program", "book", "frame", "thing"]) len (fun cdv A outer s H E hr => ⟨t_is_point K sp_is_ended sp_is_number sp_is_tuple, ?_, rd⟩)
  unfold t_is_point
  exact (dss_cons (ds_if (dt_w (dw_or (dt_not (dt_truth (de_call G_is_tuple (hr.mono (by first | decide | omega)) (by rfl) (da_cons (de_var (i := 3)) (da_cons de_int (da_cons de_int da_nil)))))) (dw_or1 (dt_not (dt_truth (de_call G_is_number (hr.mono (by first | decide | omega)) (by rfl) (da_cons (de_ix (de_var (i := 3)) de_int) (da_cons de_int (da_cons (de_sub (de_len (by rfl) (T.free 56 (by rfl)) (da_cons (de_ix (de_ix (de_ix (de_var (i := 0)) de_int) (de_ix (de_var (i := 2)) de_int)) de_int) da_nil)) de_int) da_nil))))))))) (dss_one (ds_ret de_bl)) dss_nil)
    (dss_one (ds_ret (de_and (de_call G_is_ended (hr.mono (by first | decide | omega)) (by rfl) (da_cons (de_var (i := 0)) (da_cons (de_ix (de_var (i := 3)) de_int) da_nil))) (de_one (de_call G_is_number (hr.mono (by first | decide | omega)) (by rfl) (da_cons (de_ix (de_var (i := 3)) de_int) (da_cons de_int (da_cons (de_sub (de_len (by rfl) (T.free 56 (by rfl)) (da_cons (de_ix (de_var (i := 1)) de_int) da_nil)) de_int) da_nil)))))))))
theorem sc_is_exit : FnScope N_is_exit ["program", "book", "thing"] (defScope s_is_exit) := ⟨rfl, rfl, rfl, by decide +kernel, rfl, by decide +kernel, by decide +kernel⟩
theorem der_is_exit {sp sp_is_ended sp_is_number sp_is_tuple sp_is_name : DSp} (T : Tp K mg) (G_is_ended : Known P w K mg base 3 "is_ended" sp_is_ended) (G_is_number : Known P w K mg base 1 "is_number" sp_is_number) (G_is_tuple : Known P w K mg base 1 "is_tuple" sp_is_tuple) (G_is_name : Known P w K mg base 1 "is_name" sp_is_name) (len : ∀ ds s Q, sp ds s Q → ds.length = 3)
    (rd : ∀ ds s Q, sp ds s Q → t_is_exit K sp_is_ended sp_is_number sp_is_tuple sp_is_name (endsOf Q) (startD N_is_exit ds) s) : Known P w K mg base (4) "is_exit" sp := by
  obtain ⟨f, fd, F, gm⟩ := T.def_ 8 8 (d := d_is_exit) (by rfl) (by rfl) (by rfl)
  refine known_of (k := 3) F gm sc_is_exit (F.bindsN fun _ _ _ _ _ _ us hl => match us, hl with | [_, _, _], _ => rfl) (ps := ["program", "book", "thing"]) len (fun cdv A outer s H E hr => ⟨t_is_exit K sp_is_ended sp_is_number sp_is_tuple sp_is_name, ?_, rd⟩)
  unfold t_is_exit
  exact (dss_cons (ds_if (dt_w (dw_or (dt_not (dt_truth (de_call G_is_tuple (hr.mono (by first | decide | omega)) (by rfl) (da_cons (de_var (i := 2)) (da_cons de_int (da_cons de_int da_nil)))))) (dw_or1 (dt_not (dt_truth (de_call G_is_name (hr.mono (by first | decide | omega)) (by rfl) (da_cons (de_ix (de_var (i := 2)) de_int) da_nil))))))) (dss_one (ds_ret de_bl)) dss_nil)
    (dss_one (ds_ret (de_and (de_call G_is_ended (hr.mono (by first | decide | omega)) (by rfl) (da_cons (de_var (i := 0)) (da_cons (de_ix (de_var (i := 2)) de_int) da_nil))) (de_one (de_call G_is_number (hr.mono (by first | decide | omega)) (by rfl) (da_cons (de_ix (de_var (i := 2)) de_int) (da_cons de_int (da_cons (de_sub (de_len (by rfl) (T.free 56 (by rfl)) (da_cons (de_ix (de_var (i := 1)) de_int) da_nil)) de_int) da_nil)))))))))
theorem sc_is_amount : FnScope N_is_amount ["thing"] (defScope s_is_amount) := ⟨rfl, rfl, rfl, by decide +kernel, rfl, by decide +kernel, by decide +kernel⟩
theorem der_is_amount {sp : DSp} (T : Tp K mg)  (len : ∀ ds s Q, sp ds s Q → ds.length = 1)
    (rd : ∀ ds s Q, sp ds s Q → t_is_amount K  (endsOf Q) (startD N_is_amount ds) s) : Known P w K mg base (1) "is_amount" sp := by
  obtain ⟨f, fd, F, gm⟩ := T.def_ 9 9 (d := d_is_amount) (by rfl) (by rfl) (by rfl)
  refine known_of (k := 0) F gm sc_is_amount (F.bindsN fun _ _ _ _ _ _ us hl => match us, hl with | [_], _ => rfl) (ps := ["thing"]) len (fun cdv A outer s H E hr => ⟨t_is_amount K , ?_, rd⟩)
  unfold t_is_amount
  exact (dss_one (ds_ret (de_and (de_isi .int (by rfl) (T.free 55 (by rfl)) (by rfl) (T.free 54 (by rfl)) (de_var (i := 0))) (de_and (de_not (de_isi .bool (by rfl) (T.free 55 (by rfl)) (by rfl) (T.free 53 (by rfl)) (de_var (i := 0)))) (de_one (de_cmp cm_ge (de_var (i := 0)) de_int))))))
theorem sc_are_pairs : FnScope N_are_pairs ["thing"] (defScope s_are_pairs) := ⟨rfl, rfl, rfl, by decide +kernel, rfl, by decide +kernel, by decide +kernel⟩
theorem der_are_pairs {sp sp_is_tuple : DSp} (T : Tp K mg) (G_is_tuple : Known P w K mg base 1 "is_tuple" sp_is_tuple) (len : ∀ ds s Q, sp ds s Q → ds.length = 1)
    (rd : ∀ ds s Q, sp ds s Q → t_are_pairs K sp_is_tuple (endsOf Q) (startD N_are_pairs ds) s) : Known P w K mg base (2) "are_pairs" sp := by
  obtain ⟨f, fd, F, gm⟩ := T.def_ 10 10 (d := d_are_pairs) (by rfl) (by rfl) (by rfl)
  refine known_of (k := 1) F gm sc_are_pairs (F.bindsN fun _ _ _ _ _ _ us hl => match us, hl with | [_], _ => rfl) (ps := ["thing"]) len (fun cdv A outer s H E hr => ⟨t_are_pairs K sp_is_tuple, ?_, rd⟩)
  unfold t_are_pairs
  exact (dss_one (ds_ret (de_and (de_isi .tuple (by rfl) (T.free 55 (by rfl)) (by rfl) (T.free 61 (by rfl)) (de_var (i := 0))) (de_one (de_all rfl (by rfl) (T.free 52 (by rfl)) (da_cons (de_lc (own := [("pair", 1)]) rfl sc_are_pairs.nd (di_any (de_var (i := 0))) (blkOk_by (N := N_are_pairs) (sc := defScope s_are_pairs) (by decide +kernel)) (fun _ _ _ _ _ => (dg_name 1 sc_are_pairs.nd)) (fun _ _ _ _ _ => dts_nil) (fun _ _ _ _ _ => (de_call G_is_tuple (hr.mono (by first | decide | omega)) (by rfl) (da_cons (de_var (i := 1)) (da_cons de_int (da_cons de_int da_nil)))))) da_nil))))))
theorem sc_are_lefts : FnScope N_are_lefts ["program", "book", "thing"] (defScope s_are_lefts) := ⟨rfl, rfl, rfl, by decide +kernel, rfl, by decide +kernel, by decide +kernel⟩
theorem der_are_lefts {sp sp_is_ascending sp_are_pairs sp_is_exit sp_is_amount : DSp} (T : Tp K mg) (G_is_ascending : Known P w K mg base 1 "is_ascending" sp_is_ascending) (G_are_pairs : Known P w K mg base 2 "are_pairs" sp_are_pairs) (G_is_exit : Known P w K mg base 4 "is_exit" sp_is_exit) (G_is_amount : Known P w K mg base 1 "is_amount" sp_is_amount) (len : ∀ ds s Q, sp ds s Q → ds.length = 3)
    (rd : ∀ ds s Q, sp ds s Q → t_are_lefts K sp_is_ascending sp_are_pairs sp_is_exit sp_is_amount (endsOf Q) (startD N_are_lefts ds) s) : Known P w K mg base (5) "are_lefts" sp := by
  obtain ⟨f, fd, F, gm⟩ := T.def_ 11 11 (d := d_are_lefts) (by rfl) (by rfl) (by rfl)
  refine known_of (k := 4) F gm sc_are_lefts (F.bindsN fun _ _ _ _ _ _ us hl => match us, hl with | [_, _, _], _ => rfl) (ps := ["program", "book", "thing"]) len (fun cdv A outer s H E hr => ⟨t_are_lefts K sp_is_ascending sp_are_pairs sp_is_exit sp_is_amount, ?_, rd⟩)
  unfold t_are_lefts
  exact (dss_cons (ds_if (dt_not (dt_truth (de_call G_are_pairs (hr.mono (by first | decide | omega)) (by rfl) (da_cons (de_var (i := 2)) da_nil)))) (dss_one (ds_ret de_bl)) dss_nil)
    (dss_cons (ds_if (dt_not (dt_truth (de_all rfl (by rfl) (T.free 52 (by rfl)) (da_cons (de_lc (own := [("pair", 3)]) rfl sc_are_lefts.nd (di_any (de_var (i := 2))) (blkOk_by (N := N_are_lefts) (sc := defScope s_are_lefts) (by decide +kernel)) (fun _ _ _ _ _ => (dg_name 3 sc_are_lefts.nd)) (fun _ _ _ _ _ => dts_nil) (fun _ _ _ _ _ => (de_and (de_call G_is_exit (hr.mono (by first | decide | omega)) (by rfl) (da_cons (de_var (i := 0)) (da_cons (de_var (i := 1)) (da_cons (de_ix (de_var (i := 3)) de_int) da_nil)))) (de_one (de_call G_is_amount (hr.mono (by first | decide | omega)) (by rfl) (da_cons (de_ix (de_var (i := 3)) de_int) da_nil)))))) da_nil)))) (dss_one (ds_ret de_bl)) dss_nil)
    (dss_one (ds_ret (de_call G_is_ascending (hr.mono (by first | decide | omega)) (by rfl) (da_cons (de_lc (own := [("pair", 3)]) rfl sc_are_lefts.nd (di_any (de_var (i := 2))) (blkOk_by (N := N_are_lefts) (sc := defScope s_are_lefts) (by decide +kernel)) (fun _ _ _ _ _ => (dg_name 3 sc_are_lefts.nd)) (fun _ _ _ _ _ => dts_nil) (fun _ _ _ _ _ => (de_ix (de_var (i := 3)) de_int))) da_nil))))))
theorem sc_are_helds : FnScope N_are_helds ["program", "book", "frame", "thing"] (defScope s_are_helds) := ⟨rfl, rfl, rfl, by decide +kernel, rfl, by decide +kernel, by decide +kernel⟩
theorem der_are_helds {sp sp_is_ascending sp_are_pairs sp_is_point sp_is_amount : DSp} (T : Tp K mg) (G_is_ascending : Known P w K mg base 1 "is_ascending" sp_is_ascending) (G_are_pairs : Known P w K mg base 2 "are_pairs" sp_are_pairs) (G_is_point : Known P w K mg base 4 "is_point" sp_is_point) (G_is_amount : Known P w K mg base 1 "is_amount" sp_is_amount) (len : ∀ ds s Q, sp ds s Q → ds.length = 4)
    (rd : ∀ ds s Q, sp ds s Q → t_are_helds K sp_is_ascending sp_are_pairs sp_is_point sp_is_amount (endsOf Q) (startD N_are_helds ds) s) : Known P w K mg base (5) "are_helds" sp := by
  obtain ⟨f, fd, F, gm⟩ := T.def_ 12 12 (d := d_are_helds) (by rfl) (by rfl) (by rfl)
  refine known_of (k := 4) F gm sc_are_helds (F.bindsN fun _ _ _ _ _ _ us hl => match us, hl with | [_, _, _, _], _ => rfl) (ps := ["program", "book", "frame", "thing"]) len (fun cdv A outer s H E hr => ⟨t_are_helds K sp_is_ascending sp_are_pairs sp_is_point sp_is_amount, ?_, rd⟩)
  unfold t_are_helds
  exact (dss_cons (ds_if (dt_not (dt_truth (de_call G_are_pairs (hr.mono (by first | decide | omega)) (by rfl) (da_cons (de_var (i := 3)) da_nil)))) (dss_one (ds_ret de_bl)) dss_nil)
    (dss_cons (ds_if (dt_not (dt_truth (de_all rfl (by rfl) (T.free 52 (by rfl)) (da_cons (de_lc (own := [("pair", 4)]) rfl sc_are_helds.nd (di_any (de_var (i := 3))) (blkOk_by (N := N_are_helds) (sc := defScope s_are_helds) (by decide +kernel)) (fun _ _ _ _ _ => (dg_name 4 sc_are_helds.nd)) (fun _ _ _ _ _ => dts_nil) (fun _ _ _ _ _ => (de_and (de_call G_is_point (hr.mono (by first | decide | omega)) (by rfl) (da_cons (de_var (i := 0)) (da_cons (de_var (i := 1)) (da_cons (de_var (i := 2)) (da_cons (de_ix (de_var (i := 4)) de_int) da_nil))))) (de_one (de_call G_is_amount (hr.mono (by first | decide | omega)) (by rfl) (da_cons (de_ix (de_var (i := 4)) de_int) da_nil)))))) da_nil)))) (dss_one (ds_ret de_bl)) dss_nil)
    (dss_one (ds_ret (de_call G_is_ascending (hr.mono (by first | decide | omega)) (by rfl) (da_cons (de_lc (own := [("pair", 4)]) rfl sc_are_helds.nd (di_any (de_var (i := 3))) (blkOk_by (N := N_are_helds) (sc := defScope s_are_helds) (by decide +kernel)) (fun _ _ _ _ _ => (dg_name 4 sc_are_helds.nd)) (fun _ _ _ _ _ => dts_nil) (fun _ _ _ _ _ => (de_ix (de_var (i := 4)) de_int))) da_nil))))))
theorem sc_is_block : FnScope N_is_block ["program", "book", "thing"] (defScope s_is_block) := ⟨rfl, rfl, rfl, by decide +kernel, rfl, by decide +kernel, by decide +kernel⟩
theorem der_is_block {sp sp_are_lefts sp_are_helds sp_is_tuple sp_is_frame sp_is_amount : DSp} (T : Tp K mg) (G_are_lefts : Known P w K mg base 5 "are_lefts" sp_are_lefts) (G_are_helds : Known P w K mg base 5 "are_helds" sp_are_helds) (G_is_tuple : Known P w K mg base 1 "is_tuple" sp_is_tuple) (G_is_frame : Known P w K mg base 4 "is_frame" sp_is_frame) (G_is_amount : Known P w K mg base 1 "is_amount" sp_is_amount) (len : ∀ ds s Q, sp ds s Q → ds.length = 3)
    (rd : ∀ ds s Q, sp ds s Q → t_is_block K sp_are_lefts sp_are_helds sp_is_tuple sp_is_frame sp_is_amount (endsOf Q) (startD N_is_block ds) s) : Known P w K mg base (6) "is_block" sp := by
  obtain ⟨f, fd, F, gm⟩ := T.def_ 13 13 (d := d_is_block) (by rfl) (by rfl) (by rfl)
  refine known_of (k := 5) F gm sc_is_block (F.bindsN fun _ _ _ _ _ _ us hl => match us, hl with | [_, _, _], _ => rfl) (ps := ["program", "book", "thing"]) len (fun cdv A outer s H E hr => ⟨t_is_block K sp_are_lefts sp_are_helds sp_is_tuple sp_is_frame sp_is_amount, ?_, rd⟩)
  unfold t_is_block
  exact (dss_cons (ds_if (dt_w (dw_or (dt_not (dt_truth (de_call G_is_tuple (hr.mono (by first | decide | omega)) (by rfl) (da_cons (de_var (i := 2)) (da_cons de_int (da_cons de_int da_nil)))))) (dw_or (dt_not (dt_truth (de_call G_is_frame (hr.mono (by first | decide | omega)) (by rfl) (da_cons (de_var (i := 0)) (da_cons (de_var (i := 1)) (da_cons (de_ix (de_var (i := 2)) de_int) da_nil)))))) (dw_or1 (dt_not (dt_truth (de_call G_is_amount (hr.mono (by first | decide | omega)) (by rfl) (da_cons (de_ix (de_var (i := 2)) de_int) da_nil)))))))) (dss_one (ds_ret de_bl)) dss_nil)
    (dss_one (ds_ret (de_and (de_call G_are_lefts (hr.mono (by first | decide | omega)) (by rfl) (da_cons (de_var (i := 0)) (da_cons (de_var (i := 1)) (da_cons (de_ix (de_var (i := 2)) de_int) da_nil)))) (de_one (de_call G_are_helds (hr.mono (by first | decide | omega)) (by rfl) (da_cons (de_var (i := 0)) (da_cons (de_var (i := 1)) (da_cons (de_ix (de_var (i := 2)) de_int) (da_cons (de_ix (de_var (i := 2)) de_int) da_nil))))))))))
theorem sc_is_credits : FnScope N_is_credits ["program", "book", "thing"] (defScope s_is_credits) := ⟨rfl, rfl, rfl, by decide +kernel, rfl, by decide +kernel, by decide +kernel⟩
theorem der_is_credits {sp sp_is_ascending sp_is_tuple sp_is_block : DSp} (T : Tp K mg) (G_is_ascending : Known P w K mg base 1 "is_ascending" sp_is_ascending) (G_is_tuple : Known P w K mg base 1 "is_tuple" sp_is_tuple) (G_is_block : Known P w K mg base 6 "is_block" sp_is_block) (len : ∀ ds s Q, sp ds s Q → ds.length = 3)
    (rd : ∀ ds s Q, sp ds s Q → t_is_credits K sp_is_ascending sp_is_tuple sp_is_block (endsOf Q) (startD N_is_credits ds) s) : Known P w K mg base (7) "is_credits" sp := by
  obtain ⟨f, fd, F, gm⟩ := T.def_ 14 14 (d := d_is_credits) (by rfl) (by rfl) (by rfl)
  refine known_of (k := 6) F gm sc_is_credits (F.bindsN fun _ _ _ _ _ _ us hl => match us, hl with | [_, _, _], _ => rfl) (ps := ["program", "book", "thing"]) len (fun cdv A outer s H E hr => ⟨t_is_credits K sp_is_ascending sp_is_tuple sp_is_block, ?_, rd⟩)
  unfold t_is_credits
  exact (dss_cons (ds_if (dt_w (dw_or (dt_not (dt_truth (de_call G_is_tuple (hr.mono (by first | decide | omega)) (by rfl) (da_cons (de_var (i := 2)) (da_cons de_int (da_cons de_int da_nil)))))) (dw_or (dt_cmp (cm_ne hr.units) (de_ix (de_var (i := 2)) de_int) de_str) (dw_or1 (dt_not (dt_truth (de_isi .tuple (by rfl) (T.free 55 (by rfl)) (by rfl) (T.free 61 (by rfl)) (de_ix (de_var (i := 2)) de_int)))))))) (dss_one (ds_ret de_bl)) dss_nil)
    (dss_cons (ds_if (dt_not (dt_truth (de_all rfl (by rfl) (T.free 52 (by rfl)) (da_cons (de_lc (own := [("block", 3)]) rfl sc_is_credits.nd (di_any (de_ix (de_var (i := 2)) de_int)) (blkOk_by (N := N_is_credits) (sc := defScope s_is_credits) (by decide +kernel)) (fun _ _ _ _ _ => (dg_name 3 sc_is_credits.nd)) (fun _ _ _ _ _ => dts_nil) (fun _ _ _ _ _ => (de_call G_is_block (hr.mono (by first | decide | omega)) (by rfl) (da_cons (de_var (i := 0)) (da_cons (de_var (i := 1)) (da_cons (de_var (i := 3)) da_nil)))))) da_nil)))) (dss_one (ds_ret de_bl)) dss_nil)
    (dss_one (ds_ret (de_call G_is_ascending (hr.mono (by first | decide | omega)) (by rfl) (da_cons (de_lc (own := [("block", 3)]) rfl sc_is_credits.nd (di_any (de_ix (de_var (i := 2)) de_int)) (blkOk_by (N := N_is_credits) (sc := defScope s_is_credits) (by decide +kernel)) (fun _ _ _ _ _ => (dg_name 3 sc_is_credits.nd)) (fun _ _ _ _ _ => dts_nil) (fun _ _ _ _ _ => (de_ix (de_var (i := 3)) de_int))) da_nil))))))
theorem sc__law_whole : FnScope N__law_whole ["thing", "low", "high"] (defScope s__law_whole) := ⟨rfl, rfl, rfl, by decide +kernel, rfl, by decide +kernel, by decide +kernel⟩
theorem der__law_whole {sp : DSp} (T : Tp K mg)  (len : ∀ ds s Q, sp ds s Q → ds.length = 3)
    (rd : ∀ ds s Q, sp ds s Q → t__law_whole K  (endsOf Q) (startD N__law_whole ds) s) : Known P w K mg base (1) "_law_whole" sp := by
  obtain ⟨f, fd, F, gm⟩ := T.def_ 15 15 (d := d__law_whole) (by rfl) (by rfl) (by rfl)
  refine known_of (k := 0) F gm sc__law_whole (F.bindsN fun _ _ _ _ _ _ us hl => match us, hl with | [_, _, _], _ => rfl) (ps := ["thing", "low", "high"]) len (fun cdv A outer s H E hr => ⟨t__law_whole K , ?_, rd⟩)
  unfold t__law_whole
  exact (dss_cons (ds_if (dt_w (dw_or (dt_not (dt_truth (de_isi .int (by rfl) (T.free 55 (by rfl)) (by rfl) (T.free 54 (by rfl)) (de_var (i := 0))))) (dw_or1 (dt_truth (de_isi .bool (by rfl) (T.free 55 (by rfl)) (by rfl) (T.free 53 (by rfl)) (de_var (i := 0))))))) (dss_one (ds_ret de_bl)) dss_nil)
    (dss_one (ds_ret (de_and (de_cmp cm_ge (de_var (i := 0)) (de_var (i := 1))) (de_one (de_or (de_cmp cm_is (de_var (i := 2)) de_non) (de_one (de_cmp cm_le (de_var (i := 0)) (de_var (i := 2))))))))))
theorem sc__law_is_word : FnScope N__law_is_word ["thing"] (defScope s__law_is_word) := ⟨rfl, rfl, rfl, by decide +kernel, rfl, by decide +kernel, by decide +kernel⟩
theorem der__law_is_word {sp : DSp} (T : Tp K mg)  (len : ∀ ds s Q, sp ds s Q → ds.length = 1)
    (rd : ∀ ds s Q, sp ds s Q → t__law_is_word K  (endsOf Q) (startD N__law_is_word ds) s) : Known P w K mg base (1) "_law_is_word" sp := by
  obtain ⟨f, fd, F, gm⟩ := T.def_ 16 16 (d := d__law_is_word) (by rfl) (by rfl) (by rfl)
  refine known_of (k := 0) F gm sc__law_is_word (F.bindsN fun _ _ _ _ _ _ us hl => match us, hl with | [_], _ => rfl) (ps := ["thing"]) len (fun cdv A outer s H E hr => ⟨t__law_is_word K , ?_, rd⟩)
  unfold t__law_is_word
  exact (dss_cons (ds_asg de_str (dg_name 1 sc__law_is_word.nd))
    (dss_cons (ds_asg de_str (dg_name 2 sc__law_is_word.nd))
    (dss_cons (ds_if (dt_w (dw_or (dt_not (dt_truth (de_isi .str (by rfl) (T.free 55 (by rfl)) (by rfl) (T.free 60 (by rfl)) (de_var (i := 0))))) (dw_or1 (dt_not (dt_chain cm_le cm_le de_int (de_len (by rfl) (T.free 56 (by rfl)) (da_cons (de_var (i := 0)) da_nil)) de_int))))) (dss_one (ds_ret de_bl)) dss_nil)
    (dss_one (ds_ret (de_and (de_cmp (cm_in (u65 hr)) (de_ix (de_var (i := 0)) de_int) (de_var (i := 1))) (de_one (de_all rfl (by rfl) (T.free 52 (by rfl)) (da_cons (de_lc (own := [("sign", 3)]) rfl sc__law_is_word.nd (di_any (de_var (i := 0))) (blkOk_by (N := N__law_is_word) (sc := defScope s__law_is_word) (by decide +kernel)) (fun _ _ _ _ _ => (dg_name 3 sc__law_is_word.nd)) (fun _ _ _ _ _ => dts_nil) (fun _ _ _ _ _ => (de_cmp (cm_in (u65 hr)) (de_var (i := 3)) (de_var (i := 2))))) da_nil)))))))))
theorem sc__law_is_ended : FnScope N__law_is_ended ["program", "thing"] (defScope s__law_is_ended) := ⟨rfl, rfl, rfl, by decide +kernel, rfl, by decide +kernel, by decide +kernel⟩
theorem der__law_is_ended {sp sp__law_whole : DSp} (T : Tp K mg) (G__law_whole : Known P w K mg base 1 "_law_whole" sp__law_whole) (len : ∀ ds s Q, sp ds s Q → ds.length = 2)
    (rd : ∀ ds s Q, sp ds s Q → t__law_is_ended K sp__law_whole (endsOf Q) (startD N__law_is_ended ds) s) : Known P w K mg base (2) "_law_is_ended" sp := by
  obtain ⟨f, fd, F, gm⟩ := T.def_ 17 17 (d := d__law_is_ended) (by rfl) (by rfl) (by rfl)
  refine known_of (k := 1) F gm sc__law_is_ended (F.bindsN fun _ _ _ _ _ _ us hl => match us, hl with | [_, _], _ => rfl) (ps := ["program", "thing"]) len (fun cdv A outer s H E hr => ⟨t__law_is_ended K sp__law_whole, ?_, rd⟩)
  unfold t__law_is_ended
  exact (dss_cons (ds_if (dt_w (dw_or (dt_not (dt_truth (de_isi .tuple (by rfl) (T.free 55 (by rfl)) (by rfl) (T.free 61 (by rfl)) (de_var (i := 1))))) (dw_or1 (dt_cmp (cm_ne hr.units) (de_len (by rfl) (T.free 56 (by rfl)) (da_cons (de_var (i := 1)) da_nil)) (de_len (by rfl) (T.free 56 (by rfl)) (da_cons (de_ix (de_var (i := 0)) de_int) da_nil)))))) (dss_one (ds_ret de_bl)) dss_nil)
    (dss_one (ds_ret (de_all rfl (by rfl) (T.free 52 (by rfl)) (da_cons (de_lc (own := [("one", 2)]) rfl sc__law_is_ended.nd (di_any (de_var (i := 1))) (blkOk_by (N := N__law_is_ended) (sc := defScope s__law_is_ended) (by decide +kernel)) (fun _ _ _ _ _ => (dg_name 2 sc__law_is_ended.nd)) (fun _ _ _ _ _ => dts_nil) (fun _ _ _ _ _ => (de_call G__law_whole (hr.mono (by first | decide | omega)) (by rfl) (da_cons (de_var (i := 2)) (da_cons de_int (da_cons de_int da_nil)))))) da_nil)))))
theorem sc__law_is_spot : FnScope N__law_is_spot ["program", "book", "many", "thing"] (defScope s__law_is_spot) := ⟨rfl, rfl, rfl, by decide +kernel, rfl, by decide +kernel, by decide +kernel⟩
theorem der__law_is_spot {sp sp__law_is_ended sp__law_whole : DSp} (T : Tp K mg) (G__law_is_ended : Known P w K mg base 2 "_law_is_ended" sp__law_is_ended) (G__law_whole : Known P w K mg base 1 "_law_whole" sp__law_whole) (len : ∀ ds s Q, sp ds s Q → ds.length = 4)
    (rd : ∀ ds s Q, sp ds s Q → t__law_is_spot K sp__law_is_ended sp__law_whole (endsOf Q) (startD N__law_is_spot ds) s) : Known P w K mg base (3) "_law_is_spot" sp := by
  obtain ⟨f, fd, F, gm⟩ := T.def_ 18 18 (d := d__law_is_spot) (by rfl) (by rfl) (by rfl)
  refine known_of (k := 2) F gm sc__law_is_spot (F.bindsN fun _ _ _ _ _ _ us hl => match us, hl with | [_, _, _, _], _ => rfl) (ps := ["program", "book", "many", "thing"]) len (fun cdv A outer s H E hr => ⟨t__law_is_spot K sp__law_is_ended sp__law_whole, ?_, rd⟩)
  unfold t__law_is_spot
  exact (dss_cons (ds_if (dt_w (dw_or (dt_not (dt_truth (de_isi .tuple (by rfl) (T.free 55 (by rfl)) (by rfl) (T.free 61 (by rfl)) (de_var (i := 3))))) (dw_or (dt_cmp (cm_ne hr.units) (de_len (by rfl) (T.free 56 (by rfl)) (da_cons (de_var (i := 3)) da_nil)) de_int) (dw_or1 (dt_not (dt_truth (de_call G__law_whole (hr.mono (by first | decide | omega)) (by rfl) (da_cons (de_ix (de_var (i := 3)) de_int) (da_cons de_int (da_cons (de_sub (de_var (i := 2)) de_int) da_nil)))))))))) (dss_one (ds_ret de_bl)) dss_nil)
    (dss_one (ds_ret (de_and (de_call G__law_is_ended (hr.mono (by first | decide | omega)) (by rfl) (da_cons (de_var (i := 0)) (da_cons (de_ix (de_var (i := 3)) de_int) da_nil))) (de_one (de_call G__law_whole (hr.mono (by first | decide | omega)) (by rfl) (da_cons (de_ix (de_var (i := 3)) de_int) (da_cons de_int (da_cons (de_sub (de_len (by rfl) (T.free 56 (by rfl)) (da_cons (de_ix (de_var (i := 1)) de_int) da_nil)) de_int) da_nil)))))))))
theorem sc__law_is_gate : FnScope N__law_is_gate ["program", "book", "thing"] (defScope s__law_is_gate) := ⟨rfl, rfl, rfl, by decide +kernel, rfl, by decide +kernel, by decide +kernel⟩
theorem der__law_is_gate {sp sp__law_is_ended sp__law_whole sp__law_is_word : DSp} (T : Tp K mg) (G__law_is_ended : Known P w K mg base 2 "_law_is_ended" sp__law_is_ended) (G__law_whole : Known P w K mg base 1 "_law_whole" sp__law_whole) (G__law_is_word : Known P w K mg base 1 "_law_is_word" sp__law_is_word) (len : ∀ ds s Q, sp ds s Q → ds.length = 3)
    (rd : ∀ ds s Q, sp ds s Q → t__law_is_gate K sp__law_is_ended sp__law_whole sp__law_is_word (endsOf Q) (startD N__law_is_gate ds) s) : Known P w K mg base (3) "_law_is_gate" sp := by
  obtain ⟨f, fd, F, gm⟩ := T.def_ 19 19 (d := d__law_is_gate) (by rfl) (by rfl) (by rfl)
  refine known_of (k := 2) F gm sc__law_is_gate (F.bindsN fun _ _ _ _ _ _ us hl => match us, hl with | [_, _, _], _ => rfl) (ps := ["program", "book", "thing"]) len (fun cdv A outer s H E hr => ⟨t__law_is_gate K sp__law_is_ended sp__law_whole sp__law_is_word, ?_, rd⟩)
  unfold t__law_is_gate
  exact (dss_cons (ds_if (dt_w (dw_or (dt_not (dt_truth (de_isi .tuple (by rfl) (T.free 55 (by rfl)) (by rfl) (T.free 61 (by rfl)) (de_var (i := 2))))) (dw_or (dt_cmp (cm_ne hr.units) (de_len (by rfl) (T.free 56 (by rfl)) (da_cons (de_var (i := 2)) da_nil)) de_int) (dw_or1 (dt_not (dt_truth (de_call G__law_is_word (hr.mono (by first | decide | omega)) (by rfl) (da_cons (de_ix (de_var (i := 2)) de_int) da_nil)))))))) (dss_one (ds_ret de_bl)) dss_nil)
    (dss_one (ds_ret (de_and (de_call G__law_is_ended (hr.mono (by first | decide | omega)) (by rfl) (da_cons (de_var (i := 0)) (da_cons (de_ix (de_var (i := 2)) de_int) da_nil))) (de_one (de_call G__law_whole (hr.mono (by first | decide | omega)) (by rfl) (da_cons (de_ix (de_var (i := 2)) de_int) (da_cons de_int (da_cons (de_sub (de_len (by rfl) (T.free 56 (by rfl)) (da_cons (de_ix (de_var (i := 1)) de_int) da_nil)) de_int) da_nil)))))))))
theorem sc__law_is_pairs : FnScope N__law_is_pairs ["thing"] (defScope s__law_is_pairs) := ⟨rfl, rfl, rfl, by decide +kernel, rfl, by decide +kernel, by decide +kernel⟩
theorem der__law_is_pairs {sp sp__law_whole : DSp} (T : Tp K mg) (G__law_whole : Known P w K mg base 1 "_law_whole" sp__law_whole) (len : ∀ ds s Q, sp ds s Q → ds.length = 1)
    (rd : ∀ ds s Q, sp ds s Q → t__law_is_pairs K sp__law_whole (endsOf Q) (startD N__law_is_pairs ds) s) : Known P w K mg base (2) "_law_is_pairs" sp := by
  obtain ⟨f, fd, F, gm⟩ := T.def_ 20 20 (d := d__law_is_pairs) (by rfl) (by rfl) (by rfl)
  refine known_of (k := 1) F gm sc__law_is_pairs (F.bindsN fun _ _ _ _ _ _ us hl => match us, hl with | [_], _ => rfl) (ps := ["thing"]) len (fun cdv A outer s H E hr => ⟨t__law_is_pairs K sp__law_whole, ?_, rd⟩)
  unfold t__law_is_pairs
  exact (dss_cons (ds_if (dt_not (dt_truth (de_isi .tuple (by rfl) (T.free 55 (by rfl)) (by rfl) (T.free 61 (by rfl)) (de_var (i := 0))))) (dss_one (ds_ret de_bl)) dss_nil)
    (dss_cons (ds_for PassesOwn.never rfl (di_any (de_var (i := 0))) (dg_name 1 sc__law_is_pairs.nd) (dss_one (ds_if (dt_w (dw_or (dt_not (dt_truth (de_isi .tuple (by rfl) (T.free 55 (by rfl)) (by rfl) (T.free 61 (by rfl)) (de_var (i := 1))))) (dw_or (dt_cmp (cm_ne hr.units) (de_len (by rfl) (T.free 56 (by rfl)) (da_cons (de_var (i := 1)) da_nil)) de_int) (dw_or1 (dt_not (dt_truth (de_call G__law_whole (hr.mono (by first | decide | omega)) (by rfl) (da_cons (de_ix (de_var (i := 1)) de_int) (da_cons de_int (da_cons de_non da_nil)))))))))) (dss_one (ds_ret de_bl)) dss_nil)))
    (dss_one (ds_ret de_bl))))
theorem sc__law_climbs : FnScope N__law_climbs ["rows"] (defScope s__law_climbs) := ⟨rfl, rfl, rfl, by decide +kernel, rfl, by decide +kernel, by decide +kernel⟩
theorem der__law_climbs {sp : DSp} (T : Tp K mg)  (len : ∀ ds s Q, sp ds s Q → ds.length = 1)
    (rd : ∀ ds s Q, sp ds s Q → t__law_climbs K  (endsOf Q) (startD N__law_climbs ds) s) : Known P w K mg base (1) "_law_climbs" sp := by
  obtain ⟨f, fd, F, gm⟩ := T.def_ 21 21 (d := d__law_climbs) (by rfl) (by rfl) (by rfl)
  refine known_of (k := 0) F gm sc__law_climbs (F.bindsN fun _ _ _ _ _ _ us hl => match us, hl with | [_], _ => rfl) (ps := ["rows"]) len (fun cdv A outer s H E hr => ⟨t__law_climbs K , ?_, rd⟩)
  unfold t__law_climbs
  exact (dss_cons (ds_for PassesOwn.never rfl (di_range1 (by rfl) (T.free 58 (by rfl)) (da_cons (de_sub (de_len (by rfl) (T.free 56 (by rfl)) (da_cons (de_var (i := 0)) da_nil)) de_int) da_nil)) (dg_name 1 sc__law_climbs.nd) (dss_one (ds_if (dt_not (dt_cmp (cm_ltD hr.units) (de_ix (de_ix (de_var (i := 0)) (de_var (i := 1))) de_int) (de_ix (de_ix (de_var (i := 0)) (de_add (de_var (i := 1)) de_int)) de_int))) (dss_one (ds_ret de_bl)) dss_nil)))
    (dss_one (ds_ret de_bl)))
theorem sc__law_is_block : FnScope N__law_is_block ["program", "book", "thing"] (defScope s__law_is_block) := ⟨rfl, rfl, rfl, by decide +kernel, rfl, by decide +kernel, by decide +kernel⟩
theorem der__law_is_block {sp sp__law_climbs sp__law_is_spot sp__law_whole sp__law_is_pairs sp__law_is_gate : DSp} (T : Tp K mg) (G__law_climbs : Known P w K mg base 1 "_law_climbs" sp__law_climbs) (G__law_is_spot : Known P w K mg base 3 "_law_is_spot" sp__law_is_spot) (G__law_whole : Known P w K mg base 1 "_law_whole" sp__law_whole) (G__law_is_pairs : Known P w K mg base 2 "_law_is_pairs" sp__law_is_pairs) (G__law_is_gate : Known P w K mg base 3 "_law_is_gate" sp__law_is_gate) (len : ∀ ds s Q, sp ds s Q → ds.length = 3)
    (rd : ∀ ds s Q, sp ds s Q → t__law_is_block K sp__law_climbs sp__law_is_spot sp__law_whole sp__law_is_pairs sp__law_is_gate (endsOf Q) (startD N__law_is_block ds) s) : Known P w K mg base (4) "_law_is_block" sp := by
  obtain ⟨f, fd, F, gm⟩ := T.def_ 22 22 (d := d__law_is_block) (by rfl) (by rfl) (by rfl)
  refine known_of (k := 3) F gm sc__law_is_block (F.bindsN fun _ _ _ _ _ _ us hl => match us, hl with | [_, _, _], _ => rfl) (ps := ["program", "book", "thing"]) len (fun cdv A outer s H E hr => ⟨t__law_is_block K sp__law_climbs sp__law_is_spot sp__law_whole sp__law_is_pairs sp__law_is_gate, ?_, rd⟩)
  unfold t__law_is_block
  exact (dss_cons (ds_if (dt_w (dw_or (dt_not (dt_truth (de_isi .tuple (by rfl) (T.free 55 (by rfl)) (by rfl) (T.free 61 (by rfl)) (de_var (i := 2))))) (dw_or1 (dt_cmp (cm_ne hr.units) (de_len (by rfl) (T.free 56 (by rfl)) (da_cons (de_var (i := 2)) da_nil)) de_int)))) (dss_one (ds_ret de_bl)) dss_nil)
    (dss_cons (ds_asg (de_var (i := 2)) (dg_seq rfl (dgs_cons (dg_name 4 sc__law_is_block.nd) (dgs_cons (dg_name 5 sc__law_is_block.nd) (dgs_cons (dg_name 6 sc__law_is_block.nd) (dgs_cons (dg_name 7 sc__law_is_block.nd) dgs_nil))))))
    (dss_cons (ds_if (dt_w (dw_or (dt_not (dt_truth (de_call G__law_is_spot (hr.mono (by first | decide | omega)) (by rfl) (da_cons (de_var (i := 0)) (da_cons (de_var (i := 1)) (da_cons (de_len (by rfl) (T.free 56 (by rfl)) (da_cons (de_ix (de_var (i := 0)) de_int) da_nil)) (da_cons (de_var (i := 4)) da_nil))))))) (dw_or1 (dt_not (dt_truth (de_call G__law_whole (hr.mono (by first | decide | omega)) (by rfl) (da_cons (de_var (i := 5)) (da_cons de_int (da_cons de_non da_nil))))))))) (dss_one (ds_ret de_bl)) dss_nil)
    (dss_cons (ds_if (dt_w (dw_or (dt_not (dt_truth (de_call G__law_is_pairs (hr.mono (by first | decide | omega)) (by rfl) (da_cons (de_var (i := 6)) da_nil)))) (dw_or1 (dt_not (dt_truth (de_call G__law_is_pairs (hr.mono (by first | decide | omega)) (by rfl) (da_cons (de_var (i := 7)) da_nil))))))) (dss_one (ds_ret de_bl)) dss_nil)
    (dss_cons (ds_asg (de_len (by rfl) (T.free 56 (by rfl)) (da_cons (de_ix (de_ix (de_ix (de_var (i := 0)) de_int) (de_ix (de_var (i := 4)) de_int)) de_int) da_nil)) (dg_name 3 sc__law_is_block.nd))
    (dss_cons (ds_if (dt_not (dt_truth (de_all rfl (by rfl) (T.free 52 (by rfl)) (da_cons (de_lc (own := [("pair", 8)]) rfl sc__law_is_block.nd (di_any (de_var (i := 6))) (blkOk_by (N := N__law_is_block) (sc := defScope s__law_is_block) (by decide +kernel)) (fun _ _ _ _ _ => (dg_name 8 sc__law_is_block.nd)) (fun _ _ _ _ _ => dts_nil) (fun _ _ _ _ _ => (de_call G__law_is_gate (hr.mono (by first | decide | omega)) (by rfl) (da_cons (de_var (i := 0)) (da_cons (de_var (i := 1)) (da_cons (de_ix (de_var (i := 8)) de_int) da_nil)))))) da_nil)))) (dss_one (ds_ret de_bl)) dss_nil)
    (dss_cons (ds_if (dt_not (dt_truth (de_all rfl (by rfl) (T.free 52 (by rfl)) (da_cons (de_lc (own := [("pair", 8)]) rfl sc__law_is_block.nd (di_any (de_var (i := 7))) (blkOk_by (N := N__law_is_block) (sc := defScope s__law_is_block) (by decide +kernel)) (fun _ _ _ _ _ => (dg_name 8 sc__law_is_block.nd)) (fun _ _ _ _ _ => dts_nil) (fun _ _ _ _ _ => (de_call G__law_is_spot (hr.mono (by first | decide | omega)) (by rfl) (da_cons (de_var (i := 0)) (da_cons (de_var (i := 1)) (da_cons (de_var (i := 3)) (da_cons (de_ix (de_var (i := 8)) de_int) da_nil))))))) da_nil)))) (dss_one (ds_ret de_bl)) dss_nil)
    (dss_one (ds_ret (de_and (de_call G__law_climbs (hr.mono (by first | decide | omega)) (by rfl) (da_cons (de_var (i := 6)) da_nil)) (de_one (de_call G__law_climbs (hr.mono (by first | decide | omega)) (by rfl) (da_cons (de_var (i := 7)) da_nil)))))))))))))
theorem sc__law_is_paper : FnScope N__law_is_paper ["program", "book", "thing"] (defScope s__law_is_paper) := ⟨rfl, rfl, rfl, by decide +kernel, rfl, by decide +kernel, by decide +kernel⟩
theorem der__law_is_paper {sp sp__law_climbs sp__law_is_block : DSp} (T : Tp K mg) (G__law_climbs : Known P w K mg base 1 "_law_climbs" sp__law_climbs) (G__law_is_block : Known P w K mg base 4 "_law_is_block" sp__law_is_block) (len : ∀ ds s Q, sp ds s Q → ds.length = 3)
    (rd : ∀ ds s Q, sp ds s Q → t__law_is_paper K sp__law_climbs sp__law_is_block (endsOf Q) (startD N__law_is_paper ds) s) : Known P w K mg base (5) "_law_is_paper" sp := by
  obtain ⟨f, fd, F, gm⟩ := T.def_ 23 23 (d := d__law_is_paper) (by rfl) (by rfl) (by rfl)
  refine known_of (k := 4) F gm sc__law_is_paper (F.bindsN fun _ _ _ _ _ _ us hl => match us, hl with | [_, _, _], _ => rfl) (ps := ["program", "book", "thing"]) len (fun cdv A outer s H E hr => ⟨t__law_is_paper K sp__law_climbs sp__law_is_block, ?_, rd⟩)
  unfold t__law_is_paper
  exact (dss_cons (ds_if (dt_w (dw_or (dt_not (dt_truth (de_isi .tuple (by rfl) (T.free 55 (by rfl)) (by rfl) (T.free 61 (by rfl)) (de_var (i := 2))))) (dw_or (dt_cmp (cm_ne hr.units) (de_len (by rfl) (T.free 56 (by rfl)) (da_cons (de_var (i := 2)) da_nil)) de_int) (dw_or (dt_cmp (cm_ne hr.units) (de_ix (de_var (i := 2)) de_int) de_str) (dw_or1 (dt_not (dt_truth (de_isi .tuple (by rfl) (T.free 55 (by rfl)) (by rfl) (T.free 61 (by rfl)) (de_ix (de_var (i := 2)) de_int))))))))) (dss_one (ds_ret de_bl)) dss_nil)
    (dss_cons (ds_if (dt_not (dt_truth (de_all rfl (by rfl) (T.free 52 (by rfl)) (da_cons (de_lc (own := [("block", 3)]) rfl sc__law_is_paper.nd (di_any (de_ix (de_var (i := 2)) de_int)) (blkOk_by (N := N__law_is_paper) (sc := defScope s__law_is_paper) (by decide +kernel)) (fun _ _ _ _ _ => (dg_name 3 sc__law_is_paper.nd)) (fun _ _ _ _ _ => dts_nil) (fun _ _ _ _ _ => (de_call G__law_is_block (hr.mono (by first | decide | omega)) (by rfl) (da_cons (de_var (i := 0)) (da_cons (de_var (i := 1)) (da_cons (de_var (i := 3)) da_nil)))))) da_nil)))) (dss_one (ds_ret de_bl)) dss_nil)
    (dss_one (ds_ret (de_call G__law_climbs (hr.mono (by first | decide | omega)) (by rfl) (da_cons (de_ix (de_var (i := 2)) de_int) da_nil))))))
theorem sc__law_great : FnScope N__law_great ["jar"] (defScope s__law_great) := ⟨rfl, rfl, rfl, by decide +kernel, rfl, by decide +kernel, by decide +kernel⟩
theorem der__law_great {sp sp__law_names sp__law_stem sp__law_of : DSp} (T : Tp K mg) (G__law_names : Known P w K mg base 6 "_law_names" sp__law_names) (G__law_stem : Known P w K mg base 4 "_law_stem" sp__law_stem) (G__law_of : Known P w K mg base 3 "_law_of" sp__law_of) (len : ∀ ds s Q, sp ds s Q → ds.length = 1)
    (rd : ∀ ds s Q, sp ds s Q → t__law_great K sp__law_names sp__law_stem sp__law_of (endsOf Q) (startD N__law_great ds) s) : Known P w K mg base (7) "_law_great" sp := by
  obtain ⟨f, fd, F, gm⟩ := T.def_ 24 24 (d := d__law_great) (by rfl) (by rfl) (by rfl)
  refine known_of (k := 6) F gm sc__law_great (F.bindsN fun _ _ _ _ _ _ us hl => match us, hl with | [_], _ => rfl) (ps := ["jar"]) len (fun cdv A outer s H E hr => ⟨t__law_great K sp__law_names sp__law_stem sp__law_of, ?_, rd⟩)
  unfold t__law_great
  exact (dss_cons (ds_asg (de_lst da_nil) (dg_name 1 sc__law_great.nd))
    (dss_cons (ds_for PassesOwn.never rfl (di_any (de_call G__law_names (hr.mono (by first | decide | omega)) (by rfl) (da_cons (de_var (i := 0)) (da_cons de_int da_nil)))) (dg_name 2 sc__law_great.nd) (dss_cons (ds_asg (de_call G__law_names (hr.mono (by first | decide | omega)) (by rfl) (da_cons (de_var (i := 0)) (da_cons (de_call G__law_of (hr.mono (by first | decide | omega)) (by rfl) (da_cons (de_var (i := 0)) (da_cons (de_lst (da_cons de_int (da_cons de_int (da_cons de_int (da_cons de_int da_nil))))) da_nil))) da_nil))) (dg_name 4 sc__law_great.nd))
    (dss_cons (ds_asg (de_lst da_nil) (dg_name 5 sc__law_great.nd))
    (dss_cons (ds_for PassesOwn.never rfl (di_range1 (by rfl) (T.free 58 (by rfl)) (da_cons (de_len (by rfl) (T.free 56 (by rfl)) (da_cons (de_var (i := 4)) da_nil)) da_nil)) (dg_name 6 sc__law_great.nd) (dss_cons (ds_asg (de_tup (da_cons de_str (da_cons de_str da_nil))) (dg_name 7 sc__law_great.nd))
    (dss_cons (ds_if (dt_cmp (cm_ltD hr.units) (de_add (de_var (i := 6)) de_int) (de_len (by rfl) (T.free 56 (by rfl)) (da_cons (de_var (i := 4)) da_nil))) (dss_one (ds_asg (de_tup (da_cons de_str (da_cons (de_tup (da_cons de_int (da_cons de_int (da_cons (de_neg de_int) da_nil)))) (da_cons (de_ix (de_var (i := 4)) (de_add (de_var (i := 6)) de_int)) da_nil)))) (dg_name 7 sc__law_great.nd))) dss_nil)
    (dss_one (ds_expr (de_append (de_var (i := 5)) (de_tup (da_cons (de_ix (de_var (i := 4)) (de_var (i := 6))) (da_cons (de_var (i := 7)) da_nil)))))))))
    (dss_one (ds_expr (de_append (de_var (i := 1)) (de_tup (da_cons (de_var (i := 2)) (da_cons (de_tupOf (by rfl) (T.free 61 (by rfl)) (da_cons (de_var (i := 5)) da_nil)) da_nil))))))))))
    (dss_cons (ds_asg (de_tupOf (by rfl) (T.free 61 (by rfl)) (da_cons (de_lc (own := [("word", 8)]) rfl sc__law_great.nd (di_any (de_call G__law_names (hr.mono (by first | decide | omega)) (by rfl) (da_cons (de_var (i := 0)) (da_cons de_int da_nil)))) (blkOk_by (N := N__law_great) (sc := defScope s__law_great) (by decide +kernel)) (fun _ _ _ _ _ => (dg_name 8 sc__law_great.nd)) (fun _ _ _ _ _ => dts_nil) (fun _ _ _ _ _ => (de_tup (da_cons (de_var (i := 8)) (da_cons (de_tupOf (by rfl) (T.free 61 (by rfl)) (da_cons (de_call G__law_names (hr.mono (by first | decide | omega)) (by rfl) (da_cons (de_var (i := 0)) (da_cons de_int da_nil))) da_nil)) da_nil))))) da_nil)) (dg_name 3 sc__law_great.nd))
    (dss_one (ds_ret (de_tup (da_cons de_str (da_cons (de_call G__law_stem (hr.mono (by first | decide | omega)) (by rfl) (da_cons (de_var (i := 0)) da_nil)) (da_cons (de_tupOf (by rfl) (T.free 61 (by rfl)) (da_cons (de_call G__law_names (hr.mono (by first | decide | omega)) (by rfl) (da_cons (de_var (i := 0)) (da_cons de_int da_nil))) da_nil)) (da_cons (de_var (i := 3)) (da_cons (de_tupOf (by rfl) (T.free 61 (by rfl)) (da_cons (de_var (i := 1)) da_nil)) da_nil)))))))))))
theorem sc__law_spot : FnScope N__law_spot ["jar", "program", "book", "many"] (defScope s__law_spot) := ⟨rfl, rfl, rfl, by decide +kernel, rfl, by decide +kernel, by decide +kernel⟩
theorem der__law_spot {sp sp__law_one_in sp__law_draw : DSp} (T : Tp K mg) (G__law_one_in : Known P w K mg base 3 "_law_one_in" sp__law_one_in) (G__law_draw : Known P w K mg base 2 "_law_draw" sp__law_draw) (len : ∀ ds s Q, sp ds s Q → ds.length = 4)
    (rd : ∀ ds s Q, sp ds s Q → t__law_spot K sp__law_one_in sp__law_draw (endsOf Q) (startD N__law_spot ds) s) : Known P w K mg base (4) "_law_spot" sp := by
  obtain ⟨f, fd, F, gm⟩ := T.def_ 25 25 (d := d__law_spot) (by rfl) (by rfl) (by rfl)
  refine known_of (k := 3) F gm sc__law_spot (F.bindsN fun _ _ _ _ _ _ us hl => match us, hl with | [_, _, _, _], _ => rfl) (ps := ["jar", "program", "book", "many"]) len (fun cdv A outer s H E hr => ⟨t__law_spot K sp__law_one_in sp__law_draw, ?_, rd⟩)
  unfold t__law_spot
  exact (dss_cons (ds_asg (de_if (dt_truth (de_call G__law_one_in (hr.mono (by first | decide | omega)) (by rfl) (da_cons (de_var (i := 0)) (da_cons de_int da_nil)))) (de_sub (de_var (i := 3)) de_int) (de_call G__law_draw (hr.mono (by first | decide | omega)) (by rfl) (da_cons (de_var (i := 0)) (da_cons (de_var (i := 3)) da_nil)))) (dg_name 4 sc__law_spot.nd))
    (dss_cons (ds_asg (de_if (dt_truth (de_call G__law_one_in (hr.mono (by first | decide | omega)) (by rfl) (da_cons (de_var (i := 0)) (da_cons de_int da_nil)))) (de_sub (de_len (by rfl) (T.free 56 (by rfl)) (da_cons (de_ix (de_var (i := 2)) de_int) da_nil)) de_int) (de_call G__law_draw (hr.mono (by first | decide | omega)) (by rfl) (da_cons (de_var (i := 0)) (da_cons (de_len (by rfl) (T.free 56 (by rfl)) (da_cons (de_ix (de_var (i := 2)) de_int) da_nil)) da_nil)))) (dg_name 5 sc__law_spot.nd))
    (dss_one (ds_ret (de_tup (da_cons (de_var (i := 4)) (da_cons (de_tupOf (by rfl) (T.free 61 (by rfl)) (da_cons (de_lc (own := [("row", 6)]) rfl sc__law_spot.nd (di_any (de_ix (de_var (i := 1)) de_int)) (blkOk_by (N := N__law_spot) (sc := defScope s__law_spot) (by decide +kernel)) (fun _ _ _ _ _ => (dg_name 6 sc__law_spot.nd)) (fun _ _ _ _ _ => dts_nil) (fun _ _ _ _ _ => (de_call G__law_draw (hr.mono (by first | decide | omega)) (by rfl) (da_cons (de_var (i := 0)) (da_cons de_int da_nil))))) da_nil)) (da_cons (de_var (i := 5)) da_nil))))))))
theorem sc__law_much : FnScope N__law_much ["jar"] (defScope s__law_much) := ⟨rfl, rfl, rfl, by decide +kernel, rfl, by decide +kernel, by decide +kernel⟩
theorem der__law_much {sp sp__law_of : DSp} (T : Tp K mg) (G__law_of : Known P w K mg base 3 "_law_of" sp__law_of) (len : ∀ ds s Q, sp ds s Q → ds.length = 1)
    (rd : ∀ ds s Q, sp ds s Q → t__law_much K sp__law_of (endsOf Q) (startD N__law_much ds) s) : Known P w K mg base (4) "_law_much" sp := by
  obtain ⟨f, fd, F, gm⟩ := T.def_ 26 26 (d := d__law_much) (by rfl) (by rfl) (by rfl)
  refine known_of (k := 3) F gm sc__law_much (F.bindsN fun _ _ _ _ _ _ us hl => match us, hl with | [_], _ => rfl) (ps := ["jar"]) len (fun cdv A outer s H E hr => ⟨t__law_much K sp__law_of, ?_, rd⟩)
  unfold t__law_much
  exact (dss_one (ds_ret (de_call G__law_of (hr.mono (by first | decide | omega)) (by rfl) (da_cons (de_var (i := 0)) (da_cons (de_lst (da_cons de_int (da_cons de_int (da_cons de_int (da_cons de_int (da_cons de_int (da_cons de_int (da_cons de_int (da_cons de_int (da_cons (de_pow de_int de_int) da_nil)))))))))) da_nil)))))
theorem sc__law_priced : FnScope N__law_priced ["jar", "things"] (defScope s__law_priced) := ⟨rfl, rfl, rfl, by decide +kernel, rfl, by decide +kernel, by decide +kernel⟩
theorem der__law_priced {sp sp__law_much : DSp} (T : Tp K mg) (G__law_much : Known P w K mg base 4 "_law_much" sp__law_much) (len : ∀ ds s Q, sp ds s Q → ds.length = 2)
    (rd : ∀ ds s Q, sp ds s Q → t__law_priced K sp__law_much (endsOf Q) (startD N__law_priced ds) s) : Known P w K mg base (5) "_law_priced" sp := by
  obtain ⟨f, fd, F, gm⟩ := T.def_ 27 27 (d := d__law_priced) (by rfl) (by rfl) (by rfl)
  refine known_of (k := 4) F gm sc__law_priced (F.bindsN fun _ _ _ _ _ _ us hl => match us, hl with | [_, _], _ => rfl) (ps := ["jar", "things"]) len (fun cdv A outer s H E hr => ⟨t__law_priced K sp__law_much, ?_, rd⟩)
  unfold t__law_priced
  exact (dss_cons (ds_asg (de_lst da_nil) (dg_name 2 sc__law_priced.nd))
    (dss_cons (ds_for PassesOwn.never rfl (di_any (de_var (i := 1))) (dg_name 3 sc__law_priced.nd) (dss_one (ds_if (dt_cmp (cm_notin (u65 hr)) (de_var (i := 3)) (de_var (i := 2))) (dss_one (ds_expr (de_append (de_var (i := 2)) (de_var (i := 3))))) dss_nil)))
    (dss_one (ds_ret (de_tupOf (by rfl) (T.free 61 (by rfl)) (da_cons (de_lc (own := [("thing", 3)]) rfl sc__law_priced.nd (di_any (de_sorted (u66 hr) (by rfl) (T.free 59 (by rfl)) (da_cons (de_var (i := 2)) da_nil))) (blkOk_by (N := N__law_priced) (sc := defScope s__law_priced) (by decide +kernel)) (fun _ _ _ _ _ => (dg_name 3 sc__law_priced.nd)) (fun _ _ _ _ _ => dts_nil) (fun _ _ _ _ _ => (de_tup (da_cons (de_var (i := 3)) (da_cons (de_call G__law_much (hr.mono (by first | decide | omega)) (by rfl) (da_cons (de_var (i := 0)) da_nil)) da_nil))))) da_nil))))))
theorem sc__law_formed : FnScope N__law_formed ["jar", "program", "book"] (defScope s__law_formed) := ⟨rfl, rfl, rfl, by decide +kernel, rfl, by decide +kernel, by decide +kernel⟩
theorem der__law_formed {sp sp__law_priced sp__law_spot sp__law_draw sp__law_stem : DSp} (T : Tp K mg) (G__law_priced : Known P w K mg base 5 "_law_priced" sp__law_priced) (G__law_spot : Known P w K mg base 4 "_law_spot" sp__law_spot) (G__law_draw : Known P w K mg base 2 "_law_draw" sp__law_draw) (G__law_stem : Known P w K mg base 4 "_law_stem" sp__law_stem) (len : ∀ ds s Q, sp ds s Q → ds.length = 3)
    (rd : ∀ ds s Q, sp ds s Q → t__law_formed K sp__law_priced sp__law_spot sp__law_draw sp__law_stem (endsOf Q) (startD N__law_formed ds) s) : Known P w K mg base (6) "_law_formed" sp := by
  obtain ⟨f, fd, F, gm⟩ := T.def_ 28 28 (d := d__law_formed) (by rfl) (by rfl) (by rfl)
  refine known_of (k := 5) F gm sc__law_formed (F.bindsN fun _ _ _ _ _ _ us hl => match us, hl with | [_, _, _], _ => rfl) (ps := ["jar", "program", "book"]) len (fun cdv A outer s H E hr => ⟨t__law_formed K sp__law_priced sp__law_spot sp__law_draw sp__law_stem, ?_, rd⟩)
  unfold t__law_formed
  exact (dss_cons (ds_asg (de_lst da_nil) (dg_name 3 sc__law_formed.nd))
    (dss_cons (ds_asg (de_call G__law_priced (hr.mono (by first | decide | omega)) (by rfl) (da_cons (de_var (i := 0)) (da_cons (de_lc (own := [("turn", 10)]) rfl sc__law_formed.nd (di_range1 (by rfl) (T.free 58 (by rfl)) (da_cons (de_call G__law_draw (hr.mono (by first | decide | omega)) (by rfl) (da_cons (de_var (i := 0)) (da_cons de_int da_nil))) da_nil)) (blkOk_by (N := N__law_formed) (sc := defScope s__law_formed) (by decide +kernel)) (fun _ _ _ _ _ => (dg_name 10 sc__law_formed.nd)) (fun _ _ _ _ _ => dts_nil) (fun _ _ _ _ _ => (de_call G__law_spot (hr.mono (by first | decide | omega)) (by rfl) (da_cons (de_var (i := 0)) (da_cons (de_var (i := 1)) (da_cons (de_var (i := 2)) (da_cons (de_len (by rfl) (T.free 56 (by rfl)) (da_cons (de_ix (de_var (i := 1)) de_int) da_nil)) da_nil))))))) da_nil))) (dg_name 4 sc__law_formed.nd))
    (dss_cons (ds_for PassesOwn.never rfl (di_any (de_var (i := 4))) (dg_tup rfl (dgs_cons (dg_name 5 sc__law_formed.nd) (dgs_cons (dg_name 6 sc__law_formed.nd) dgs_nil))) (dss_cons (ds_asg (de_len (by rfl) (T.free 56 (by rfl)) (da_cons (de_ix (de_ix (de_ix (de_var (i := 1)) de_int) (de_ix (de_var (i := 5)) de_int)) de_int) da_nil)) (dg_name 7 sc__law_formed.nd))
    (dss_cons (ds_setLc (i := 8) (own := [("turn", 10)]) rfl sc__law_formed.nd rfl rfl (L2.sw_true rfl rfl rfl (by decide +kernel)) (di_range1 (by rfl) (T.free 58 (by rfl)) (da_cons (de_call G__law_draw (hr.mono (by first | decide | omega)) (by rfl) (da_cons (de_var (i := 0)) (da_cons de_int da_nil))) da_nil)) (blkOk_by (N := N__law_formed) (sc := defScope s__law_formed) (by decide +kernel)) (fun _ _ _ _ _ => (dg_name 10 sc__law_formed.nd)) (fun _ _ _ _ _ => dts_nil) (fun _ _ _ _ _ => (de_add (de_tup (da_cons (de_call G__law_stem (hr.mono (by first | decide | omega)) (by rfl) (da_cons (de_var (i := 0)) da_nil)) da_nil)) (de_slice (de_call G__law_spot (hr.mono (by first | decide | omega)) (by rfl) (da_cons (de_var (i := 0)) (da_cons (de_var (i := 1)) (da_cons (de_var (i := 2)) (da_cons de_int da_nil))))) (do_some de_int) do_none))))
    (dss_cons (ds_setLc (i := 9) (own := [("turn", 10)]) rfl sc__law_formed.nd rfl rfl (L2.sw_true rfl rfl rfl (by decide +kernel)) (di_range1 (by rfl) (T.free 58 (by rfl)) (da_cons (de_call G__law_draw (hr.mono (by first | decide | omega)) (by rfl) (da_cons (de_var (i := 0)) (da_cons de_int da_nil))) da_nil)) (blkOk_by (N := N__law_formed) (sc := defScope s__law_formed) (by decide +kernel)) (fun _ _ _ _ _ => (dg_name 10 sc__law_formed.nd)) (fun _ _ _ _ _ => dts_nil) (fun _ _ _ _ _ => (de_call G__law_spot (hr.mono (by first | decide | omega)) (by rfl) (da_cons (de_var (i := 0)) (da_cons (de_var (i := 1)) (da_cons (de_var (i := 2)) (da_cons (de_var (i := 7)) da_nil)))))))
    (dss_one (ds_expr (de_append (de_var (i := 3)) (de_tup (da_cons (de_var (i := 5)) (da_cons (de_var (i := 6)) (da_cons (de_call G__law_priced (hr.mono (by first | decide | omega)) (by rfl) (da_cons (de_var (i := 0)) (da_cons (de_var (i := 8)) da_nil))) (da_cons (de_call G__law_priced (hr.mono (by first | decide | omega)) (by rfl) (da_cons (de_var (i := 0)) (da_cons (de_var (i := 9)) da_nil))) da_nil))))))))))))
    (dss_one (ds_ret (de_tup (da_cons de_str (da_cons (de_tupOf (by rfl) (T.free 61 (by rfl)) (da_cons (de_var (i := 3)) da_nil)) da_nil))))))))
theorem sc__law_odd : FnScope N__law_odd ["jar", "thing"] (defScope s__law_odd) := ⟨rfl, rfl, rfl, by decide +kernel, rfl, by decide +kernel, by decide +kernel⟩
theorem der__law_odd {sp sp__law_of sp__law_draw : DSp} (T : Tp K mg) (G__law_of : Known P w K mg base 3 "_law_of" sp__law_of) (G__law_draw : Known P w K mg base 2 "_law_draw" sp__law_draw) (len : ∀ ds s Q, sp ds s Q → ds.length = 2)
    (rd : ∀ ds s Q, sp ds s Q → t__law_odd K sp__law_of sp__law_draw (endsOf Q) (startD N__law_odd ds) s) : Known P w K mg base (4) "_law_odd" sp := by
  obtain ⟨f, fd, F, gm⟩ := T.def_ 29 29 (d := d__law_odd) (by rfl) (by rfl) (by rfl)
  refine known_of (k := 3) F gm sc__law_odd (F.bindsN fun _ _ _ _ _ _ us hl => match us, hl with | [_, _], _ => rfl) (ps := ["jar", "thing"]) len (fun cdv A outer s H E hr => ⟨t__law_odd K sp__law_of sp__law_draw, ?_, rd⟩)
  unfold t__law_odd
  exact (dss_cons (ds_if (dt_w (dw_and (dt_truth (de_isi .tuple (by rfl) (T.free 55 (by rfl)) (by rfl) (T.free 61 (by rfl)) (de_var (i := 1)))) (dw_and1 (dt_cmp cm_gt (de_len (by rfl) (T.free 56 (by rfl)) (da_cons (de_var (i := 1)) da_nil)) de_int)))) (dss_cons (ds_asg (de_call G__law_draw (hr.mono (by first | decide | omega)) (by rfl) (da_cons (de_var (i := 0)) (da_cons (de_len (by rfl) (T.free 56 (by rfl)) (da_cons (de_var (i := 1)) da_nil)) da_nil))) (dg_name 2 sc__law_odd.nd))
    (dss_cons (ds_asg (de_add (de_add (de_add (de_slice (de_var (i := 1)) do_none (do_some (de_var (i := 2)))) (de_slice (de_var (i := 1)) (do_some (de_add (de_var (i := 2)) de_int)) (do_some (de_add (de_var (i := 2)) de_int)))) (de_slice (de_var (i := 1)) (do_some (de_var (i := 2))) (do_some (de_add (de_var (i := 2)) de_int)))) (de_slice (de_var (i := 1)) (do_some (de_add (de_var (i := 2)) de_int)) do_none)) (dg_name 3 sc__law_odd.nd))
    (dss_cons (ds_asg (de_add (de_add (de_slice (de_var (i := 1)) do_none (do_some (de_var (i := 2)))) (de_slice (de_var (i := 1)) (do_some (de_var (i := 2))) (do_some (de_add (de_var (i := 2)) de_int)))) (de_slice (de_var (i := 1)) (do_some (de_var (i := 2))) do_none)) (dg_name 4 sc__law_odd.nd))
    (dss_cons (ds_asg (de_add (de_slice (de_var (i := 1)) do_none (do_some (de_var (i := 2)))) (de_slice (de_var (i := 1)) (do_some (de_add (de_var (i := 2)) de_int)) do_none)) (dg_name 5 sc__law_odd.nd))
    (dss_one (ds_ret (de_call G__law_of (hr.mono (by first | decide | omega)) (by rfl) (da_cons (de_var (i := 0)) (da_cons (de_lst (da_cons (de_var (i := 3)) (da_cons (de_var (i := 4)) (da_cons (de_var (i := 5)) (da_cons (de_var (i := 4)) (da_cons (de_var (i := 3)) (da_cons (de_add (de_var (i := 1)) (de_tup (da_cons de_int da_nil))) (da_cons (de_add (de_var (i := 1)) (de_tup (da_cons de_non da_nil))) (da_cons (de_tup (da_cons (de_var (i := 1)) da_nil)) (da_cons (de_tup da_nil) (da_cons de_non da_nil))))))))))) da_nil))))))))) dss_nil)
    (dss_cons (ds_if (dt_truth (de_isi .tuple (by rfl) (T.free 55 (by rfl)) (by rfl) (T.free 61 (by rfl)) (de_var (i := 1)))) (dss_one (ds_ret (de_call G__law_of (hr.mono (by first | decide | omega)) (by rfl) (da_cons (de_var (i := 0)) (da_cons (de_lst (da_cons de_non (da_cons de_int (da_cons de_str (da_cons (de_tup (da_cons de_int da_nil)) (da_cons (de_tup (da_cons (de_tup da_nil) da_nil)) (da_cons (de_tup (da_cons de_non da_nil)) (da_cons de_bl da_nil)))))))) da_nil))))) dss_nil)
    (dss_cons (ds_if (dt_truth (de_isi .str (by rfl) (T.free 55 (by rfl)) (by rfl) (T.free 60 (by rfl)) (de_var (i := 1)))) (dss_cons (ds_asg (de_lst (da_cons (de_add (de_var (i := 1)) de_str) (da_cons (de_add (de_var (i := 1)) de_str) (da_cons (de_add (de_var (i := 1)) de_str) (da_cons (de_add de_str (de_slice (de_var (i := 1)) do_none (do_some de_int))) (da_cons (de_add (de_slice (de_var (i := 1)) do_none (do_some de_int)) de_str) (da_cons (de_add (de_slice (de_var (i := 1)) do_none (do_some de_int)) de_str) da_nil))))))) (dg_name 6 sc__law_odd.nd))
    (dss_one (ds_ret (de_call G__law_of (hr.mono (by first | decide | omega)) (by rfl) (da_cons (de_var (i := 0)) (da_cons (de_add (de_var (i := 6)) (de_lst (da_cons de_str (da_cons de_str (da_cons de_str (da_cons de_non (da_cons de_int (da_cons de_bl (da_cons (de_tup (da_cons (de_var (i := 1)) da_nil)) da_nil))))))))) da_nil)))))) dss_nil)
    (dss_one (ds_ret (de_call G__law_of (hr.mono (by first | decide | omega)) (by rfl) (da_cons (de_var (i := 0)) (da_cons (de_lst (da_cons (de_add (de_var (i := 1)) de_int) (da_cons (de_sub (de_var (i := 1)) de_int) (da_cons (de_neg de_int) (da_cons (de_sub (de_neg de_int) (de_var (i := 1))) (da_cons (de_cmp (cm_eq hr.units) (de_var (i := 1)) de_int) (da_cons de_bl (da_cons de_bl (da_cons de_non (da_cons de_str (da_cons (de_tup (da_cons (de_var (i := 1)) da_nil)) (da_cons de_int (da_cons de_int (da_cons de_int da_nil)))))))))))))) da_nil))))))))
theorem sc__law_paths : FnScope N__law_paths ["thing"] (defScope s__law_paths) := ⟨rfl, rfl, rfl, by decide +kernel, rfl, by decide +kernel, by decide +kernel⟩
theorem der__law_paths {sp : DSp} (T : Tp K mg)  (len : ∀ ds s Q, sp ds s Q → ds.length = 1)
    (rd : ∀ ds s Q, sp ds s Q → t__law_paths K  (endsOf Q) (startD N__law_paths ds) s) : Known P w K mg base (1) "_law_paths" sp := by
  obtain ⟨f, fd, F, gm⟩ := T.def_ 30 30 (d := d__law_paths) (by rfl) (by rfl) (by rfl)
  refine known_of (k := 0) F gm sc__law_paths (F.bindsN fun _ _ _ _ _ _ us hl => match us, hl with | [_], _ => rfl) (ps := ["thing"]) len (fun cdv A outer s H E hr => ⟨t__law_paths K , ?_, rd⟩)
  unfold t__law_paths
  exact (dss_cons (ds_asg (de_lst da_nil) (dg_name 1 sc__law_paths.nd))
    (dss_cons (ds_asg (de_lst (da_cons (de_tup (da_cons (de_tup da_nil) (da_cons (de_var (i := 0)) da_nil))) da_nil)) (dg_name 2 sc__law_paths.nd))
    (dss_cons (ds_for PassesOwn.never rfl (di_range1 (by rfl) (T.free 58 (by rfl)) (da_cons de_int da_nil)) (dg_name 3 sc__law_paths.nd) (dss_cons (ds_asg (de_add (de_var (i := 1)) (de_lc (own := [("way", 5), ("part", 6)]) rfl sc__law_paths.nd (di_any (de_var (i := 2))) (blkOk_by (N := N__law_paths) (sc := defScope s__law_paths) (by decide +kernel)) (fun _ _ _ _ _ => (dg_tup rfl (dgs_cons (dg_name 5 sc__law_paths.nd) (dgs_cons (dg_name 6 sc__law_paths.nd) dgs_nil)))) (fun _ _ _ _ _ => dts_nil) (fun _ _ _ _ _ => (de_var (i := 5))))) (dg_name 1 sc__law_paths.nd))
    (dss_cons (ds_asg (de_lst da_nil) (dg_name 4 sc__law_paths.nd))
    (dss_cons (ds_for PassesOwn.never rfl (di_any (de_var (i := 2))) (dg_tup rfl (dgs_cons (dg_name 5 sc__law_paths.nd) (dgs_cons (dg_name 6 sc__law_paths.nd) dgs_nil))) (dss_one (ds_if (dt_truth (de_isi .tuple (by rfl) (T.free 55 (by rfl)) (by rfl) (T.free 61 (by rfl)) (de_var (i := 6)))) (dss_one (ds_for PassesOwn.never rfl (di_range1 (by rfl) (T.free 58 (by rfl)) (da_cons (de_len (by rfl) (T.free 56 (by rfl)) (da_cons (de_var (i := 6)) da_nil)) da_nil)) (dg_name 7 sc__law_paths.nd) (dss_one (ds_expr (de_append (de_var (i := 4)) (de_tup (da_cons (de_add (de_var (i := 5)) (de_tup (da_cons (de_var (i := 7)) da_nil))) (da_cons (de_ix (de_var (i := 6)) (de_var (i := 7))) da_nil)))))))) dss_nil)))
    (dss_one (ds_asg (de_var (i := 4)) (dg_name 2 sc__law_paths.nd)))))))
    (dss_one (ds_ret (de_var (i := 1)))))))
theorem sc__law_part : FnScope N__law_part ["thing", "way"] (defScope s__law_part) := ⟨rfl, rfl, rfl, by decide +kernel, rfl, by decide +kernel, by decide +kernel⟩
theorem der__law_part {sp : DSp} (T : Tp K mg)  (len : ∀ ds s Q, sp ds s Q → ds.length = 2)
    (rd : ∀ ds s Q, sp ds s Q → t__law_part K  (endsOf Q) (startD N__law_part ds) s) : Known P w K mg base (1) "_law_part" sp := by
  obtain ⟨f, fd, F, gm⟩ := T.def_ 31 31 (d := d__law_part) (by rfl) (by rfl) (by rfl)
  refine known_of (k := 0) F gm sc__law_part (F.bindsN fun _ _ _ _ _ _ us hl => match us, hl with | [_, _], _ => rfl) (ps := ["thing", "way"]) len (fun cdv A outer s H E hr => ⟨t__law_part K , ?_, rd⟩)
  unfold t__law_part
  exact (dss_cons (ds_for PassesOwn.never rfl (di_any (de_var (i := 1))) (dg_name 2 sc__law_part.nd) (dss_one (ds_asg (de_ix (de_var (i := 0)) (de_var (i := 2))) (dg_name 0 sc__law_part.nd))))
    (dss_one (ds_ret (de_var (i := 0)))))
theorem sc__law_put : FnScope N__law_put ["thing", "way", "other"] (defScope s__law_put) := ⟨rfl, rfl, rfl, by decide +kernel, rfl, by decide +kernel, by decide +kernel⟩
theorem no__law_put (T : Tp K mg) {kk : Nat} : Known P w K mg base kk "_law_put" (fun _ _ _ => False) := by
  obtain ⟨f, fd, F, gm⟩ := T.def_ 32 32 (d := d__law_put) (by rfl) (by rfl) (by rfl)
  exact known_no F gm (F.bindsN fun _ _ _ _ _ _ us hl => match us, hl with | [_, _, _], _ => rfl) (ps := ["thing", "way", "other"])
theorem der__law_put {sp sp__law_put : DSp} (T : Tp K mg) {kk : Nat} (hk : 0 ≤ kk) (G__law_put : Known P w K mg base kk "_law_put" sp__law_put) (len : ∀ ds s Q, sp ds s Q → ds.length = 3)
    (rd : ∀ ds s Q, sp ds s Q → t__law_put K sp__law_put (endsOf Q) (startD N__law_put ds) s) : Known P w K mg base (kk + 1) "_law_put" sp := by
  obtain ⟨f, fd, F, gm⟩ := T.def_ 32 32 (d := d__law_put) (by rfl) (by rfl) (by rfl)
  refine known_of (k := kk) F gm sc__law_put (F.bindsN fun _ _ _ _ _ _ us hl => match us, hl with | [_, _, _], _ => rfl) (ps := ["thing", "way", "other"]) len (fun cdv A outer s H E hr => ⟨t__law_put K sp__law_put, ?_, rd⟩)
  unfold t__law_put
  exact (dss_cons (ds_if (dt_cmp (cm_eq hr.units) (de_len (by rfl) (T.free 56 (by rfl)) (da_cons (de_var (i := 1)) da_nil)) de_int) (dss_one (ds_ret (de_var (i := 2)))) dss_nil)
    (dss_cons (ds_asg (de_ix (de_var (i := 1)) de_int) (dg_name 3 sc__law_put.nd))
    (dss_one (ds_ret (de_add (de_add (de_slice (de_var (i := 0)) do_none (do_some (de_var (i := 3)))) (de_tup (da_cons (de_call G__law_put (hr.mono (Nat.le_refl _)) (by rfl) (da_cons (de_ix (de_var (i := 0)) (de_var (i := 3))) (da_cons (de_slice (de_var (i := 1)) (do_some de_int) do_none) (da_cons (de_var (i := 2)) da_nil)))) da_nil))) (de_slice (de_var (i := 0)) (do_some (de_add (de_var (i := 3)) de_int)) do_none))))))
theorem sc__law_bent : FnScope N__law_bent ["jar", "thing", "many"] (defScope s__law_bent) := ⟨rfl, rfl, rfl, by decide +kernel, rfl, by decide +kernel, by decide +kernel⟩
theorem der__law_bent {sp sp__law_paths sp__law_of sp__law_put sp__law_odd sp__law_part : DSp} (T : Tp K mg) (G__law_paths : Known P w K mg base 1 "_law_paths" sp__law_paths) (G__law_of : Known P w K mg base 3 "_law_of" sp__law_of) (G__law_put : Known P w K mg base 16 "_law_put" sp__law_put) (G__law_odd : Known P w K mg base 4 "_law_odd" sp__law_odd) (G__law_part : Known P w K mg base 1 "_law_part" sp__law_part) (len : ∀ ds s Q, sp ds s Q → ds.length = 3)
    (rd : ∀ ds s Q, sp ds s Q → t__law_bent K sp__law_paths sp__law_of sp__law_put sp__law_odd sp__law_part (endsOf Q) (startD N__law_bent ds) s) : Known P w K mg base (17) "_law_bent" sp := by
  obtain ⟨f, fd, F, gm⟩ := T.def_ 33 33 (d := d__law_bent) (by rfl) (by rfl) (by rfl)
  refine known_of (k := 16) F gm sc__law_bent (F.bindsN fun _ _ _ _ _ _ us hl => match us, hl with | [_, _, _], _ => rfl) (ps := ["jar", "thing", "many"]) len (fun cdv A outer s H E hr => ⟨t__law_bent K sp__law_paths sp__law_of sp__law_put sp__law_odd sp__law_part, ?_, rd⟩)
  unfold t__law_bent
  exact (dss_cons (ds_asg (de_call G__law_paths (hr.mono (by first | decide | omega)) (by rfl) (da_cons (de_var (i := 1)) da_nil)) (dg_name 3 sc__law_bent.nd))
    (dss_cons (ds_setLc (i := 4) (own := [("way", 7)]) rfl sc__law_bent.nd rfl rfl (L2.sw_true rfl rfl rfl (by decide +kernel)) (di_any (de_var (i := 3))) (blkOk_by (N := N__law_bent) (sc := defScope s__law_bent) (by decide +kernel)) (fun _ _ _ _ _ => (dg_name 7 sc__law_bent.nd)) (fun _ _ _ _ _ => (dts_one (dt_cmp cm_le (de_len (by rfl) (T.free 56 (by rfl)) (da_cons (de_var (i := 7)) da_nil)) de_int))) (fun _ _ _ _ _ => (de_var (i := 7))))
    (dss_cons (ds_asg (de_lst da_nil) (dg_name 5 sc__law_bent.nd))
    (dss_cons (ds_for PassesOwn.never rfl (di_range1 (by rfl) (T.free 58 (by rfl)) (da_cons (de_var (i := 2)) da_nil)) (dg_name 6 sc__law_bent.nd) (dss_cons (ds_asg (de_call G__law_of (hr.mono (by first | decide | omega)) (by rfl) (da_cons (de_var (i := 0)) (da_cons (de_if (dt_cmp (cm_ltD hr.units) (de_var (i := 6)) (de_fdiv (de_var (i := 2)) de_int)) (de_var (i := 4)) (de_var (i := 3))) da_nil))) (dg_name 7 sc__law_bent.nd))
    (dss_one (ds_expr (de_append (de_var (i := 5)) (de_call G__law_put (hr.mono (by first | decide | omega)) (by rfl) (da_cons (de_var (i := 1)) (da_cons (de_var (i := 7)) (da_cons (de_call G__law_odd (hr.mono (by first | decide | omega)) (by rfl) (da_cons (de_var (i := 0)) (da_cons (de_call G__law_part (hr.mono (by first | decide | omega)) (by rfl) (da_cons (de_var (i := 1)) (da_cons (de_var (i := 7)) da_nil))) da_nil))) da_nil)))))))))
    (dss_one (ds_ret (de_var (i := 5))))))))
theorem sc__law_jar : FnScope N__law_jar ["script", "salt"] (defScope s__law_jar) := ⟨rfl, rfl, rfl, by decide +kernel, rfl, by decide +kernel, by decide +kernel⟩
theorem der__law_jar {sp : DSp} (T : Tp K mg)  (len : ∀ ds s Q, sp ds s Q → ds.length = 2)
    (rd : ∀ ds s Q, sp ds s Q → t__law_jar K  (endsOf Q) (startD N__law_jar ds) s) : Known P w K mg base (1) "_law_jar" sp := by
  obtain ⟨f, fd, F, gm⟩ := T.def_ 34 34 (d := d__law_jar) (by rfl) (by rfl) (by rfl)
  refine known_of (k := 0) F gm sc__law_jar (F.bindsN fun _ _ _ _ _ _ us hl => match us, hl with | [_, _], _ => rfl) (ps := ["script", "salt"]) len (fun cdv A outer s H E hr => ⟨t__law_jar K , ?_, rd⟩)
  unfold t__law_jar
  exact (dss_cons (ds_setLc (i := 2) (own := [("cell", 3)]) rfl sc__law_jar.nd rfl rfl (L2.sw_true rfl rfl rfl (by decide +kernel)) (di_any (de_slice (de_var (i := 0)) do_none (do_some de_int))) (blkOk_by (N := N__law_jar) (sc := defScope s__law_jar) (by decide +kernel)) (fun _ _ _ _ _ => (dg_name 3 sc__law_jar.nd)) (fun _ _ _ _ _ => dts_nil) (fun _ _ _ _ _ => (de_intOf (by rfl) (T.free 54 (by rfl)) (da_cons (de_var (i := 3)) da_nil))))
    (dss_one (ds_ret (de_disp (dps_cons (de_var (i := 2)) (dps_cons de_int (dps_cons (de_add (de_var (i := 1)) (de_mul de_int (de_len (by rfl) (T.free 56 (by rfl)) (da_cons (de_var (i := 2)) da_nil)))) (dps_cons de_int dps_nil))))))))
theorem sc__law_mixed : FnScope N__law_mixed ["cell", "turn"] (defScope s__law_mixed) := ⟨rfl, rfl, rfl, by decide +kernel, rfl, by decide +kernel, by decide +kernel⟩
theorem der__law_mixed {sp : DSp} (T : Tp K mg)  (len : ∀ ds s Q, sp ds s Q → ds.length = 2)
    (rd : ∀ ds s Q, sp ds s Q → t__law_mixed K  (endsOf Q) (startD N__law_mixed ds) s) : Known P w K mg base (1) "_law_mixed" sp := by
  obtain ⟨f, fd, F, gm⟩ := T.def_ 35 35 (d := d__law_mixed) (by rfl) (by rfl) (by rfl)
  refine known_of (k := 0) F gm sc__law_mixed (F.bindsN fun _ _ _ _ _ _ us hl => match us, hl with | [_, _], _ => rfl) (ps := ["cell", "turn"]) len (fun cdv A outer s H E hr => ⟨t__law_mixed K , ?_, rd⟩)
  unfold t__law_mixed
  exact (dss_cons (ds_asg (de_mod (de_intOf (by rfl) (T.free 54 (by rfl)) (da_cons (de_add (de_add (de_add (de_mul (de_abs (by rfl) (T.free 51 (by rfl)) (da_cons (de_var (i := 0)) da_nil)) de_int) (de_if (dt_cmp (cm_ltD hr.units) (de_var (i := 0)) de_int) de_int de_int)) (de_mul (de_var (i := 1)) de_int)) de_int) da_nil)) de_int) (dg_name 2 sc__law_mixed.nd))
    (dss_cons (ds_asg (de_mod (de_intOf (by rfl) (T.free 54 (by rfl)) (da_cons (de_add (de_add (de_mul (de_var (i := 2)) de_int) (de_mul (de_mul (de_var (i := 1)) (de_var (i := 1))) de_int)) de_int) da_nil)) de_int) (dg_name 3 sc__law_mixed.nd))
    (dss_one (ds_ret (de_mod (de_intOf (by rfl) (T.free 54 (by rfl)) (da_cons (de_add (de_add (de_mul (de_var (i := 3)) (de_var (i := 3))) (de_mul (de_var (i := 2)) de_int)) (de_var (i := 1))) da_nil)) de_int)))))
theorem sc__law_draw : FnScope N__law_draw ["jar", "many"] (defScope s__law_draw) := ⟨rfl, rfl, rfl, by decide +kernel, rfl, by decide +kernel, by decide +kernel⟩
theorem der__law_draw {sp sp__law_mixed : DSp} (T : Tp K mg) (G__law_mixed : Known P w K mg base 1 "_law_mixed" sp__law_mixed) (len : ∀ ds s Q, sp ds s Q → ds.length = 2)
    (rd : ∀ ds s Q, sp ds s Q → t__law_draw K sp__law_mixed (endsOf Q) (startD N__law_draw ds) s) : Known P w K mg base (2) "_law_draw" sp := by
  obtain ⟨f, fd, F, gm⟩ := T.def_ 36 36 (d := d__law_draw) (by rfl) (by rfl) (by rfl)
  refine known_of (k := 1) F gm sc__law_draw (F.bindsN fun _ _ _ _ _ _ us hl => match us, hl with | [_, _], _ => rfl) (ps := ["jar", "many"]) len (fun cdv A outer s H E hr => ⟨t__law_draw K sp__law_mixed, ?_, rd⟩)
  unfold t__law_draw
  exact (dss_cons (ds_dput (hu_of hr) (de_var (i := 0)) de_str (de_add (de_dget (hu_of hr) (de_var (i := 0)) de_str) de_int))
    (dss_cons (ds_asg (de_dget (hu_of hr) (de_var (i := 0)) de_str) (dg_name 2 sc__law_draw.nd))
    (dss_cons (ds_if (dt_cmp cm_ge (de_var (i := 2)) (de_var (i := 1))) (dss_cons (ds_dput (hu_of hr) (de_var (i := 0)) de_str (de_fdiv (de_var (i := 2)) (de_var (i := 1))))
    (dss_one (ds_ret (de_mod (de_intOf (by rfl) (T.free 54 (by rfl)) (da_cons (de_var (i := 2)) da_nil)) (de_var (i := 1)))))) dss_nil)
    (dss_cons (ds_asg (de_dget (hu_of hr) (de_var (i := 0)) de_str) (dg_name 3 sc__law_draw.nd))
    (dss_cons (ds_asg (de_if (dt_cmp cm_gt (de_len (by rfl) (T.free 56 (by rfl)) (da_cons (de_var (i := 3)) da_nil)) de_int) (de_ix (de_var (i := 3)) (de_mod (de_intOf (by rfl) (T.free 54 (by rfl)) (da_cons (de_dget (hu_of hr) (de_var (i := 0)) de_str) da_nil)) (de_len (by rfl) (T.free 56 (by rfl)) (da_cons (de_var (i := 3)) da_nil)))) de_int) (dg_name 4 sc__law_draw.nd))
    (dss_cons (ds_dput (hu_of hr) (de_var (i := 0)) de_str (de_add (de_dget (hu_of hr) (de_var (i := 0)) de_str) de_int))
    (dss_cons (ds_if (dt_w (dw_and (dt_cmp cm_ge (de_abs (by rfl) (T.free 51 (by rfl)) (da_cons (de_var (i := 4)) da_nil)) (de_pow de_int de_int)) (dw_and1 (dt_cmp cm_le (de_dget (hu_of hr) (de_var (i := 0)) de_str) (de_len (by rfl) (T.free 56 (by rfl)) (da_cons (de_var (i := 3)) da_nil)))))) (dss_cons (ds_dput (hu_of hr) (de_var (i := 0)) de_str (de_fdiv (de_abs (by rfl) (T.free 51 (by rfl)) (da_cons (de_var (i := 4)) da_nil)) (de_var (i := 1))))
    (dss_one (ds_ret (de_mod (de_intOf (by rfl) (T.free 54 (by rfl)) (da_cons (de_abs (by rfl) (T.free 51 (by rfl)) (da_cons (de_var (i := 4)) da_nil)) da_nil)) (de_var (i := 1)))))) dss_nil)
    (dss_one (ds_ret (de_mod (de_fdiv (de_intOf (by rfl) (T.free 54 (by rfl)) (da_cons (de_call G__law_mixed (hr.mono (by first | decide | omega)) (by rfl) (da_cons (de_var (i := 4)) (da_cons (de_dget (hu_of hr) (de_var (i := 0)) de_str) da_nil))) da_nil)) de_int) (de_var (i := 1))))))))))))
theorem sc__law_one_in : FnScope N__law_one_in ["jar", "many"] (defScope s__law_one_in) := ⟨rfl, rfl, rfl, by decide +kernel, rfl, by decide +kernel, by decide +kernel⟩
theorem der__law_one_in {sp sp__law_draw : DSp} (T : Tp K mg) (G__law_draw : Known P w K mg base 2 "_law_draw" sp__law_draw) (len : ∀ ds s Q, sp ds s Q → ds.length = 2)
    (rd : ∀ ds s Q, sp ds s Q → t__law_one_in K sp__law_draw (endsOf Q) (startD N__law_one_in ds) s) : Known P w K mg base (3) "_law_one_in" sp := by
  obtain ⟨f, fd, F, gm⟩ := T.def_ 37 37 (d := d__law_one_in) (by rfl) (by rfl) (by rfl)
  refine known_of (k := 2) F gm sc__law_one_in (F.bindsN fun _ _ _ _ _ _ us hl => match us, hl with | [_, _], _ => rfl) (ps := ["jar", "many"]) len (fun cdv A outer s H E hr => ⟨t__law_one_in K sp__law_draw, ?_, rd⟩)
  unfold t__law_one_in
  exact (dss_one (ds_ret (de_cmp (cm_eq hr.units) (de_call G__law_draw (hr.mono (by first | decide | omega)) (by rfl) (da_cons (de_var (i := 0)) (da_cons (de_var (i := 1)) da_nil))) (de_sub (de_var (i := 1)) de_int))))
theorem sc__law_of : FnScope N__law_of ["jar", "row"] (defScope s__law_of) := ⟨rfl, rfl, rfl, by decide +kernel, rfl, by decide +kernel, by decide +kernel⟩
theorem der__law_of {sp sp__law_draw : DSp} (T : Tp K mg) (G__law_draw : Known P w K mg base 2 "_law_draw" sp__law_draw) (len : ∀ ds s Q, sp ds s Q → ds.length = 2)
    (rd : ∀ ds s Q, sp ds s Q → t__law_of K sp__law_draw (endsOf Q) (startD N__law_of ds) s) : Known P w K mg base (3) "_law_of" sp := by
  obtain ⟨f, fd, F, gm⟩ := T.def_ 38 38 (d := d__law_of) (by rfl) (by rfl) (by rfl)
  refine known_of (k := 2) F gm sc__law_of (F.bindsN fun _ _ _ _ _ _ us hl => match us, hl with | [_, _], _ => rfl) (ps := ["jar", "row"]) len (fun cdv A outer s H E hr => ⟨t__law_of K sp__law_draw, ?_, rd⟩)
  unfold t__law_of
  exact (dss_one (ds_ret (de_ix (de_var (i := 1)) (de_call G__law_draw (hr.mono (by first | decide | omega)) (by rfl) (da_cons (de_var (i := 0)) (da_cons (de_len (by rfl) (T.free 56 (by rfl)) (da_cons (de_var (i := 1)) da_nil)) da_nil))))))
theorem sc__law_stem : FnScope N__law_stem ["jar"] (defScope s__law_stem) := ⟨rfl, rfl, rfl, by decide +kernel, rfl, by decide +kernel, by decide +kernel⟩
theorem der__law_stem {sp sp__law_draw sp__law_one_in : DSp} (T : Tp K mg) (G__law_draw : Known P w K mg base 2 "_law_draw" sp__law_draw) (G__law_one_in : Known P w K mg base 3 "_law_one_in" sp__law_one_in) (len : ∀ ds s Q, sp ds s Q → ds.length = 1)
    (rd : ∀ ds s Q, sp ds s Q → t__law_stem K sp__law_draw sp__law_one_in (endsOf Q) (startD N__law_stem ds) s) : Known P w K mg base (4) "_law_stem" sp := by
  obtain ⟨f, fd, F, gm⟩ := T.def_ 39 39 (d := d__law_stem) (by rfl) (by rfl) (by rfl)
  refine known_of (k := 3) F gm sc__law_stem (F.bindsN fun _ _ _ _ _ _ us hl => match us, hl with | [_], _ => rfl) (ps := ["jar"]) len (fun cdv A outer s H E hr => ⟨t__law_stem K sp__law_draw sp__law_one_in, ?_, rd⟩)
  unfold t__law_stem
  exact (dss_cons (ds_asg de_str (dg_name 1 sc__law_stem.nd))
    (dss_cons (ds_asg de_str (dg_name 2 sc__law_stem.nd))
    (dss_cons (ds_asg (de_ix (de_var (i := 1)) (de_call G__law_draw (hr.mono (by first | decide | omega)) (by rfl) (da_cons (de_var (i := 0)) (da_cons de_int da_nil)))) (dg_name 3 sc__law_stem.nd))
    (dss_cons (ds_asg (de_if (dt_truth (de_call G__law_one_in (hr.mono (by first | decide | omega)) (by rfl) (da_cons (de_var (i := 0)) (da_cons de_int da_nil)))) de_int (de_call G__law_draw (hr.mono (by first | decide | omega)) (by rfl) (da_cons (de_var (i := 0)) (da_cons de_int da_nil)))) (dg_name 4 sc__law_stem.nd))
    (dss_cons (ds_for PassesOwn.never rfl (di_range1 (by rfl) (T.free 58 (by rfl)) (da_cons (de_var (i := 4)) da_nil)) (dg_name 5 sc__law_stem.nd) (dss_one (ds_asg (de_add (de_var (i := 3)) (de_ix (de_var (i := 2)) (de_call G__law_draw (hr.mono (by first | decide | omega)) (by rfl) (da_cons (de_var (i := 0)) (da_cons de_int da_nil))))) (dg_name 3 sc__law_stem.nd))))
    (dss_one (ds_ret (de_var (i := 3)))))))))
theorem sc__law_name : FnScope N__law_name ["jar", "taken"] (defScope s__law_name) := ⟨rfl, rfl, rfl, by decide +kernel, rfl, by decide +kernel, by decide +kernel⟩
theorem der__law_name {sp sp__law_stem sp__law_one_in sp__law_of : DSp} (T : Tp K mg) (G__law_stem : Known P w K mg base 4 "_law_stem" sp__law_stem) (G__law_one_in : Known P w K mg base 3 "_law_one_in" sp__law_one_in) (G__law_of : Known P w K mg base 3 "_law_of" sp__law_of) (len : ∀ ds s Q, sp ds s Q → ds.length = 2)
    (rd : ∀ ds s Q, sp ds s Q → t__law_name K sp__law_stem sp__law_one_in sp__law_of (endsOf Q) (startD N__law_name ds) s) : Known P w K mg base (5) "_law_name" sp := by
  obtain ⟨f, fd, F, gm⟩ := T.def_ 40 40 (d := d__law_name) (by rfl) (by rfl) (by rfl)
  refine known_of (k := 4) F gm sc__law_name (F.bindsN fun _ _ _ _ _ _ us hl => match us, hl with | [_, _], _ => rfl) (ps := ["jar", "taken"]) len (fun cdv A outer s H E hr => ⟨t__law_name K sp__law_stem sp__law_one_in sp__law_of, ?_, rd⟩)
  unfold t__law_name
  exact (dss_cons (ds_asg (de_call G__law_stem (hr.mono (by first | decide | omega)) (by rfl) (da_cons (de_var (i := 0)) da_nil)) (dg_name 2 sc__law_name.nd))
    (dss_cons (ds_if (dt_w (dw_and (dt_cmp cm_gt (de_len (by rfl) (T.free 56 (by rfl)) (da_cons (de_var (i := 1)) da_nil)) de_int) (dw_and1 (dt_truth (de_call G__law_one_in (hr.mono (by first | decide | omega)) (by rfl) (da_cons (de_var (i := 0)) (da_cons de_int da_nil))))))) (dss_cons (ds_asg (de_call G__law_of (hr.mono (by first | decide | omega)) (by rfl) (da_cons (de_var (i := 0)) (da_cons (de_var (i := 1)) da_nil))) (dg_name 4 sc__law_name.nd))
    (dss_one (ds_asg (de_add (de_if (dt_cmp (cm_eq hr.units) (de_len (by rfl) (T.free 56 (by rfl)) (da_cons (de_var (i := 4)) da_nil)) de_int) (de_slice (de_var (i := 4)) do_none (do_some de_int)) (de_var (i := 4))) (de_call G__law_of (hr.mono (by first | decide | omega)) (by rfl) (da_cons (de_var (i := 0)) (da_cons (de_lst (da_cons de_str (da_cons de_str (da_cons de_str (da_cons de_str da_nil))))) da_nil)))) (dg_name 2 sc__law_name.nd)))) dss_nil)
    (dss_cons (ds_if (dt_w (dw_and (dt_cmp (cm_notin (u65 hr)) (de_var (i := 2)) (de_var (i := 1))) (dw_and1 (dt_cmp (cm_ne hr.units) (de_var (i := 2)) de_str)))) (dss_one (ds_ret (de_var (i := 2)))) dss_nil)
    (dss_cons (ds_for PassesOwn.never rfl (di_range1 (by rfl) (T.free 58 (by rfl)) (da_cons (de_add (de_len (by rfl) (T.free 56 (by rfl)) (da_cons (de_var (i := 1)) da_nil)) de_int) da_nil)) (dg_name 3 sc__law_name.nd) (dss_cons (ds_asg (de_add (de_add de_str (de_strOf (by rfl) (T.free 60 (by rfl)) (da_cons (de_var (i := 3)) da_nil))) (de_slice (de_var (i := 2)) do_none (do_some de_int))) (dg_name 5 sc__law_name.nd))
    (dss_one (ds_if (dt_cmp (cm_notin (u65 hr)) (de_var (i := 5)) (de_var (i := 1))) (dss_one (ds_ret (de_var (i := 5)))) dss_nil))))
    (dss_one (ds_ret (de_var (i := 2))))))))
theorem sc__law_names : FnScope N__law_names ["jar", "many"] (defScope s__law_names) := ⟨rfl, rfl, rfl, by decide +kernel, rfl, by decide +kernel, by decide +kernel⟩
theorem der__law_names {sp sp__law_name : DSp} (T : Tp K mg) (G__law_name : Known P w K mg base 5 "_law_name" sp__law_name) (len : ∀ ds s Q, sp ds s Q → ds.length = 2)
    (rd : ∀ ds s Q, sp ds s Q → t__law_names K sp__law_name (endsOf Q) (startD N__law_names ds) s) : Known P w K mg base (6) "_law_names" sp := by
  obtain ⟨f, fd, F, gm⟩ := T.def_ 41 41 (d := d__law_names) (by rfl) (by rfl) (by rfl)
  refine known_of (k := 5) F gm sc__law_names (F.bindsN fun _ _ _ _ _ _ us hl => match us, hl with | [_, _], _ => rfl) (ps := ["jar", "many"]) len (fun cdv A outer s H E hr => ⟨t__law_names K sp__law_name, ?_, rd⟩)
  unfold t__law_names
  exact (dss_cons (ds_asg (de_lst da_nil) (dg_name 2 sc__law_names.nd))
    (dss_cons (ds_for PassesOwn.never rfl (di_range1 (by rfl) (T.free 58 (by rfl)) (da_cons (de_var (i := 1)) da_nil)) (dg_name 3 sc__law_names.nd) (dss_one (ds_expr (de_append (de_var (i := 2)) (de_call G__law_name (hr.mono (by first | decide | omega)) (by rfl) (da_cons (de_var (i := 0)) (da_cons (de_var (i := 2)) da_nil)))))))
    (dss_one (ds_ret (de_var (i := 2))))))
theorem sc__law_target : FnScope N__law_target ["jar", "at", "many"] (defScope s__law_target) := ⟨rfl, rfl, rfl, by decide +kernel, rfl, by decide +kernel, by decide +kernel⟩
theorem der__law_target {sp sp__law_draw sp__law_one_in : DSp} (T : Tp K mg) (G__law_draw : Known P w K mg base 2 "_law_draw" sp__law_draw) (G__law_one_in : Known P w K mg base 3 "_law_one_in" sp__law_one_in) (len : ∀ ds s Q, sp ds s Q → ds.length = 3)
    (rd : ∀ ds s Q, sp ds s Q → t__law_target K sp__law_draw sp__law_one_in (endsOf Q) (startD N__law_target ds) s) : Known P w K mg base (4) "_law_target" sp := by
  obtain ⟨f, fd, F, gm⟩ := T.def_ 42 42 (d := d__law_target) (by rfl) (by rfl) (by rfl)
  refine known_of (k := 3) F gm sc__law_target (F.bindsN fun _ _ _ _ _ _ us hl => match us, hl with | [_, _, _], _ => rfl) (ps := ["jar", "at", "many"]) len (fun cdv A outer s H E hr => ⟨t__law_target K sp__law_draw sp__law_one_in, ?_, rd⟩)
  unfold t__law_target
  exact (dss_cons (ds_if (dt_w (dw_and (dt_cmp (cm_ltD hr.units) (de_add (de_var (i := 1)) de_int) (de_var (i := 2))) (dw_and1 (dt_not (dt_truth (de_call G__law_one_in (hr.mono (by first | decide | omega)) (by rfl) (da_cons (de_var (i := 0)) (da_cons de_int da_nil)))))))) (dss_one (ds_ret (de_add (de_add (de_var (i := 1)) de_int) (de_call G__law_draw (hr.mono (by first | decide | omega)) (by rfl) (da_cons (de_var (i := 0)) (da_cons (de_sub (de_sub (de_var (i := 2)) (de_var (i := 1))) de_int) da_nil)))))) dss_nil)
    (dss_one (ds_ret (de_call G__law_draw (hr.mono (by first | decide | omega)) (by rfl) (da_cons (de_var (i := 0)) (da_cons (de_var (i := 2)) da_nil))))))
theorem sc__law_price : FnScope N__law_price ["jar", "wide"] (defScope s__law_price) := ⟨rfl, rfl, rfl, by decide +kernel, rfl, by decide +kernel, by decide +kernel⟩
theorem der__law_price {sp sp__law_draw sp__law_of : DSp} (T : Tp K mg) (G__law_draw : Known P w K mg base 2 "_law_draw" sp__law_draw) (G__law_of : Known P w K mg base 3 "_law_of" sp__law_of) (len : ∀ ds s Q, sp ds s Q → ds.length = 2)
    (rd : ∀ ds s Q, sp ds s Q → t__law_price K sp__law_draw sp__law_of (endsOf Q) (startD N__law_price ds) s) : Known P w K mg base (4) "_law_price" sp := by
  obtain ⟨f, fd, F, gm⟩ := T.def_ 43 43 (d := d__law_price) (by rfl) (by rfl) (by rfl)
  refine known_of (k := 3) F gm sc__law_price (F.bindsN fun _ _ _ _ _ _ us hl => match us, hl with | [_, _], _ => rfl) (ps := ["jar", "wide"]) len (fun cdv A outer s H E hr => ⟨t__law_price K sp__law_draw sp__law_of, ?_, rd⟩)
  unfold t__law_price
  exact (dss_cons (ds_asg (de_call G__law_draw (hr.mono (by first | decide | omega)) (by rfl) (da_cons (de_var (i := 0)) (da_cons de_int da_nil))) (dg_name 2 sc__law_price.nd))
    (dss_cons (ds_if (dt_w (dw_and (dt_cmp (cm_eq hr.units) (de_var (i := 2)) de_int) (dw_and1 (dt_truth (de_var (i := 1)))))) (dss_one (ds_ret (de_call G__law_of (hr.mono (by first | decide | omega)) (by rfl) (da_cons (de_var (i := 0)) (da_cons (de_lst (da_cons (de_neg de_int) (da_cons de_int (da_cons de_int (da_cons (de_neg de_int) da_nil))))) da_nil))))) dss_nil)
    (dss_cons (ds_if (dt_cmp cm_le (de_var (i := 2)) de_int) (dss_one (ds_ret (de_sub (de_neg de_int) (de_call G__law_draw (hr.mono (by first | decide | omega)) (by rfl) (da_cons (de_var (i := 0)) (da_cons de_int da_nil)))))) dss_nil)
    (dss_cons (ds_if (dt_cmp (cm_eq hr.units) (de_var (i := 2)) de_int) (dss_one (ds_ret de_int)) dss_nil)
    (dss_one (ds_ret (de_add de_int (de_call G__law_draw (hr.mono (by first | decide | omega)) (by rfl) (da_cons (de_var (i := 0)) (da_cons de_int da_nil))))))))))
theorem sc__law_words : FnScope N__law_words ["jar", "proc", "many", "reads", "calls", "starts", "asks"] (defScope s__law_words) := ⟨rfl, rfl, rfl, by decide +kernel, rfl, by decide +kernel, by decide +kernel⟩
theorem der__law_words {sp sp__law_one_in sp__law_of : DSp} (T : Tp K mg) (G__law_one_in : Known P w K mg base 3 "_law_one_in" sp__law_one_in) (G__law_of : Known P w K mg base 3 "_law_of" sp__law_of) (len : ∀ ds s Q, sp ds s Q → ds.length = 7)
    (rd : ∀ ds s Q, sp ds s Q → t__law_words K sp__law_one_in sp__law_of (endsOf Q) (startD N__law_words ds) s) : Known P w K mg base (4) "_law_words" sp := by
  obtain ⟨f, fd, F, gm⟩ := T.def_ 44 44 (d := d__law_words) (by rfl) (by rfl) (by rfl)
  refine known_of (k := 3) F gm sc__law_words (F.bindsN fun _ _ _ _ _ _ us hl => match us, hl with | [_, _, _, _, _, _, _], _ => rfl) (ps := ["jar", "proc", "many", "reads", "calls", "starts", "asks"]) len (fun cdv A outer s H E hr => ⟨t__law_words K sp__law_one_in sp__law_of, ?_, rd⟩)
  unfold t__law_words
  exact (dss_cons (ds_asg (de_lst da_nil) (dg_name 7 sc__law_words.nd))
    (dss_cons (ds_for PassesOwn.never rfl (di_range1 (by rfl) (T.free 58 (by rfl)) (da_cons (de_var (i := 2)) da_nil)) (dg_name 8 sc__law_words.nd) (dss_cons (ds_asg (de_lst (da_cons de_str (da_cons de_str (da_cons de_str (da_cons de_str da_nil))))) (dg_name 9 sc__law_words.nd))
    (dss_cons (ds_if (dt_truth (de_var (i := 3))) (dss_one (ds_asg (de_add (de_var (i := 9)) (de_lst (da_cons de_str (da_cons de_str (da_cons de_str da_nil))))) (dg_name 9 sc__law_words.nd))) dss_nil)
    (dss_cons (ds_if (dt_truth (de_var (i := 4))) (dss_one (ds_asg (de_add (de_var (i := 9)) (de_lst (da_cons de_str (da_cons de_str da_nil)))) (dg_name 9 sc__law_words.nd))) dss_nil)
    (dss_cons (ds_if (dt_truth (de_var (i := 5))) (dss_one (ds_asg (de_add (de_var (i := 9)) (de_lst (da_cons de_str da_nil))) (dg_name 9 sc__law_words.nd))) dss_nil)
    (dss_cons (ds_if (dt_w (dw_and (dt_truth (de_var (i := 6))) (dw_and1 (dt_cmp (cm_eq hr.units) (de_var (i := 1)) de_int)))) (dss_one (ds_asg (de_add (de_var (i := 9)) (de_lst (da_cons de_str (da_cons de_str da_nil)))) (dg_name 9 sc__law_words.nd))) dss_nil)
    (dss_cons (ds_if (dt_w (dw_and (dt_cmp cm_gt (de_var (i := 8)) de_int) (dw_and1 (dt_truth (de_call G__law_one_in (hr.mono (by first | decide | omega)) (by rfl) (da_cons (de_var (i := 0)) (da_cons de_int da_nil))))))) (dss_one (ds_asg (de_lst (da_cons de_str da_nil)) (dg_name 9 sc__law_words.nd))) dss_nil)
    (dss_one (ds_expr (de_append (de_var (i := 7)) (de_call G__law_of (hr.mono (by first | decide | omega)) (by rfl) (da_cons (de_var (i := 0)) (da_cons (de_var (i := 9)) da_nil)))))))))))))
    (dss_cons (ds_if (dt_not (dt_truth (de_call G__law_one_in (hr.mono (by first | decide | omega)) (by rfl) (da_cons (de_var (i := 0)) (da_cons de_int da_nil))))) (dss_one (ds_asg de_str (dg_lput (de_sub (de_var (i := 2)) de_int) (de_var (i := 7))))) dss_nil)
    (dss_one (ds_ret (de_var (i := 7)))))))
theorem sc__law_shape : FnScope N__law_shape ["jar", "asks"] (defScope s__law_shape) := ⟨rfl, rfl, rfl, by decide +kernel, rfl, by decide +kernel, by decide +kernel⟩
theorem der__law_shape {sp sp__law_of sp__law_one_in sp__law_draw sp__law_words : DSp} (T : Tp K mg) (G__law_of : Known P w K mg base 3 "_law_of" sp__law_of) (G__law_one_in : Known P w K mg base 3 "_law_one_in" sp__law_one_in) (G__law_draw : Known P w K mg base 2 "_law_draw" sp__law_draw) (G__law_words : Known P w K mg base 4 "_law_words" sp__law_words) (len : ∀ ds s Q, sp ds s Q → ds.length = 2)
    (rd : ∀ ds s Q, sp ds s Q → t__law_shape K sp__law_of sp__law_one_in sp__law_draw sp__law_words (endsOf Q) (startD N__law_shape ds) s) : Known P w K mg base (5) "_law_shape" sp := by
  obtain ⟨f, fd, F, gm⟩ := T.def_ 45 45 (d := d__law_shape) (by rfl) (by rfl) (by rfl)
  refine known_of (k := 4) F gm sc__law_shape (F.bindsN fun _ _ _ _ _ _ us hl => match us, hl with | [_, _], _ => rfl) (ps := ["jar", "asks"]) len (fun cdv A outer s H E hr => ⟨t__law_shape K sp__law_of sp__law_one_in sp__law_draw sp__law_words, ?_, rd⟩)
  unfold t__law_shape
  exact (dss_cons (ds_asg (de_call G__law_of (hr.mono (by first | decide | omega)) (by rfl) (da_cons (de_var (i := 0)) (da_cons (de_lst (da_cons de_int (da_cons de_int (da_cons de_int (da_cons de_int (da_cons de_int da_nil)))))) da_nil))) (dg_name 2 sc__law_shape.nd))
    (dss_cons (ds_setLc (i := 3) (own := [("at", 12)]) rfl sc__law_shape.nd rfl rfl (L2.sw_true rfl rfl rfl (by decide +kernel)) (di_range1 (by rfl) (T.free 58 (by rfl)) (da_cons (de_call G__law_of (hr.mono (by first | decide | omega)) (by rfl) (da_cons (de_var (i := 0)) (da_cons (de_lst (da_cons de_int (da_cons de_int (da_cons de_int (da_cons de_int (da_cons de_int (da_cons de_int da_nil))))))) da_nil))) da_nil)) (blkOk_by (N := N__law_shape) (sc := defScope s__law_shape) (by decide +kernel)) (fun _ _ _ _ _ => (dg_name 12 sc__law_shape.nd)) (fun _ _ _ _ _ => dts_nil) (fun _ _ _ _ _ => (de_add de_int (de_call G__law_draw (hr.mono (by first | decide | omega)) (by rfl) (da_cons (de_var (i := 0)) (da_cons de_int da_nil))))))
    (dss_cons (ds_asg (de_call G__law_of (hr.mono (by first | decide | omega)) (by rfl) (da_cons (de_var (i := 0)) (da_cons (de_lst (da_cons de_int (da_cons de_int (da_cons de_int (da_cons de_int (da_cons de_int (da_cons de_int (da_cons de_int da_nil)))))))) da_nil))) (dg_name 4 sc__law_shape.nd))
    (dss_cons (ds_asg (de_if (dt_truth (de_call G__law_one_in (hr.mono (by first | decide | omega)) (by rfl) (da_cons (de_var (i := 0)) (da_cons de_int da_nil)))) (de_var (i := 4)) (de_add de_int (de_call G__law_draw (hr.mono (by first | decide | omega)) (by rfl) (da_cons (de_var (i := 0)) (da_cons (de_var (i := 4)) da_nil))))) (dg_name 5 sc__law_shape.nd))
    (dss_cons (ds_asg (de_lst da_nil) (dg_name 6 sc__law_shape.nd))
    (dss_cons (ds_for PassesOwn.never rfl (di_range1 (by rfl) (T.free 58 (by rfl)) (da_cons (de_var (i := 4)) da_nil)) (dg_name 7 sc__law_shape.nd) (dss_cons (ds_asg (de_add de_int (de_call G__law_draw (hr.mono (by first | decide | omega)) (by rfl) (da_cons (de_var (i := 0)) (da_cons de_int da_nil)))) (dg_name 8 sc__law_shape.nd))
    (dss_cons (ds_asg (de_and (de_cmp cm_gt (de_len (by rfl) (T.free 56 (by rfl)) (da_cons (de_var (i := 3)) da_nil)) de_int) (de_one (de_or (de_cmp (cm_eq hr.units) (de_var (i := 7)) de_int) (de_one (de_cmp (cm_ltD hr.units) (de_var (i := 7)) (de_var (i := 5))))))) (dg_name 9 sc__law_shape.nd))
    (dss_cons (ds_asg (de_and (de_cmp cm_gt (de_var (i := 4)) de_int) (de_one (de_or (de_cmp (cm_ltD hr.units) (de_var (i := 7)) (de_var (i := 5))) (de_one (de_cmp (cm_ltD hr.units) (de_var (i := 5)) (de_var (i := 4))))))) (dg_name 10 sc__law_shape.nd))
    (dss_cons (ds_asg (de_cmp (cm_ltD hr.units) (de_var (i := 5)) (de_var (i := 4))) (dg_name 11 sc__law_shape.nd))
    (dss_one (ds_expr (de_append (de_var (i := 6)) (de_call G__law_words (hr.mono (by first | decide | omega)) (by rfl) (da_cons (de_var (i := 0)) (da_cons (de_var (i := 7)) (da_cons (de_var (i := 8)) (da_cons (de_var (i := 9)) (da_cons (de_var (i := 10)) (da_cons (de_var (i := 11)) (da_cons (de_var (i := 1)) da_nil))))))))))))))))
    (dss_one (ds_ret (de_lst (da_cons (de_var (i := 2)) (da_cons (de_var (i := 3)) (da_cons (de_var (i := 6)) (da_cons (de_var (i := 5)) da_nil)))))))))))))
theorem sc__law_callee : FnScope N__law_callee ["jar", "proc", "calm", "procs", "start"] (defScope s__law_callee) := ⟨rfl, rfl, rfl, by decide +kernel, rfl, by decide +kernel, by decide +kernel⟩
theorem der__law_callee {sp sp__law_draw : DSp} (T : Tp K mg) (G__law_draw : Known P w K mg base 2 "_law_draw" sp__law_draw) (len : ∀ ds s Q, sp ds s Q → ds.length = 5)
    (rd : ∀ ds s Q, sp ds s Q → t__law_callee K sp__law_draw (endsOf Q) (startD N__law_callee ds) s) : Known P w K mg base (3) "_law_callee" sp := by
  obtain ⟨f, fd, F, gm⟩ := T.def_ 46 46 (d := d__law_callee) (by rfl) (by rfl) (by rfl)
  refine known_of (k := 2) F gm sc__law_callee (F.bindsN fun _ _ _ _ _ _ us hl => match us, hl with | [_, _, _, _, _], _ => rfl) (ps := ["jar", "proc", "calm", "procs", "start"]) len (fun cdv A outer s H E hr => ⟨t__law_callee K sp__law_draw, ?_, rd⟩)
  unfold t__law_callee
  exact (dss_cons (ds_asg (de_if (dt_w (dw_or (dt_truth (de_var (i := 4))) (dw_or1 (dt_cmp cm_ge (de_var (i := 1)) (de_var (i := 2)))))) (de_var (i := 2)) de_int) (dg_name 5 sc__law_callee.nd))
    (dss_cons (ds_asg (de_max2 rfl (by rfl) (T.free 57 (by rfl)) (da_cons de_int (da_cons (de_var (i := 5)) da_nil))) (dg_name 5 sc__law_callee.nd))
    (dss_one (ds_ret (de_add (de_var (i := 5)) (de_call G__law_draw (hr.mono (by first | decide | omega)) (by rfl) (da_cons (de_var (i := 0)) (da_cons (de_sub (de_var (i := 3)) (de_var (i := 5))) da_nil))))))))
theorem sc__law_exits : FnScope N__law_exits ["deeds"] (defScope s__law_exits) := ⟨rfl, rfl, rfl, by decide +kernel, rfl, by decide +kernel, by decide +kernel⟩
theorem der__law_exits {sp : DSp} (T : Tp K mg)  (len : ∀ ds s Q, sp ds s Q → ds.length = 1)
    (rd : ∀ ds s Q, sp ds s Q → t__law_exits K  (endsOf Q) (startD N__law_exits ds) s) : Known P w K mg base (1) "_law_exits" sp := by
  obtain ⟨f, fd, F, gm⟩ := T.def_ 47 47 (d := d__law_exits) (by rfl) (by rfl) (by rfl)
  refine known_of (k := 0) F gm sc__law_exits (F.bindsN fun _ _ _ _ _ _ us hl => match us, hl with | [_], _ => rfl) (ps := ["deeds"]) len (fun cdv A outer s H E hr => ⟨t__law_exits K , ?_, rd⟩)
  unfold t__law_exits
  exact (dss_cons (ds_asg (de_lst da_nil) (dg_name 1 sc__law_exits.nd))
    (dss_cons (ds_for PassesOwn.never rfl (di_any (de_var (i := 0))) (dg_tup rfl (dgs_cons (dg_name 2 sc__law_exits.nd) (dgs_cons (dg_name 3 sc__law_exits.nd) dgs_nil))) (dss_one (ds_if (dt_w (dw_and (dt_cmp (cm_eq hr.units) (de_var (i := 2)) de_str) (dw_and1 (dt_cmp (cm_notin (u65 hr)) (de_var (i := 3)) (de_var (i := 1)))))) (dss_one (ds_expr (de_append (de_var (i := 1)) (de_var (i := 3))))) dss_nil)))
    (dss_one (ds_ret (de_sorted (u66 hr) (by rfl) (T.free 59 (by rfl)) (da_cons (de_var (i := 1)) da_nil))))))
theorem sc__law_deed : FnScope N__law_deed ["jar", "names", "plan", "proc", "at", "exits", "rows", "wide"] (defScope s__law_deed) := ⟨rfl, rfl, rfl, by decide +kernel, rfl, by decide +kernel, by decide +kernel⟩
theorem der__law_deed {sp sp__law_callee sp__law_draw sp__law_price sp__law_target : DSp} (T : Tp K mg) (G__law_callee : Known P w K mg base 3 "_law_callee" sp__law_callee) (G__law_draw : Known P w K mg base 2 "_law_draw" sp__law_draw) (G__law_price : Known P w K mg base 4 "_law_price" sp__law_price) (G__law_target : Known P w K mg base 4 "_law_target" sp__law_target) (len : ∀ ds s Q, sp ds s Q → ds.length = 8)
    (rd : ∀ ds s Q, sp ds s Q → t__law_deed K sp__law_callee sp__law_draw sp__law_price sp__law_target (endsOf Q) (startD N__law_deed ds) s) : Known P w K mg base (5) "_law_deed" sp := by
  obtain ⟨f, fd, F, gm⟩ := T.def_ 48 48 (d := d__law_deed) (by rfl) (by rfl) (by rfl)
  refine known_of (k := 4) F gm sc__law_deed (F.bindsN fun _ _ _ _ _ _ us hl => match us, hl with | [_, _, _, _, _, _, _, _], _ => rfl) (ps := ["jar", "names", "plan", "proc", "at", "exits", "rows", "wide"]) len (fun cdv A outer s H E hr => ⟨t__law_deed K sp__law_callee sp__law_draw sp__law_price sp__law_target, ?_, rd⟩)
  unfold t__law_deed
  exact (dss_cons (ds_asg (de_var (i := 2)) (dg_seq rfl (dgs_cons (dg_name 12 sc__law_deed.nd) (dgs_cons (dg_name 13 sc__law_deed.nd) (dgs_cons (dg_name 14 sc__law_deed.nd) (dgs_cons (dg_name 15 sc__law_deed.nd) dgs_nil))))))
    (dss_cons (ds_asg (de_ix (de_ix (de_ix (de_var (i := 14)) (de_var (i := 3))) (de_var (i := 4))) de_int) (dg_name 8 sc__law_deed.nd))
    (dss_cons (ds_asg (de_len (by rfl) (T.free 56 (by rfl)) (da_cons (de_var (i := 1)) da_nil)) (dg_name 9 sc__law_deed.nd))
    (dss_cons (ds_if (dt_cmp (cm_eq hr.units) (de_var (i := 8)) de_str) (dss_one (ds_ret (de_tup (da_cons de_str (da_cons (de_ix (de_ix (de_ix (de_var (i := 14)) (de_var (i := 3))) (de_var (i := 4))) de_int) da_nil))))) dss_nil)
    (dss_cons (ds_if (dt_cmp (cm_eq hr.units) (de_var (i := 8)) de_str) (dss_cons (ds_asg (de_tupOf (by rfl) (T.free 61 (by rfl)) (da_cons (de_lc (own := [("purse", 21)]) rfl sc__law_deed.nd (di_range1 (by rfl) (T.free 58 (by rfl)) (da_cons (de_var (i := 12)) da_nil)) (blkOk_by (N := N__law_deed) (sc := defScope s__law_deed) (by decide +kernel)) (fun _ _ _ _ _ => (dg_name 21 sc__law_deed.nd)) (fun _ _ _ _ _ => dts_nil) (fun _ _ _ _ _ => (de_call G__law_price (hr.mono (by first | decide | omega)) (by rfl) (da_cons (de_var (i := 0)) (da_cons (de_var (i := 7)) da_nil))))) da_nil)) (dg_name 16 sc__law_deed.nd))
    (dss_one (ds_ret (de_tup (da_cons de_str (da_cons (de_var (i := 16)) (da_cons (de_ix (de_var (i := 1)) (de_call G__law_target (hr.mono (by first | decide | omega)) (by rfl) (da_cons (de_var (i := 0)) (da_cons (de_var (i := 4)) (da_cons (de_var (i := 9)) da_nil))))) da_nil))))))) dss_nil)
    (dss_cons (ds_if (dt_cmp (cm_eq hr.units) (de_var (i := 8)) de_str) (dss_cons (ds_asg (de_call G__law_draw (hr.mono (by first | decide | omega)) (by rfl) (da_cons (de_var (i := 0)) (da_cons (de_len (by rfl) (T.free 56 (by rfl)) (da_cons (de_var (i := 13)) da_nil)) da_nil))) (dg_name 17 sc__law_deed.nd))
    (dss_cons (ds_setLc (i := 18) (own := [("kind", 20)]) rfl sc__law_deed.nd rfl rfl (L2.sw_true rfl rfl rfl (by decide +kernel)) (di_range1 (by rfl) (T.free 58 (by rfl)) (da_cons (de_add (de_ix (de_var (i := 13)) (de_var (i := 17))) de_int) da_nil)) (blkOk_by (N := N__law_deed) (sc := defScope s__law_deed) (by decide +kernel)) (fun _ _ _ _ _ => (dg_name 20 sc__law_deed.nd)) (fun _ _ _ _ _ => dts_nil) (fun _ _ _ _ _ => (de_ix (de_var (i := 1)) (de_call G__law_target (hr.mono (by first | decide | omega)) (by rfl) (da_cons (de_var (i := 0)) (da_cons (de_var (i := 4)) (da_cons (de_var (i := 9)) da_nil)))))))
    (dss_one (ds_ret (de_tup (da_cons de_str (da_cons (de_ix (de_ix (de_var (i := 6)) (de_var (i := 17))) de_int) (da_cons (de_tupOf (by rfl) (T.free 61 (by rfl)) (da_cons (de_var (i := 18)) da_nil)) da_nil)))))))) dss_nil)
    (dss_cons (ds_if (dt_w (dw_or (dt_cmp (cm_eq hr.units) (de_var (i := 8)) de_str) (dw_or1 (dt_cmp (cm_eq hr.units) (de_var (i := 8)) de_str)))) (dss_one (ds_ret (de_tup (da_cons (de_var (i := 8)) (da_cons (de_tupOf (by rfl) (T.free 61 (by rfl)) (da_cons (de_lc (own := [("one", 22)]) rfl sc__law_deed.nd (di_range1 (by rfl) (T.free 58 (by rfl)) (da_cons (de_add de_int (de_call G__law_draw (hr.mono (by first | decide | omega)) (by rfl) (da_cons (de_var (i := 0)) (da_cons de_int da_nil)))) da_nil)) (blkOk_by (N := N__law_deed) (sc := defScope s__law_deed) (by decide +kernel)) (fun _ _ _ _ _ => (dg_name 22 sc__law_deed.nd)) (fun _ _ _ _ _ => dts_nil) (fun _ _ _ _ _ => (de_ix (de_var (i := 1)) (de_call G__law_target (hr.mono (by first | decide | omega)) (by rfl) (da_cons (de_var (i := 0)) (da_cons (de_var (i := 4)) (da_cons (de_var (i := 9)) da_nil))))))) da_nil)) da_nil))))) dss_nil)
    (dss_cons (ds_asg (de_call G__law_callee (hr.mono (by first | decide | omega)) (by rfl) (da_cons (de_var (i := 0)) (da_cons (de_var (i := 3)) (da_cons (de_var (i := 15)) (da_cons (de_len (by rfl) (T.free 56 (by rfl)) (da_cons (de_var (i := 14)) da_nil)) (da_cons (de_cmp (cm_eq hr.units) (de_var (i := 8)) de_str) da_nil)))))) (dg_name 10 sc__law_deed.nd))
    (dss_cons (ds_if (dt_cmp (cm_eq hr.units) (de_var (i := 8)) de_str) (dss_one (ds_ret (de_tup (da_cons de_str (da_cons (de_ix (de_ix (de_var (i := 5)) (de_var (i := 10))) de_int) (da_cons (de_ix (de_var (i := 1)) (de_call G__law_target (hr.mono (by first | decide | omega)) (by rfl) (da_cons (de_var (i := 0)) (da_cons (de_var (i := 4)) (da_cons (de_var (i := 9)) da_nil))))) da_nil)))))) dss_nil)
    (dss_cons (ds_setLc (i := 11) (own := [("name", 19)]) rfl sc__law_deed.nd rfl rfl (L2.sw_true rfl rfl rfl (by decide +kernel)) (di_any (de_ix (de_ix (de_var (i := 5)) (de_var (i := 10))) de_int)) (blkOk_by (N := N__law_deed) (sc := defScope s__law_deed) (by decide +kernel)) (fun _ _ _ _ _ => (dg_name 19 sc__law_deed.nd)) (fun _ _ _ _ _ => dts_nil) (fun _ _ _ _ _ => (de_tup (da_cons (de_var (i := 19)) (da_cons (de_ix (de_var (i := 1)) (de_call G__law_target (hr.mono (by first | decide | omega)) (by rfl) (da_cons (de_var (i := 0)) (da_cons (de_var (i := 4)) (da_cons (de_var (i := 9)) da_nil))))) da_nil)))))
    (dss_one (ds_ret (de_tup (da_cons de_str (da_cons (de_ix (de_ix (de_var (i := 5)) (de_var (i := 10))) de_int) (da_cons (de_tupOf (by rfl) (T.free 61 (by rfl)) (da_cons (de_var (i := 11)) da_nil)) da_nil))))))))))))))))
theorem sc__law_program : FnScope N__law_program ["jar", "asks", "wide"] (defScope s__law_program) := ⟨rfl, rfl, rfl, by decide +kernel, rfl, by decide +kernel, by decide +kernel⟩
theorem der__law_program {sp sp__law_shape sp__law_names sp__law_stem sp__law_exits sp__law_deed sp__law_draw : DSp} (T : Tp K mg) (G__law_shape : Known P w K mg base 5 "_law_shape" sp__law_shape) (G__law_names : Known P w K mg base 6 "_law_names" sp__law_names) (G__law_stem : Known P w K mg base 4 "_law_stem" sp__law_stem) (G__law_exits : Known P w K mg base 1 "_law_exits" sp__law_exits) (G__law_deed : Known P w K mg base 5 "_law_deed" sp__law_deed) (G__law_draw : Known P w K mg base 2 "_law_draw" sp__law_draw) (len : ∀ ds s Q, sp ds s Q → ds.length = 3)
    (rd : ∀ ds s Q, sp ds s Q → t__law_program K sp__law_shape sp__law_names sp__law_stem sp__law_exits sp__law_deed sp__law_draw (endsOf Q) (startD N__law_program ds) s) : Known P w K mg base (7) "_law_program" sp := by
  obtain ⟨f, fd, F, gm⟩ := T.def_ 49 49 (d := d__law_program) (by rfl) (by rfl) (by rfl)
  refine known_of (k := 6) F gm sc__law_program (F.bindsN fun _ _ _ _ _ _ us hl => match us, hl with | [_, _, _], _ => rfl) (ps := ["jar", "asks", "wide"]) len (fun cdv A outer s H E hr => ⟨t__law_program K sp__law_shape sp__law_names sp__law_stem sp__law_exits sp__law_deed sp__law_draw, ?_, rd⟩)
  unfold t__law_program
  exact (dss_cons (ds_asg (de_call G__law_shape (hr.mono (by first | decide | omega)) (by rfl) (da_cons (de_var (i := 0)) (da_cons (de_var (i := 1)) da_nil))) (dg_seq rfl (dgs_cons (dg_name 13 sc__law_program.nd) (dgs_cons (dg_name 14 sc__law_program.nd) (dgs_cons (dg_name 15 sc__law_program.nd) (dgs_cons (dg_name 16 sc__law_program.nd) dgs_nil))))))
    (dss_cons (ds_asg (de_call G__law_names (hr.mono (by first | decide | omega)) (by rfl) (da_cons (de_var (i := 0)) (da_cons de_int da_nil))) (dg_name 3 sc__law_program.nd))
    (dss_cons (ds_asg (de_lst da_nil) (dg_name 4 sc__law_program.nd))
    (dss_cons (ds_for PassesOwn.never rfl (di_any (de_var (i := 15))) (dg_name 5 sc__law_program.nd) (dss_cons (ds_asg (de_lst da_nil) (dg_name 17 sc__law_program.nd))
    (dss_cons (ds_for PassesOwn.never rfl (di_any (de_var (i := 5))) (dg_name 18 sc__law_program.nd) (dss_one (ds_expr (de_append (de_var (i := 17)) (de_tup (da_cons (de_var (i := 18)) (da_cons (de_ix (de_var (i := 3)) (de_call G__law_draw (hr.mono (by first | decide | omega)) (by rfl) (da_cons (de_var (i := 0)) (da_cons de_int da_nil)))) da_nil)))))))
    (dss_one (ds_expr (de_append (de_var (i := 4)) (de_var (i := 17))))))))
    (dss_cons (ds_asg (de_lst (da_cons (de_var (i := 13)) (da_cons (de_var (i := 14)) (da_cons (de_var (i := 4)) (da_cons (de_var (i := 16)) da_nil))))) (dg_name 6 sc__law_program.nd))
    (dss_cons (ds_asg (de_lst da_nil) (dg_name 7 sc__law_program.nd))
    (dss_cons (ds_asg (de_call G__law_names (hr.mono (by first | decide | omega)) (by rfl) (da_cons (de_var (i := 0)) (da_cons (de_len (by rfl) (T.free 56 (by rfl)) (da_cons (de_var (i := 14)) da_nil)) da_nil))) (dg_name 8 sc__law_program.nd))
    (dss_cons (ds_for PassesOwn.never rfl (di_zip (by rfl) (T.free 62 (by rfl)) (da_cons (de_var (i := 8)) (da_cons (de_var (i := 14)) da_nil))) (dg_tup rfl (dgs_cons (dg_name 19 sc__law_program.nd) (dgs_cons (dg_name 20 sc__law_program.nd) dgs_nil))) (dss_one (ds_expr (de_append (de_var (i := 7)) (de_tup (da_cons (de_var (i := 19)) (da_cons (de_tupOf (by rfl) (T.free 61 (by rfl)) (da_cons (de_call G__law_names (hr.mono (by first | decide | omega)) (by rfl) (da_cons (de_var (i := 0)) (da_cons (de_var (i := 20)) da_nil))) da_nil)) da_nil)))))))
    (dss_cons (ds_asg (de_call G__law_names (hr.mono (by first | decide | omega)) (by rfl) (da_cons (de_var (i := 0)) (da_cons (de_len (by rfl) (T.free 56 (by rfl)) (da_cons (de_var (i := 15)) da_nil)) da_nil))) (dg_name 9 sc__law_program.nd))
    (dss_cons (ds_setLc (i := 10) (own := [("name", 19), ("row", 5)]) rfl sc__law_program.nd rfl rfl (L2.sw_true rfl rfl rfl (by decide +kernel)) (di_zip (by rfl) (T.free 62 (by rfl)) (da_cons (de_var (i := 9)) (da_cons (de_var (i := 4)) da_nil))) (blkOk_by (N := N__law_program) (sc := defScope s__law_program) (by decide +kernel)) (fun _ _ _ _ _ => (dg_tup rfl (dgs_cons (dg_name 19 sc__law_program.nd) (dgs_cons (dg_name 5 sc__law_program.nd) dgs_nil)))) (fun _ _ _ _ _ => dts_nil) (fun _ _ _ _ _ => (de_tup (da_cons (de_var (i := 19)) (da_cons (de_call G__law_exits (hr.mono (by first | decide | omega)) (by rfl) (da_cons (de_var (i := 5)) da_nil)) da_nil)))))
    (dss_cons (ds_asg (de_lst da_nil) (dg_name 11 sc__law_program.nd))
    (dss_cons (ds_for PassesOwn.never rfl (di_range1 (by rfl) (T.free 58 (by rfl)) (da_cons (de_len (by rfl) (T.free 56 (by rfl)) (da_cons (de_var (i := 15)) da_nil)) da_nil)) (dg_name 12 sc__law_program.nd) (dss_cons (ds_asg (de_call G__law_names (hr.mono (by first | decide | omega)) (by rfl) (da_cons (de_var (i := 0)) (da_cons (de_len (by rfl) (T.free 56 (by rfl)) (da_cons (de_ix (de_var (i := 15)) (de_var (i := 12))) da_nil)) da_nil))) (dg_name 21 sc__law_program.nd))
    (dss_cons (ds_asg (de_lst da_nil) (dg_name 22 sc__law_program.nd))
    (dss_cons (ds_for PassesOwn.never rfl (di_range1 (by rfl) (T.free 58 (by rfl)) (da_cons (de_len (by rfl) (T.free 56 (by rfl)) (da_cons (de_var (i := 21)) da_nil)) da_nil)) (dg_name 23 sc__law_program.nd) (dss_one (ds_expr (de_append (de_var (i := 22)) (de_tup (da_cons (de_ix (de_var (i := 21)) (de_var (i := 23))) (da_cons (de_call G__law_deed (hr.mono (by first | decide | omega)) (by rfl) (da_cons (de_var (i := 0)) (da_cons (de_var (i := 21)) (da_cons (de_var (i := 6)) (da_cons (de_var (i := 12)) (da_cons (de_var (i := 23)) (da_cons (de_var (i := 10)) (da_cons (de_var (i := 7)) (da_cons (de_var (i := 2)) da_nil))))))))) da_nil)))))))
    (dss_one (ds_expr (de_append (de_var (i := 11)) (de_tup (da_cons (de_ix (de_var (i := 9)) (de_var (i := 12))) (da_cons (de_tupOf (by rfl) (T.free 61 (by rfl)) (da_cons (de_var (i := 22)) da_nil)) da_nil))))))))))
    (dss_one (ds_ret (de_tup (da_cons de_str (da_cons (de_call G__law_stem (hr.mono (by first | decide | omega)) (by rfl) (da_cons (de_var (i := 0)) da_nil)) (da_cons (de_tupOf (by rfl) (T.free 61 (by rfl)) (da_cons (de_call G__law_names (hr.mono (by first | decide | omega)) (by rfl) (da_cons (de_var (i := 0)) (da_cons (de_var (i := 13)) da_nil))) da_nil)) (da_cons (de_tupOf (by rfl) (T.free 61 (by rfl)) (da_cons (de_var (i := 7)) da_nil)) (da_cons (de_tupOf (by rfl) (T.free 61 (by rfl)) (da_cons (de_var (i := 11)) da_nil)) da_nil))))))))))))))))))))
theorem sc_law : FnScope N_law ["script"] (defScope s_law) := ⟨rfl, rfl, rfl, by decide +kernel, rfl, by decide +kernel, by decide +kernel⟩
theorem der_law {f : Addr} {fd : FuncData} {sp sp__law_jar sp__law_names sp__law_formed sp__law_of sp__law_one_in sp__law_great sp__law_program sp__law_stem sp__law_bent sp_is_credits sp_is_block sp__law_is_paper sp__law_is_block : DSp} (T : Tp K mg) (G__law_jar : Known P w K mg base 1 "_law_jar" sp__law_jar) (G__law_names : Known P w K mg base 6 "_law_names" sp__law_names) (G__law_formed : Known P w K mg base 6 "_law_formed" sp__law_formed) (G__law_of : Known P w K mg base 3 "_law_of" sp__law_of) (G__law_one_in : Known P w K mg base 3 "_law_one_in" sp__law_one_in) (G__law_great : Known P w K mg base 7 "_law_great" sp__law_great) (G__law_program : Known P w K mg base 7 "_law_program" sp__law_program) (G__law_stem : Known P w K mg base 4 "_law_stem" sp__law_stem) (G__law_bent : Known P w K mg base 17 "_law_bent" sp__law_bent) (G_is_credits : Known P w K mg base 7 "is_credits" sp_is_credits) (G_is_block : Known P w K mg base 6 "is_block" sp_is_block) (G__law_is_paper : Known P w K mg base 5 "_law_is_paper" sp__law_is_paper) (G__law_is_block : Known P w K mg base 4 "_law_is_block" sp__law_is_block) (len : ∀ ds s Q, sp ds s Q → ds.length = 1)
    (rd : ∀ ds s Q, sp ds s Q → t_law K sp__law_jar sp__law_names sp__law_formed sp__law_of sp__law_one_in sp__law_great sp__law_program sp__law_stem sp__law_bent sp_is_credits sp_is_block sp__law_is_paper sp__law_is_block (endsOf Q) (startD N_law ds) s) (F : FunD K d_law.name d_law.qual d_law.params d_law.body d_law.scope (d_law.dvs K) (d_law.kws K) f fd) : FnOk P w K mg base CX0 18 f fd ["script"] (upSp sp) := by
  refine fnOk_of (k := 17) F sc_law (ps := ["script"]) len (fun cdv A outer s H E hr => ⟨t_law K sp__law_jar sp__law_names sp__law_formed sp__law_of sp__law_one_in sp__law_great sp__law_program sp__law_stem sp__law_bent sp_is_credits sp_is_block sp__law_is_paper sp__law_is_block, ?_, rd⟩)
  unfold t_law
  exact (dss_cons (ds_asg (de_call G__law_jar (hr.mono (by first | decide | omega)) (by rfl) (da_cons (de_var (i := 0)) (da_cons de_int da_nil))) (dg_name 1 sc_law.nd))
    (dss_cons (ds_asg (de_if (dt_truth (de_call G__law_one_in (hr.mono (by first | decide | omega)) (by rfl) (da_cons (de_var (i := 1)) (da_cons de_int da_nil)))) (de_call G__law_great (hr.mono (by first | decide | omega)) (by rfl) (da_cons (de_var (i := 1)) da_nil)) (de_call G__law_program (hr.mono (by first | decide | omega)) (by rfl) (da_cons (de_var (i := 1)) (da_cons de_bl (da_cons de_bl da_nil))))) (dg_name 2 sc_law.nd))
    (dss_cons (ds_asg (de_call G__law_names (hr.mono (by first | decide | omega)) (by rfl) (da_cons (de_var (i := 1)) (da_cons (de_call G__law_of (hr.mono (by first | decide | omega)) (by rfl) (da_cons (de_var (i := 1)) (da_cons (de_lst (da_cons de_int (da_cons de_int (da_cons de_int (da_cons de_int (da_cons de_int da_nil)))))) da_nil))) da_nil))) (dg_name 3 sc_law.nd))
    (dss_cons (ds_asg (de_tup (da_cons de_str (da_cons (de_call G__law_stem (hr.mono (by first | decide | omega)) (by rfl) (da_cons (de_var (i := 1)) da_nil)) (da_cons (de_tupOf (by rfl) (T.free 61 (by rfl)) (da_cons (de_lc (own := [("purse", 13)]) rfl sc_law.nd (di_any (de_ix (de_var (i := 2)) de_int)) (blkOk_by (N := N_law) (sc := defScope s_law) (by decide +kernel)) (fun _ _ _ _ _ => (dg_name 13 sc_law.nd)) (fun _ _ _ _ _ => dts_nil) (fun _ _ _ _ _ => de_int)) da_nil)) (da_cons (de_tupOf (by rfl) (T.free 61 (by rfl)) (da_cons (de_lc (own := [("name", 14)]) rfl sc_law.nd (di_any (de_var (i := 3))) (blkOk_by (N := N_law) (sc := defScope s_law) (by decide +kernel)) (fun _ _ _ _ _ => (dg_name 14 sc_law.nd)) (fun _ _ _ _ _ => dts_nil) (fun _ _ _ _ _ => (de_tup (da_cons (de_var (i := 14)) (da_cons (de_tup da_nil) da_nil))))) da_nil)) da_nil))))) (dg_name 4 sc_law.nd))
    (dss_cons (ds_asg (de_call G__law_formed (hr.mono (by first | decide | omega)) (by rfl) (da_cons (de_var (i := 1)) (da_cons (de_var (i := 2)) (da_cons (de_var (i := 4)) da_nil)))) (dg_name 5 sc_law.nd))
    (dss_cons (ds_asg (de_call G__law_of (hr.mono (by first | decide | omega)) (by rfl) (da_cons (de_var (i := 1)) (da_cons (de_lst (da_cons de_non (da_cons de_bl (da_cons de_int (da_cons de_str (da_cons (de_tup da_nil) (da_cons (de_tup (da_cons de_str da_nil)) (da_cons (de_tup (da_cons de_str (da_cons de_non da_nil))) (da_cons (de_tup (da_cons de_str (da_cons de_str (da_cons (de_tup da_nil) da_nil)))) (da_cons (de_tup (da_cons (de_tup da_nil) (da_cons (de_tup da_nil) da_nil))) da_nil)))))))))) da_nil))) (dg_name 6 sc_law.nd))
    (dss_cons (ds_asg (de_lst (da_cons (de_var (i := 5)) (da_cons (de_tup (da_cons de_str (da_cons (de_slice (de_ix (de_var (i := 5)) de_int) do_none (do_some de_int)) da_nil))) (da_cons (de_tup (da_cons de_str (da_cons (de_add (de_ix (de_var (i := 5)) de_int) (de_slice (de_ix (de_var (i := 5)) de_int) (do_some (de_neg de_int)) do_none)) da_nil))) (da_cons (de_var (i := 6)) da_nil))))) (dg_name 7 sc_law.nd))
    (dss_cons (ds_for PassesOwn.never rfl (di_any (de_add (de_var (i := 7)) (de_call G__law_bent (hr.mono (by first | decide | omega)) (by rfl) (da_cons (de_var (i := 1)) (da_cons (de_var (i := 5)) (da_cons de_int da_nil)))))) (dg_name 8 sc_law.nd) (dss_cons (ds_asg (de_call G_is_credits (hr.mono (by first | decide | omega)) (by rfl) (da_cons (de_var (i := 2)) (da_cons (de_var (i := 4)) (da_cons (de_var (i := 8)) da_nil)))) (dg_name 10 sc_law.nd))
    (dss_one (ds_if (dt_w (dw_or (dt_not (dt_truth (de_isi .bool (by rfl) (T.free 55 (by rfl)) (by rfl) (T.free 53 (by rfl)) (de_var (i := 10))))) (dw_or1 (dt_cmp (cm_ne hr.units) (de_var (i := 10)) (de_call G__law_is_paper (hr.mono (by first | decide | omega)) (by rfl) (da_cons (de_var (i := 2)) (da_cons (de_var (i := 4)) (da_cons (de_var (i := 8)) da_nil)))))))) (dss_one (ds_ret de_bl)) dss_nil))))
    (dss_cons (ds_for PassesOwn.never rfl (di_any (de_ix (de_var (i := 5)) de_int)) (dg_name 9 sc_law.nd) (dss_cons (ds_asg (de_tup (da_cons (de_tup (da_cons (de_tup (da_cons de_str (da_cons (de_ix (de_ix (de_var (i := 9)) de_int) de_int) (da_cons (de_len (by rfl) (T.free 56 (by rfl)) (da_cons (de_ix (de_var (i := 4)) de_int) da_nil)) da_nil)))) (da_cons de_int da_nil))) da_nil)) (dg_name 11 sc_law.nd))
    (dss_cons (ds_asg (de_lst (da_cons (de_var (i := 9)) (da_cons (de_slice (de_var (i := 9)) do_none (do_some de_int)) (da_cons (de_add (de_var (i := 9)) (de_tup (da_cons de_int da_nil))) (da_cons (de_add (de_slice (de_var (i := 9)) do_none (do_some de_int)) (de_tup (da_cons (de_add (de_slice (de_ix (de_var (i := 9)) de_int) do_none (do_some de_int)) (de_ix (de_var (i := 9)) de_int)) da_nil))) (da_cons (de_add (de_slice (de_var (i := 9)) do_none (do_some de_int)) (de_tup (da_cons (de_var (i := 11)) (da_cons (de_ix (de_var (i := 9)) de_int) da_nil)))) da_nil)))))) (dg_name 12 sc_law.nd))
    (dss_one (ds_for PassesOwn.never rfl (di_any (de_add (de_var (i := 12)) (de_call G__law_bent (hr.mono (by first | decide | omega)) (by rfl) (da_cons (de_var (i := 1)) (da_cons (de_var (i := 9)) (da_cons de_int da_nil)))))) (dg_name 8 sc_law.nd) (dss_cons (ds_asg (de_call G_is_block (hr.mono (by first | decide | omega)) (by rfl) (da_cons (de_var (i := 2)) (da_cons (de_var (i := 4)) (da_cons (de_var (i := 8)) da_nil)))) (dg_name 10 sc_law.nd))
    (dss_one (ds_if (dt_w (dw_or (dt_not (dt_truth (de_isi .bool (by rfl) (T.free 55 (by rfl)) (by rfl) (T.free 53 (by rfl)) (de_var (i := 10))))) (dw_or1 (dt_cmp (cm_ne hr.units) (de_var (i := 10)) (de_call G__law_is_block (hr.mono (by first | decide | omega)) (by rfl) (da_cons (de_var (i := 2)) (da_cons (de_var (i := 4)) (da_cons (de_var (i := 8)) da_nil)))))))) (dss_one (ds_ret de_bl)) dss_nil))))))))
    (dss_one (ds_ret (de_and (de_cmp cm_is (de_call G_is_credits (hr.mono (by first | decide | omega)) (by rfl) (da_cons (de_var (i := 2)) (da_cons (de_var (i := 4)) (da_cons (de_var (i := 5)) da_nil)))) de_bl) (de_one (de_cmp cm_is (de_call G_is_credits (hr.mono (by first | decide | omega)) (by rfl) (da_cons (de_var (i := 2)) (da_cons (de_var (i := 4)) (da_cons (de_tup (da_cons de_str (da_cons (de_tup da_nil) da_nil))) da_nil)))) de_bl))))))))))))))
end Toy

set_option maxHeartbeats 4000000
namespace Toy
open PySem PySem.Spec L2 DL
local macro_rules | `(tactic| walk_at "len") => `(tactic| (intro ds s Q h; (repeat (obtain ⟨_, h⟩ := h)); subst_vars; rfl))
theorem law_ok {P : Program} {w : World} {K : PySem.W.Frag} {mg : Str → Option Value} {base : Heap} {f : Addr} {fd : FuncData} (T : Tp K mg) (F : FunD K d_law.name d_law.qual d_law.params d_law.body d_law.scope (d_law.dvs K) (d_law.kws K) f fd) :
    FnOk P w K mg base CX0 18 f fd ["script"] (upSp (sp_law K)) := by
  have g_is_number : Known P w K mg base _ _ _ := der_is_number T  (by walk_at "len") (rd_is_number K)
  have g_is_name : Known P w K mg base _ _ _ := der_is_name T  (by walk_at "len") (rd_is_name K)
  have g_is_tuple : Known P w K mg base _ _ _ := der_is_tuple T  (by walk_at "len") (rd_is_tuple K)
  have g_are_numbers : Known P w K mg base _ _ _ := der_are_numbers T g_is_tuple g_is_number (by walk_at "len") (rd_are_numbers K)
  have g_is_ascending : Known P w K mg base _ _ _ := der_is_ascending T  (by walk_at "len") (rd_is_ascending K)
  have g_is_ended : Known P w K mg base _ _ _ := der_is_ended T g_are_numbers (by walk_at "len") (rd_is_ended K)
  have g_is_frame : Known P w K mg base _ _ _ := der_is_frame T g_is_ended g_is_number g_is_tuple (by walk_at "len") (rd_is_frame K)
  have g_is_point : Known P w K mg base _ _ _ := der_is_point T g_is_ended g_is_number g_is_tuple (by walk_at "len") (rd_is_point K)
  have g_is_exit : Known P w K mg base _ _ _ := der_is_exit T g_is_ended g_is_number g_is_tuple g_is_name (by walk_at "len") (rd_is_exit K)
  have g_is_amount : Known P w K mg base _ _ _ := der_is_amount T  (by walk_at "len") (rd_is_amount K)
  have g_are_pairs : Known P w K mg base _ _ _ := der_are_pairs T g_is_tuple (by walk_at "len") (rd_are_pairs K)
  have g_are_lefts : Known P w K mg base _ _ _ := der_are_lefts T g_is_ascending g_are_pairs g_is_exit g_is_amount (by walk_at "len") (rd_are_lefts K)
  have g_are_helds : Known P w K mg base _ _ _ := der_are_helds T g_is_ascending g_are_pairs g_is_point g_is_amount (by walk_at "len") (rd_are_helds K)
  have g_is_block : Known P w K mg base _ _ _ := der_is_block T g_are_lefts g_are_helds g_is_tuple g_is_frame g_is_amount (by walk_at "len") (rd_is_block K)
  have g_is_credits : Known P w K mg base _ _ _ := der_is_credits T g_is_ascending g_is_tuple g_is_block (by walk_at "len") (rd_is_credits K)
  have g__law_whole : Known P w K mg base _ _ _ := der__law_whole T  (by walk_at "len") (rd__law_whole K)
  have g__law_is_word : Known P w K mg base _ _ _ := der__law_is_word T  (by walk_at "len") (rd__law_is_word K)
  have g__law_is_ended : Known P w K mg base _ _ _ := der__law_is_ended T g__law_whole (by walk_at "len") (rd__law_is_ended K)
  have g__law_is_spot : Known P w K mg base _ _ _ := der__law_is_spot T g__law_is_ended g__law_whole (by walk_at "len") (rd__law_is_spot K)
  have g__law_is_gate : Known P w K mg base _ _ _ := der__law_is_gate T g__law_is_ended g__law_whole g__law_is_word (by walk_at "len") (rd__law_is_gate K)
  have g__law_is_pairs : Known P w K mg base _ _ _ := der__law_is_pairs T g__law_whole (by walk_at "len") (rd__law_is_pairs K)
  have g__law_climbs : Known P w K mg base _ _ _ := der__law_climbs T  (by walk_at "len") (rd__law_climbs K)
  have g__law_is_block : Known P w K mg base _ _ _ := der__law_is_block T g__law_climbs g__law_is_spot g__law_whole g__law_is_pairs g__law_is_gate (by walk_at "len") (rd__law_is_block K)
  have g__law_is_paper : Known P w K mg base _ _ _ := der__law_is_paper T g__law_climbs g__law_is_block (by walk_at "len") (rd__law_is_paper K)
  have g__law_mixed : Known P w K mg base _ _ _ := der__law_mixed T  (by walk_at "len") (rd_mixed K)
  have g__law_draw : Known P w K mg base _ _ _ := der__law_draw T g__law_mixed (by walk_at "len") (rd_draw K)
  have g__law_one_in : Known P w K mg base _ _ _ := der__law_one_in T g__law_draw len_one_in (rd_one_in K)
  have g__law_stem : Known P w K mg base _ _ _ := der__law_stem T g__law_draw g__law_one_in len_stem (rd_stem K)
  have g__law_of : Known P w K mg base _ _ _ := der__law_of T g__law_draw (by walk_at "len") (rd_of K)
  have g__law_name : Known P w K mg base _ _ _ := der__law_name T g__law_stem g__law_one_in g__law_of len_name (rd_name K)
  have g__law_names : Known P w K mg base _ _ _ := der__law_names T g__law_name len_names (rd_names K)
  have g__law_great : Known P w K mg base _ _ _ := der__law_great T g__law_names g__law_stem g__law_of len_great (rd_great K)
  have g__law_spot : Known P w K mg base _ _ _ := der__law_spot T g__law_one_in g__law_draw len_spot (rd_spot K)
  have g__law_much : Known P w K mg base _ _ _ := der__law_much T g__law_of len_much (rd_much K)
  have g__law_priced : Known P w K mg base _ _ _ := der__law_priced T g__law_much len_priced (rd_priced K)
  have g__law_formed : Known P w K mg base _ _ _ := der__law_formed T g__law_priced g__law_spot g__law_draw g__law_stem len_formed (rd_formed K)
  have g__law_odd : Known P w K mg base _ _ _ := der__law_odd T g__law_of g__law_draw len_odd (rd_odd K)
  have g__law_paths : Known P w K mg base _ _ _ := der__law_paths T  (by walk_at "len") (rd_paths K)
  have g__law_part : Known P w K mg base _ _ _ := der__law_part T  (by walk_at "len") (rd_part K)
  have p_put : ∀ N, Known P w K mg base (N + 1) "_law_put" (sp_put N) := fun N => by
    induction N with
    | zero => exact der__law_put T (Nat.le_refl 0) (no__law_put T) (by walk_at "len") (rd_put0 K _)
    | succ N ih => exact der__law_put T (Nat.zero_le _) ih (by walk_at "len") (rd_put K N)
  have g__law_put : Known P w K mg base 16 "_law_put" (sp_put 10) := (p_put 10).mono (by decide)
  have g__law_bent : Known P w K mg base _ _ _ := der__law_bent T g__law_paths g__law_of g__law_put g__law_odd g__law_part len_bent (rd_bent K)
  have g__law_jar : Known P w K mg base _ _ _ := der__law_jar T  (by walk_at "len") (rd_jar K)
  have g__law_target : Known P w K mg base _ _ _ := der__law_target T g__law_draw g__law_one_in len_target (rd_target K)
  have g__law_price : Known P w K mg base _ _ _ := der__law_price T g__law_draw g__law_of len_price (rd_price K)
  have g__law_words : Known P w K mg base _ _ _ := der__law_words T g__law_one_in g__law_of len_words (rd_words K)
  have g__law_shape : Known P w K mg base _ _ _ := der__law_shape T g__law_of g__law_one_in g__law_draw g__law_words len_shape (rd_shape K)
  have g__law_callee : Known P w K mg base _ _ _ := der__law_callee T g__law_draw len_callee (rd_callee K)
  have g__law_exits : Known P w K mg base _ _ _ := der__law_exits T  (by walk_at "len") (rd_exits K)
  have g__law_deed : Known P w K mg base _ _ _ := der__law_deed T g__law_callee g__law_draw g__law_price g__law_target len_deed (rd_deed K)
  have g__law_program : Known P w K mg base _ _ _ := der__law_program T g__law_shape g__law_names g__law_stem g__law_exits g__law_deed g__law_draw len_program (rd_program K)
  exact der_law T g__law_jar g__law_names g__law_formed g__law_of g__law_one_in g__law_great g__law_program g__law_stem g__law_bent g_is_credits g_is_block g__law_is_paper g__law_is_block (by walk_at "len") (rd_law K) F
end Toy

set_option maxHeartbeats 4000000
namespace Toy
open PySem PySem.Spec L2 DL
/-! ### the head -/
abbrev R : PySem.W.OpenRow := PySem.W.OpenLaw.row PySem.Challenge.rw_paidnomore_k26_papers_in_form
abbrev hk : PySem.W.Hook := He.hookD 2 fa fn
def ob (s : PySem.W.SharedT) : He.AlD := He.obsDG 2 fa fn (HandSHeadRun.getT s)
theorem ob_eq (s : PySem.W.SharedT) : ob s = hk.obs s.abs := He.obsDG_eq (HandSHeadRun.getT_eq s)
theorem run (w : World) : HandSHeadRun.RunEq R (PySem.W.view R.prog [56]) hk ob 4000 names w := by
  intro os
  kernel_rfl
theorem facts {P : Program} {w : World} {K : PySem.W.Frag} {h : Heap} {mg : Str → Option Value} {f : Addr} (X : K.In h) (G : h.Ns mainGlobals mg) (hfa : mg ("law" : Str) = some (.ref f)) (c : He.SaysD fa fn K) :
    ∃ fd : FuncData, (∀ (s : Shared) (v : Value), BindsTo s fd ⟨[v], []⟩ [("script", v)]) ∧ ∀ base : Heap, K.In base → base.Ns mainGlobals mg → FnOk P w K mg base CX0 18 f fd ["script"] (upSp (sp_law K)) := by
  have T : Tp K mg := ⟨h, X, G, c⟩
  obtain ⟨f', fd, F, gm⟩ := T.def_ 50 50 (d := d_law) (by rfl) (by rfl) (by rfl)
  have e := hfa.symm.trans gm
  cases e
  have b := FunD.bindsA (ps := ["script"]) F fun _ _ _ _ _ _ us hl => match us, hl with | [_], _ => rfl
  exact ⟨fd, fun s v => b s [v] rfl, fun base _ _ => law_ok T F⟩
end Toy
open PySem PySem.W PySem.Calls PyProof.Rows
set_option maxHeartbeats 0 in
theorem PySem.Challenge.cw_paidnomore_k26_papers_in_form_holds : PySem.Challenge.rw_paidnomore_k26_papers_in_form.Holds := by
  w_on; o_law
  refine HandSHeadRun.head_any (r := OpenLaw.row PySem.Challenge.rw_paidnomore_k26_papers_in_form) (q := view (OpenLaw.row PySem.Challenge.rw_paidnomore_k26_papers_in_form).prog [56]) (H := Toy.hk) (ob := Toy.ob) (M := 4000) (loose := Toy.names) (d := HandSHeadRun.topDef (OpenLaw.row PySem.Challenge.rw_paidnomore_k26_papers_in_form).prog 56) (kwd := []) Toy.ob_eq
    (by kernel_rfl) (fun s => by kernel_rfl) Toy.run (by kernel_rfl) (by kernel_rfl) (by kernel_rfl) (by rfl) (by first | assumption | decide +kernel) (by decide +kernel) ⟨rfl, rfl, rfl, rfl, rfl, by decide +kernel⟩ ?hw ?hc
  case hw => w_witness2
  case hc =>
    refine L2.walk_ofE (l := PySem.Challenge.rw_paidnomore_k26_papers_in_form) (n := 63) (k := 18) (x := "script") (CX := L2.CX0) rfl (by decide) (by kernel_rfl) ⟨rfl, by decide, by decide⟩ ?F (fun _ _ _ _ z => z)
    intro w mg fa h Y G hmg0
    obtain ⟨K, KX, c⟩ := Y
    have hmg : mg ("law" : PySem.Str) = some (.ref fa) := by
      have e : (HandSHeadRun.topDef (OpenLaw.row PySem.Challenge.rw_paidnomore_k26_papers_in_form).prog 56).name = ("law" : PySem.Str) := by kernel_rfl
      rw [← e]
      exact hmg0
    obtain ⟨fd, hb, hF⟩ := Toy.facts (P := (PySem.Challenge.rw_paidnomore_k26_papers_in_form).prog) (w := w) KX G hmg c
    exact ⟨K, fd, DL.upSp (Toy.sp_law K), KX, hb, fun H a ns hl hO hS => DL.entry hO hS fun s hs => ⟨a, ns, rfl, hs, hl, fun _ => rfl⟩, hF⟩
#print axioms PySem.Challenge.cw_paidnomore_k26_papers_in_form_holds
