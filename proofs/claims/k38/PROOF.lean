import PyProof.Rows.All
import Wide.All
import OpenK.AllK
import Wide.FinOn
import KE.KStateDown
import HandS.ForMost
import HandS.ForExc
import HandS.Defaults
import HandS.Wide
import HandS.Walk
import HandS.Zip
import HandS.Rev
import HandS.TupAny
import HandS.TupMul
import HandS.IsInst
import HandS.Deep
import HandS.DeepEq
import HandS.NoneIn
import HandS.Flow
import HandS.Style
import HandS.TupLe
import HandS.Head0
import HandS.Head1
import HandS.Head2
import HandS.HeadEnd
import HandS.HeadHook1
import HandS.HeadHook2
import PySem.Challenge.RW_paidnomore_k38_fractions
set_option Elab.async false
set_option linter.all false
set_option maxRecDepth 100000
set_option maxHeartbeats 4000000
/-! DL: a layer of plain data over the hand layer: values are trees, what can change is a small store. -/
namespace DL
open PySem PySem.Spec L2

/-- plain data -/
inductive D where
  | non | bl (b : Bool) | int (i : Int) | str (x : Str) | tup (ds : List D) | ref (a : Addr)

mutual
inductive Dat (H : Hp) : V → D → Prop
  | non : Dat H .non .non
  | bl (b : Bool) : Dat H (.bl b) (.bl b)
  | int (i : Int) : Dat H (.int i) (.int i)
  | str (x : Str) : Dat H (.str x) (.str x)
  | ref (a : Addr) : Dat H (.ref a) (.ref a)
  | tup {p : Addr} {vs : List V} {ds : List D} (h : H p = some (.tup vs)) (r : Dats H vs ds) : Dat H (.ref p) (.tup ds)
inductive Dats (H : Hp) : List V → List D → Prop
  | nil : Dats H [] []
  | cons {v : V} {d : D} {vs : List V} {ds : List D} (h : Dat H v d) (r : Dats H vs ds) : Dats H (v :: vs) (d :: ds)
end

/-- what is never changed -/
def Fix : HO → Prop
  | .tup _ => True
  | .frz _ (.lst _) => True
  | .frz _ (.tup _) => True
  | _ => False
def Kp (H H' : Hp) : Prop := ∀ p o, Fix o → H p = some o → H' p = some o
theorem Kp.refl (H : Hp) : Kp H H := fun _ _ _ h => h
theorem Kp.trans {H H1 H2 : Hp} (a : Kp H H1) (b : Kp H1 H2) : Kp H H2 := fun p o f h => b p o f (a p o f h)
theorem Kp.alloc {H : Hp} {p : Addr} {o : HO} (h : H p = none) : Kp H (upd H p o) := fun q u _ e => by
  rw [upd_ne (ne_of_none e h)]; exact e
theorem Kp.write {H : Hp} {p : Addr} {o u : HO} (h : H p = some u) (f : ¬ Fix u) : Kp H (upd H p o) := fun q w g e => by
  have : q ≠ p := fun z => by subst z; rw [h] at e; cases e; exact f g
  rw [upd_ne this]; exact e

mutual
theorem Dat.mono {H H' : Hp} (k : Kp H H') : ∀ {v : V} {d : D}, Dat H v d → Dat H' v d
  | _, _, .non => .non
  | _, _, .bl b => .bl b
  | _, _, .int i => .int i
  | _, _, .str x => .str x
  | _, _, .ref a => .ref a
  | _, _, .tup h r => .tup (k _ _ trivial h) (Dats.mono k r)
theorem Dats.mono {H H' : Hp} (k : Kp H H') : ∀ {vs : List V} {ds : List D}, Dats H vs ds → Dats H' vs ds
  | _, _, .nil => .nil
  | _, _, .cons h r => .cons (Dat.mono k h) (Dats.mono k r)
end
section
variable {H H' : Hp} {v : V} {d : D} {vs ws : List V} {ds es : List D}
theorem Dats.length : ∀ {vs : List V} {ds : List D}, Dats H vs ds → vs.length = ds.length
  | _, _, .nil => rfl
  | _, _, .cons _ r => congrArg Nat.succ (Dats.length r)
theorem Dats.get : ∀ {vs : List V} {ds : List D} {i : Nat} {d : D}, Dats H vs ds → ds[i]? = some d → ∃ v, vs[i]? = some v ∧ Dat H v d
  | _, _, _, _, .nil, e => by simp at e
  | _, _, 0, _, .cons h _, e => by simp at e; subst e; exact ⟨_, rfl, h⟩
  | _, _, i + 1, d, .cons _ r, e => by
    obtain ⟨v, h1, h2⟩ := Dats.get (i := i) (d := d) r (by simpa using e)
    exact ⟨v, by simpa using h1, h2⟩
theorem Dats.getV : ∀ {vs : List V} {ds : List D} {i : Nat} {v : V}, Dats H vs ds → vs[i]? = some v → ∃ d, ds[i]? = some d ∧ Dat H v d
  | _, _, _, _, .nil, e => by simp at e
  | _, _, 0, _, .cons h _, e => by simp at e; subst e; exact ⟨_, rfl, h⟩
  | _, _, i + 1, v, .cons _ r, e => by
    obtain ⟨d, h1, h2⟩ := Dats.getV (i := i) (v := v) r (by simpa using e)
    exact ⟨d, by simpa using h1, h2⟩
theorem Dats.append : ∀ {vs ws : List V} {ds es : List D}, Dats H vs ds → Dats H ws es → Dats H (vs ++ ws) (ds ++ es)
  | _, _, _, _, .nil, s => s
  | _, _, _, _, .cons h r, s => .cons h (Dats.append r s)
theorem Dats.set {v : V} {d : D} (h : Dat H v d) : ∀ {vs : List V} {ds : List D} (i : Nat), Dats H vs ds → Dats H (vs.set i v) (ds.set i d)
  | _, _, _, .nil => .nil
  | _, _, 0, .cons _ r => .cons h r
  | _, _, i + 1, .cons g r => .cons g (Dats.set h i r)
theorem Dats.take : ∀ {vs : List V} {ds : List D} (n : Nat), Dats H vs ds → Dats H (vs.take n) (ds.take n)
  | _, _, 0, _ => .nil
  | _, _, _ + 1, .nil => .nil
  | _, _, n + 1, .cons h r => .cons h (Dats.take n r)
theorem Dats.drop : ∀ {vs : List V} {ds : List D} (n : Nat), Dats H vs ds → Dats H (vs.drop n) (ds.drop n)
  | _, _, 0, r => r
  | _, _, _ + 1, .nil => .nil
  | _, _, n + 1, .cons _ r => Dats.drop n r
theorem Dats.rep (n : Nat) (r : Dats H vs ds) : Dats H (List.replicate n vs).flatten (List.replicate n ds).flatten := by
  induction n with
  | zero => exact .nil
  | succ n ih => rw [List.replicate_succ, List.replicate_succ, List.flatten_cons, List.flatten_cons]; exact r.append ih
theorem Dats.ints {ns : List Int} (r : Dats H vs (ns.map D.int)) : vs = ns.map V.int := by
  induction ns generalizing vs with
  | nil => cases r; rfl
  | cons n ns ih => cases r with | cons h r => cases h; rw [ih r]; rfl
theorem Dats.bls {ns : List Bool} (r : Dats H vs (ns.map D.bl)) : vs = ns.map V.bl := by
  induction ns generalizing vs with
  | nil => cases r; rfl
  | cons n ns ih => cases r with | cons h r => cases h; rw [ih r]; rfl
theorem Dats.strs_ {ns : List Str} (r : Dats H vs (ns.map D.str)) : vs = ns.map V.str := by
  induction ns generalizing vs with
  | nil => cases r; rfl
  | cons n ns ih => cases r with | cons h r => cases h; rw [ih r]; rfl
theorem Dats.of_ints (ns : List Int) : Dats H (ns.map V.int) (ns.map D.int) := by
  induction ns with
  | nil => exact .nil
  | cons n ns ih => exact .cons (.int n) ih
end

/-- what stands at an address of the store: a list, a list that is only read, a dict with keys that are ints and texts -/
inductive C where
  | lst (ds : List D) | ro (ds : List D) | dic (kvs : List (Key × D))
abbrev S := Addr → Option C
def S.set (s : S) (a : Addr) (c : C) : S := fun b => if b = a then some c else s b
def S.del (s : S) (a : Addr) : S := fun b => if b = a then none else s b
theorem S.set_same {s : S} {a : Addr} {c : C} : s.set a c a = some c := if_pos rfl
theorem S.set_ne {s : S} {a b : Addr} {c : C} (h : b ≠ a) : s.set a c b = s b := if_neg h
theorem S.set_set {s : S} {a : Addr} {c c' : C} : (s.set a c).set a c' = s.set a c' := by
  funext b; unfold S.set; split <;> rfl
theorem S.del_set {s : S} {a : Addr} {c : C} (h : s a = none) : (s.set a c).del a = s := by
  funext b; unfold S.del
  by_cases e : b = a
  · rw [if_pos e, e, h]
  · rw [if_neg e]; exact S.set_ne e
def Sub (s s' : S) : Prop := ∀ a c, s a = some c → s' a = some c
theorem Sub.refl (s : S) : Sub s s := fun _ _ h => h
theorem Sub.set {s : S} {a : Addr} {c : C} (h : s a = none) : Sub s (s.set a c) := fun b c' e => by
  have : b ≠ a := fun z => by rw [z, h] at e; cases e
  rw [S.set_ne this]; exact e
theorem Sub.trans {s s1 s2 : S} (a : Sub s s1) (b : Sub s1 s2) : Sub s s2 := fun c o h => b c o (a c o h)

abbrev KD (H : Hp) : List (Key × V) → List (Key × D) → Prop := Paired fun p q => p.1 = q.1 ∧ Dat H p.2 q.2
section
variable (K : PySem.W.Frag)
/-- a list of the written part -/
def KRo (a : Addr) (ds : List D) : Prop := ∀ H : Hp, ∃ vs, SqL K H a vs ∧ Dats H vs ds
end
def CellAt (H : Hp) (a : Addr) : C → Prop
  | .lst ds => ∃ vs, H a = some (.lst vs) ∧ Dats H vs ds
  | .ro ds => ∃ vs o, H a = some (.frz o (.lst vs)) ∧ Dats H vs ds
  | .dic kvs => ∃ ws, H a = some (.dK ws) ∧ KD H ws kvs
def HS (H : Hp) (s : S) : Prop := ∀ a c, s a = some c → CellAt H a c
section
variable {K : PySem.W.Frag} {H H' : Hp} {s : S} {a b p : Addr} {c : C} {o : HO}
theorem KD.mono (k : Kp H H') {ws : List (Key × V)} {kvs : List (Key × D)} (r : KD H ws kvs) : KD H' ws kvs :=
  Paired.mapP r fun _ _ z => ⟨z.1, z.2.mono k⟩
theorem CellAt.move (h : CellAt H b c) (k : Kp H H') (e : H' b = H b) : CellAt H' b c := by
  cases c with
  | lst ds => obtain ⟨vs, h1, h2⟩ := h; exact ⟨vs, e.trans h1, h2.mono k⟩
  | ro ds => obtain ⟨vs, o, h1, h2⟩ := h; exact ⟨vs, o, e.trans h1, h2.mono k⟩
  | dic kvs => obtain ⟨ws, h1, h2⟩ := h; exact ⟨ws, e.trans h1, KD.mono k h2⟩
theorem CellAt.alloc (h : CellAt H b c) (n : H p = none) : CellAt (upd H p o) b c := by
  have k : Kp H (upd H p o) := Kp.alloc n
  cases c with
  | lst ds => obtain ⟨vs, h1, h2⟩ := h; exact ⟨vs, by rw [upd_ne (ne_of_none h1 n)]; exact h1, h2.mono k⟩
  | ro ds => obtain ⟨vs, o, h1, h2⟩ := h; exact ⟨vs, o, by rw [upd_ne (ne_of_none h1 n)]; exact h1, h2.mono k⟩
  | dic kvs => obtain ⟨ws, h1, h2⟩ := h; exact ⟨ws, by rw [upd_ne (ne_of_none h1 n)]; exact h1, KD.mono k h2⟩
theorem HS.alloc (h : HS H s) (n : H p = none) : HS (upd H p o) s := fun a c e => (h a c e).alloc n
theorem HS.none (h : HS H s) (n : H p = none) : s p = none := by
  cases e : s p with
  | none => rfl
  | some c =>
    have := h p c e
    cases c with
    | lst ds => obtain ⟨vs, h1, _⟩ := this; rw [n] at h1; cases h1
    | ro ds => obtain ⟨vs, _, h1, _⟩ := this; rw [n] at h1; cases h1
    | dic kvs => obtain ⟨vs, h1, _⟩ := this; rw [n] at h1; cases h1
/-- the object at a is written -/
theorem HS.write (h : HS H s) (k : Kp H H') (ne : ∀ b, b ≠ a → H' b = H b) (new : CellAt H' a c) : HS H' (s.set a c) := fun b c' e => by
  by_cases hb : b = a
  · subst hb; rw [S.set_same] at e; cases e; exact new
  · rw [S.set_ne hb] at e; exact (h b c' e).move k (ne b hb)
/-- a new object is laid and kept in the store -/
theorem HS.laid (h : HS H s) (n : H p = Option.none) (new : CellAt (upd H p o) p c) : HS (upd H p o) (s.set p c) := fun b c' e => by
  by_cases hb : b = p
  · subst hb; rw [S.set_same] at e; cases e; exact new
  · rw [S.set_ne hb] at e; exact (h b c' e).alloc n
theorem HS.laidL {vs : List V} {ds : List D} (h : HS H s) (n : H p = Option.none) (r : Dats H vs ds) : HS (upd H p (.lst vs)) (s.set p (.lst ds)) := h.laid n (show CellAt _ _ (.lst ds) from ⟨vs, upd_same, r.mono (Kp.alloc n)⟩)
theorem HS.sub {s' : S} (h : HS H s) (u : Sub s' s) : HS H s' := fun a c e => h a c (u a c e)
end

/-! ### readings over data -/
abbrev DS := List (Option D)
abbrev QD := D → S → Prop
abbrev TD := DS → S → QD → Prop
abbrev TDT := DS → S → (Bool → S → Prop) → Prop
abbrev TDA := DS → S → (List D → S → Prop) → Prop
structure EndsD where
  nx : DS → S → Prop
  rt : QD
  bk : DS → S → Prop := fun _ _ => False
  ct : DS → S → Prop := fun _ _ => False
abbrev TDS := EndsD → DS → S → Prop

structure EnvD (H : Hp) (σV : St) (σ : DS) : Prop where
  len : σV.length = σ.length
  get : ∀ (i : Nat) (d : D), σ[i]? = some (some d) → ∃ v, σV[i]? = some (some v) ∧ Dat H v d
theorem EnvD.mono {H H' : Hp} {σV : St} {σ : DS} (h : EnvD H σV σ) (k : Kp H H') : EnvD H' σV σ :=
  ⟨h.len, fun i d e => let ⟨v, h1, h2⟩ := h.get i d e; ⟨v, h1, h2.mono k⟩⟩
theorem EnvD.set {H : Hp} {σV : St} {σ : DS} (h : EnvD H σV σ) {v : V} {d : D} (i : Nat) (r : Dat H v d) : EnvD H (σV.set i (some v)) (σ.set i (some d)) := by
  refine ⟨by rw [List.length_set, List.length_set]; exact h.len, fun j e q => ?_⟩
  by_cases hj : i = j
  · subst hj
    by_cases hi : i < σ.length
    · rw [List.getElem?_set_self hi] at q
      cases q
      exact ⟨v, by rw [List.getElem?_set_self (by rw [h.len]; exact hi)], r⟩
    · rw [List.getElem?_eq_none (by rw [List.length_set]; omega)] at q; cases q
  · rw [List.getElem?_set_ne hj] at q ⊢
    exact h.get j e q
theorem EnvD.forget {H : Hp} {σV : St} {σ : DS} (h : EnvD H σV σ) (i : Nat) : EnvD H (σV.set i none) (σ.set i none) := by
  refine ⟨by rw [List.length_set, List.length_set]; exact h.len, fun j e q => ?_⟩
  by_cases hj : i = j
  · subst hj
    by_cases hi : i < σ.length
    · rw [List.getElem?_set_self hi] at q; cases q
    · rw [List.getElem?_eq_none (by rw [List.length_set]; omega)] at q; cases q
  · rw [List.getElem?_set_ne hj] at q ⊢
    exact h.get j e q

def upE (t : TD) : TE := fun σV H Q => ∃ (σ : DS) (s : S) (Q' : QD), EnvD H σV σ ∧ HS H s ∧ t σ s Q' ∧ ∀ v d H' s', Kp H H' → Dat H' v d → HS H' s' → Q' d s' → Q v H'
def upT (t : TDT) : TT := fun σV H Q => ∃ (σ : DS) (s : S) (Q' : Bool → S → Prop), EnvD H σV σ ∧ HS H s ∧ t σ s Q' ∧ ∀ b H' s', Kp H H' → HS H' s' → Q' b s' → Q b H'
def upA (t : TDA) : TA := fun σV H Q => ∃ (σ : DS) (s : S) (Q' : List D → S → Prop), EnvD H σV σ ∧ HS H s ∧ t σ s Q' ∧ ∀ vs ds H' s', Kp H H' → Dats H' vs ds → HS H' s' → Q' ds s' → Q vs H'
structure RelEnds (D : Ends) (D' : EndsD) (H : Hp) : Prop where
  nx : ∀ σV σ H' s, Kp H H' → EnvD H' σV σ → HS H' s → D'.nx σ s → D.nx σV H'
  rt : ∀ v d H' s, Kp H H' → Dat H' v d → HS H' s → D'.rt d s → D.rt v H'
  bk : ∀ σV σ H' s, Kp H H' → EnvD H' σV σ → HS H' s → D'.bk σ s → D.bk σV H'
  ct : ∀ σV σ H' s, Kp H H' → EnvD H' σV σ → HS H' s → D'.ct σ s → D.ct σV H'
theorem RelEnds.mono {D : Ends} {D' : EndsD} {H H1 : Hp} (r : RelEnds D D' H) (k : Kp H H1) : RelEnds D D' H1 :=
  ⟨fun a b c d k' => r.nx a b c d (k.trans k'), fun a b c d k' => r.rt a b c d (k.trans k'), fun a b c d k' => r.bk a b c d (k.trans k'), fun a b c d k' => r.ct a b c d (k.trans k')⟩
def upS (t : TDS) : TS := fun D σV H => ∃ (σ : DS) (s : S) (D' : EndsD), EnvD H σV σ ∧ HS H s ∧ t D' σ s ∧ RelEnds D D' H
theorem PE.weaken {X : Cx} {e : Expr} {t t' : TE} (h : PE X e t) (w : ∀ σ H Q, t' σ H Q → t σ H Q) : PE X e t' := ⟨fun pins s σ H Q I q => h.run pins s σ H Q I (w _ _ _ q)⟩
theorem PT.weaken {X : Cx} {e : Expr} {t t' : TT} (h : PT X e t) (w : ∀ σ H Q, t' σ H Q → t σ H Q) : PT X e t' := ⟨fun pins s σ H Q I q => h.run pins s σ H Q I (w _ _ _ q)⟩
theorem PW.weaken {X : Cx} {e : Expr} {t t' : TT} (h : PW X e t) (w : ∀ σ H Q, t' σ H Q → t σ H Q) : PW X e t' := ⟨fun wh pins s σ H Q I q => h.run wh pins s σ H Q I (w _ _ _ q)⟩
theorem PA.weaken {X : Cx} {e : List Expr} {t t' : TA} (h : PA X e t) (w : ∀ σ H Q, t' σ H Q → t σ H Q) : PA X e t' := ⟨fun pos pins s σ H Q I q => h.run pos pins s σ H Q I (w _ _ _ q)⟩
theorem PS.weaken {X : Cx} {e : Stmt} {t t' : TS} (h : PS X e t) (w : ∀ σ H Q, t' σ H Q → t σ H Q) : PS X e t' := ⟨fun pins s σ H Q I q => h.run pins s σ H Q I (w _ _ _ q)⟩
theorem PSs.weaken {X : Cx} {e : List Stmt} {t t' : TS} (h : PSs X e t) (w : ∀ σ H Q, t' σ H Q → t σ H Q) : PSs X e t' := ⟨fun pins s σ H Q I q => h.run pins s σ H Q I (w _ _ _ q)⟩
abbrev DE (X : Cx) (e : Expr) (t : TD) : Prop := PE X e (upE t)
abbrev DT (X : Cx) (e : Expr) (t : TDT) : Prop := PT X e (upT t)
abbrev DW (X : Cx) (e : Expr) (t : TDT) : Prop := PW X e (upT t)
abbrev DA (X : Cx) (es : List Expr) (t : TDA) : Prop := PA X es (upA t)
abbrev DSt (X : Cx) (st : Stmt) (t : TDS) : Prop := PS X st (upS t)
abbrev DSs (X : Cx) (st : List Stmt) (t : TDS) : Prop := PSs X st (upS t)
end DL

set_option maxHeartbeats 4000000
namespace DL
open PySem PySem.Spec L2
variable {X : Cx} {a b c e : Expr} {es : List Expr} {ta tb tc te : TD} {pos : Pos}

/-! ### names and constants -/
def dVar (i : Nat) : TD := fun σ s Q => ∃ d, σ[i]? = some (some d) ∧ Q d s
def dC (d : D) : TD := fun _ s Q => Q d s
theorem de_var {i : Nat} {x : Str} (hN : X.N[i]? = some x := by rfl) (hv : Vis X.env.scope x := by first | exact Or.inl rfl | exact Or.inr (Or.inl rfl) | exact Or.inr (Or.inr rfl)) (hd : (x == ("__debug__" : Str)) = false := by decide)
    (hcd : (x == ("__classdict__" : Str)) = false := by decide) : DE X (.Name x pos) (dVar i) :=
  PE.weaken (pe_var hN hv hd hcd) fun σV H Q h => by
    obtain ⟨σ, s, Q', E, hs, ⟨d, e, q⟩, k⟩ := h
    obtain ⟨v, ev, r⟩ := E.get i d e
    exact ⟨v, ev, k v d H s (Kp.refl H) r hs q⟩
theorem de_const {v : V} {d : D} (h : PE X e (tC v)) (r : ∀ H, Dat H v d) : DE X e (dC d) :=
  PE.weaken h fun σV H Q h => by
    obtain ⟨σ, s, Q', E, hs, q, k⟩ := h
    exact k v d H s (Kp.refl H) (r H) hs q
theorem de_int {i j} : DE X (.Constant (.int i) j pos) (dC (.int i)) := de_const pe_int fun _ => .int _
theorem de_bl {i j} : DE X (.Constant (.bool i) j pos) (dC (.bl i)) := de_const pe_bl fun _ => .bl _
theorem de_non {j} : DE X (.Constant .none j pos) (dC .non) := de_const pe_non fun _ => .non
theorem de_str {x j} : DE X (.Constant (.str x) j pos) (dC (.str x)) := de_const pe_str fun _ => .str _
theorem de_gint {x : Str} {i : Int} (hg : Gl X x) (hm : ∃ t, X.mg x = some (.int i t)) (hd : (x == ("__debug__" : Str)) = false := by decide) : DE X (.Name x pos) (dC (.int i)) :=
  let ⟨t, e⟩ := hm; de_const (pe_glob (v := .int i) hg e ⟨t, rfl⟩ hd) fun _ => .int _
theorem de_gstr {x : Str} {i : Str} (hg : Gl X x) (hm : ∃ t, X.mg x = some (.str i t)) (hd : (x == ("__debug__" : Str)) = false := by decide) : DE X (.Name x pos) (dC (.str i)) :=
  let ⟨t, e⟩ := hm; de_const (pe_glob (v := .str i) hg e ⟨t, rfl⟩ hd) fun _ => .str _

/-! ### operators by values -/
abbrev RD2 := D → D → S → QD → Prop
def Lift2 (r : R2) (ρ : RD2) : Prop := ∀ v w d f H s Q Q', Dat H v d → Dat H w f → HS H s → ρ d f s Q' → (∀ v d H' s', Kp H H' → Dat H' v d → HS H' s' → Q' d s' → Q v H') → r v w H Q
def dOp (ρ : RD2) (ta tb : TD) : TD := fun σ s Q => ta σ s fun x s1 => tb σ s1 fun y s2 => ρ x y s2 Q
theorem lift_op {r : R2} {ρ : RD2} (l : Lift2 r ρ) : ∀ σV H Q, upE (dOp ρ ta tb) σV H Q → tOp r (upE ta) (upE tb) σV H Q := fun σV H Q h => by
  obtain ⟨σ, s, Q', E, hs, q, k⟩ := h
  refine ⟨σ, s, _, E, hs, q, fun v d H1 s1 k1 r1 hs1 q1 => ?_⟩
  refine ⟨σ, s1, _, E.mono k1, hs1, q1, fun w f H2 s2 k2 r2 hs2 q2 => ?_⟩
  exact l v w d f H2 s2 Q Q' (r1.mono k2) r2 hs2 q2 fun z g H3 s3 k3 => k z g H3 s3 ((k1.trans k2).trans k3)
theorem de_op {op : Operator} {r : R2} {ρ : RD2} (ho : OpR X (binaryOp op) r) (l : Lift2 r ρ) (ha : DE X a ta) (hb : DE X b tb) : DE X (.BinOp a op b pos) (dOp ρ ta tb) :=
  PE.weaken (pe_op ho ha hb) (lift_op l)
theorem lift_or {r r' : R2} {ρ ρ' : RD2} (l : Lift2 r ρ) (l' : Lift2 r' ρ') : Lift2 (fun x y H Q => r x y H Q ∨ r' x y H Q) (fun x y s Q => ρ x y s Q ∨ ρ' x y s Q) := fun v w d f H s Q Q' r1 r2 hs q k => by
  rcases q with q | q
  · exact .inl (l v w d f H s Q Q' r1 r2 hs q k)
  · exact .inr (l' v w d f H s Q Q' r1 r2 hs q k)

/-- + -/
def rAdd : RD2
  | .int i, .int j, s, Q => Q (.int (i + j)) s
  | .str x, .str y, s, Q => x.length + y.length ≤ sizeLine ∧ Q (.str (x ++ y)) s
  | .tup xs, .tup ys, s, Q => xs.length + ys.length ≤ sizeLine ∧ Q (.tup (xs ++ ys)) s
  | .ref l, .ref m, s, Q => ∃ xs ys, s l = some (.lst xs) ∧ s m = some (.lst ys) ∧ xs.length + ys.length ≤ sizeLine ∧ ∀ p, s p = none → Q (.ref p) (s.set p (.lst (xs ++ ys)))
  | _, _, _, _ => False
theorem datI {H : Hp} {v : V} {i : Int} (h : Dat H v (.int i)) : v = .int i := by cases h; rfl
theorem datB {H : Hp} {v : V} {i : Bool} (h : Dat H v (.bl i)) : v = .bl i := by cases h; rfl
theorem datS {H : Hp} {v : V} {i : Str} (h : Dat H v (.str i)) : v = .str i := by cases h; rfl
theorem datN {H : Hp} {v : V} (h : Dat H v .non) : v = .non := by cases h; rfl
theorem datR {H : Hp} {v : V} {p : Addr} (h : Dat H v (.ref p)) : v = .ref p := by cases h; rfl
theorem datT {H : Hp} {v : V} {ds : List D} (h : Dat H v (.tup ds)) : ∃ p vs, v = .ref p ∧ H p = some (.tup vs) ∧ Dats H vs ds := by cases h with | tup h r => exact ⟨_, _, rfl, h, r⟩
theorem of_nil {H : Hp} {vs : List V} (r : Dats H vs []) : vs = [] := by cases r; rfl
theorem ne_nil {H : Hp} {vs : List V} {d : D} {ds : List D} (r : Dats H vs (d :: ds)) : vs ≠ [] := by cases r; simp
theorem lift_add (K : PySem.W.Frag) : Lift2 (fun x y H Q => ((rI0 fun i j => .int (i + j)) x y H Q ∨ (∃ i j, x = .str i ∧ y = .str j ∧ i.length + j.length ≤ sizeLine ∧ Q (.str (i ++ j)) H)) ∨ (rCatA K x y H Q ∨ rCat x y H Q)) rAdd := fun v w d f H s Q Q' r1 r2 hs q k => by
  cases d with
  | int i => cases f with
    | int j => cases datI r1; cases datI r2; exact .inl (.inl ⟨i, j, rfl, rfl, k _ _ _ _ (Kp.refl H) (.int _) hs q⟩)
    | _ => exact q.elim
  | str i => cases f with
    | str j => cases datS r1; cases datS r2; exact .inl (.inr ⟨i, j, rfl, rfl, q.1, k _ _ _ _ (Kp.refl H) (.str _) hs q.2⟩)
    | _ => exact q.elim
  | tup xs => cases f with
    | tup ys =>
      obtain ⟨p1, v1, rfl, e1, t1⟩ := datT r1
      obtain ⟨p2, v2, rfl, e2, t2⟩ := datT r2
      refine .inr (.inl ⟨p1, p2, v1, v2, rfl, rfl, SqT.of e1, SqT.of e2, by rw [t1.length, t2.length]; exact q.1, fun z => ?_, fun _ z => ?_, fun _ _ p hp => ?_⟩)
      · subst z; cases t1
        exact k _ _ _ _ (Kp.refl H) (by simpa using r2) hs (by simpa using q.2)
      · subst z; cases t2
        exact k _ _ _ _ (Kp.refl H) (by simpa using r1) hs (by simpa using q.2)
      · have kp : Kp H (upd H p (.tup (v1 ++ v2))) := Kp.alloc hp
        exact k _ _ _ _ kp (.tup upd_same ((t1.append t2).mono kp)) (hs.alloc hp) q.2
    | _ => exact q.elim
  | ref l => cases f with
    | ref m =>
      cases datR r1; cases datR r2
      obtain ⟨xs, ys, h1, h2, hl, q⟩ := q
      obtain ⟨v1, e1, t1⟩ := hs _ _ h1
      obtain ⟨v2, e2, t2⟩ := hs _ _ h2
      refine .inr (.inr ⟨l, m, v1, v2, rfl, rfl, e1, e2, by rw [t1.length, t2.length]; exact hl, fun p hp => ?_⟩)
      have kp : Kp H (upd H p (.lst (v1 ++ v2))) := Kp.alloc hp
      exact k _ _ _ _ kp (.ref p) (hs.laidL hp (t1.append t2)) (q p (hs.none hp))
    | _ => exact q.elim
  | _ => exact q.elim
theorem de_add (ha : DE X a ta) (hb : DE X b tb) : DE X (.BinOp a .Add b pos) (dOp rAdd ta tb) :=
  de_op (OpR.or (OpR.or op_add op_add_str) (OpR.or op_catA op_cat)) (lift_add X.K) ha hb

/-- two ints -/
def rII (C : Int → Int → Prop) (g : Int → Int → D) : RD2
  | .int i, .int j, s, Q => C i j ∧ Q (g i j) s
  | _, _, _, _ => False
theorem lift_ii {C : Int → Int → Prop} {g : Int → Int → V} {g' : Int → Int → D} (hg : ∀ i j H, Dat H (g i j) (g' i j)) : Lift2 (rI C g) (rII C g') := fun v w d f H s Q Q' r1 r2 hs q k => by
  cases d with
  | int i => cases f with
    | int j => cases datI r1; cases datI r2; exact ⟨i, j, rfl, rfl, q.1, k _ _ _ _ (Kp.refl H) (hg i j H) hs q.2⟩
    | _ => exact q.elim
  | _ => exact q.elim
def rII0 (g : Int → Int → D) : RD2
  | .int i, .int j, s, Q => Q (g i j) s
  | _, _, _, _ => False
theorem lift_ii0 {g : Int → Int → V} {g' : Int → Int → D} (hg : ∀ i j H, Dat H (g i j) (g' i j)) : Lift2 (rI0 g) (rII0 g') := fun v w d f H s Q Q' r1 r2 hs q k => by
  cases d with
  | int i => cases f with
    | int j => cases datI r1; cases datI r2; exact ⟨i, j, rfl, rfl, k _ _ _ _ (Kp.refl H) (hg i j H) hs q⟩
    | _ => exact q.elim
  | _ => exact q.elim
def rSub : RD2 := rII0 fun i j => .int (i - j)
theorem de_sub (ha : DE X a ta) (hb : DE X b tb) : DE X (.BinOp a .Sub b pos) (dOp rSub ta tb) := de_op op_sub (lift_ii0 fun _ _ _ => .int _) ha hb
/-- one of them small, or together below a hundred million bits -/
def CMulD (i j : Int) : Prop := (i.natAbs < 2 ^ 64 ∨ j.natAbs < 2 ^ 64) ∨ i.natAbs.log2 + j.natAbs.log2 < 100000000
theorem CMulD.ok {i j : Int} (h : CMulD i j) : IntMulOk i j := by
  rcases h with h | h
  · refine CMul.ok ?_
    rcases h with h | h
    · exact .inl (by omega)
    · exact .inr (by omega)
  have b : ∀ x : Int, Builtin.Int.intBits x ≤ x.natAbs.log2 + 1 := fun x => by
    unfold Builtin.Int.intBits
    split <;> omega
  have h1 := b i
  have h2 := b j
  have e : bitsLine = 134217728 := by decide
  unfold IntMulOk
  intro z
  rw [Bool.and_eq_true] at z
  have z2 := z.2
  unfold Builtin.Int.intTooBig at z2
  have z3 := of_decide_eq_true z2
  rw [e] at z3
  omega
theorem op_mulD : OpR X (binaryOp .Mult) (rI CMulD fun i j => .int (i * j)) := opI fun _ _ _ _ _ _ _ hc q => PyProof.Rows.mul_int q hc.ok
def rMul : RD2
  | .int i, .int j, s, Q => CMulD i j ∧ Q (.int (i * j)) s
  | .ref l, .int k, s, Q => ∃ xs, s l = some (.lst xs) ∧ -(2 ^ 63) ≤ k ∧ k < 2 ^ 63 ∧ xs.length * k.toNat ≤ sizeLine ∧ ∀ p, s p = none → Q (.ref p) (s.set p (.lst (List.replicate k.toNat xs).flatten))
  | .tup xs, .int k, s, Q => xs ≠ [] ∧ 2 ≤ k ∧ k ≤ 1000 ∧ xs.length ≤ 1000 ∧ Q (.tup (List.replicate k.toNat xs).flatten) s
  | _, _, _, _ => False
theorem lift_mul (K : PySem.W.Frag) : Lift2 (fun x y H Q => rI CMulD (fun i j => .int (i * j)) x y H Q ∨ (rRep x y H Q ∨ rRepT K x y H Q)) rMul := fun v w d f H s Q Q' r1 r2 hs q k => by
  cases d with
  | int i => cases f with
    | int j => cases datI r1; cases datI r2; exact .inl ⟨i, j, rfl, rfl, q.1, k _ _ _ _ (Kp.refl H) (.int _) hs q.2⟩
    | _ => exact q.elim
  | ref l => cases f with
    | int j =>
      cases datR r1; cases datI r2
      obtain ⟨xs, h1, hlo, hhi, hl, q⟩ := q
      obtain ⟨v1, e1, t1⟩ := hs _ _ h1
      refine .inr (.inl ⟨l, j, v1, rfl, rfl, e1, hlo, hhi, by rw [t1.length]; exact hl, fun p hp => ?_⟩)
      have kp : Kp H (upd H p (.lst (List.replicate j.toNat v1).flatten)) := Kp.alloc hp
      exact k _ _ _ _ kp (.ref p) (hs.laidL hp (t1.rep _)) (q p (hs.none hp))
    | _ => exact q.elim
  | tup xs => cases f with
    | int j =>
      cases datI r2
      obtain ⟨p1, v1, rfl, e1, t1⟩ := datT r1
      obtain ⟨h0, h2, h3, h4, q⟩ := q
      refine .inr (.inr ⟨p1, j, v1, rfl, rfl, SqT.of e1, fun z => h0 (by subst z; cases t1; rfl), h2, h3, by rw [t1.length]; exact h4, fun p hp => ?_⟩)
      have kp : Kp H (upd H p (.tup (List.replicate j.toNat v1).flatten)) := Kp.alloc hp
      exact k _ _ _ _ kp (.tup upd_same ((t1.rep _).mono kp)) (hs.alloc hp) q
    | _ => exact q.elim
  | _ => exact q.elim
theorem de_mul (ha : DE X a ta) (hb : DE X b tb) : DE X (.BinOp a .Mult b pos) (dOp rMul ta tb) := de_op (OpR.or op_mulD (OpR.or op_rep op_repT)) (lift_mul X.K) ha hb
def CDivD (_ j : Int) : Prop := j ≠ 0 ∧ j.natAbs.log2 < 9000
theorem op_fdivD : OpR X (binaryOp .FloorDiv) (rI CDivD fun i j => .int (i.fdiv j)) := opI fun _ _ _ _ _ _ _ hc q => PyProof.Rows.floordiv_int hc.1 q (.inl (PyProof.noPylong_of_log2 hc.2))
def rFdiv : RD2 := rII CDivD fun i j => .int (i.fdiv j)
theorem de_fdiv (ha : DE X a ta) (hb : DE X b tb) : DE X (.BinOp a .FloorDiv b pos) (dOp rFdiv ta tb) := de_op op_fdivD (lift_ii fun _ _ _ => .int _) ha hb
def rMod : RD2 := rII (fun _ j => j ≠ 0) fun i j => .int (i.fmod j)
theorem de_mod (ha : DE X a ta) (hb : DE X b tb) : DE X (.BinOp a .Mod b pos) (dOp rMod ta tb) := de_op op_modN (lift_ii fun _ _ _ => .int _) ha hb
def rPow : RD2 := rII CPow fun i j => .int (i ^ j.toNat)
theorem de_pow (ha : DE X a ta) (hb : DE X b tb) : DE X (.BinOp a .Pow b pos) (dOp rPow ta tb) := de_op op_pow (lift_ii fun _ _ _ => .int _) ha hb
/-- -a -/
def rNeg : D → S → QD → Prop
  | .int i, s, Q => Q (.int (-i)) s
  | _, _, _ => False
def dUn (r : D → S → QD → Prop) (ta : TD) : TD := fun σ s Q => ta σ s fun x s1 => r x s1 Q
theorem de_neg (ha : DE X a ta) : DE X (.UnaryOp .USub a pos) (dUn rNeg ta) :=
  PE.weaken (pe_un un_neg ha) fun σV H Q h => by
    obtain ⟨σ, s, Q', E, hs, q, k⟩ := h
    refine ⟨σ, s, _, E, hs, q, fun v d H1 s1 k1 r1 hs1 q1 => ?_⟩
    cases d with
    | int i => cases datI r1; exact ⟨i, rfl, k _ _ _ _ k1 (.int _) hs1 q1⟩
    | _ => exact q1.elim

/-! ### == and its kin over data -/
mutual
def D.pd : D → PyData
  | .non => .none | .bl b => .bool b | .int i => .int i | .str x => .str x | .tup ds => .tuple (D.pds ds) | .ref _ => .none
def D.pds : List D → List PyData
  | [] => [] | d :: ds => D.pd d :: D.pds ds
end
mutual
/-- no list, signs in order -/
def D.ok : D → Bool
  | .str x => PyData.strOk x | .tup ds => D.oks ds | .ref _ => false | .non => true | .bl _ => true | .int _ => true
def D.oks : List D → Bool
  | [] => true | d :: ds => D.ok d && D.oks ds
end
mutual
def D.dep : D → Nat
  | .tup ds => D.deps ds + 1 | .str _ => 0 | .ref _ => 0 | .non => 0 | .bl _ => 0 | .int _ => 0
def D.deps : List D → Nat
  | [] => 0 | d :: ds => max (D.dep d) (D.deps ds)
end
mutual
def D.eqv : D → D → Bool
  | .non, .non => true
  | .bl a, .bl b => a == b
  | .bl a, .int j => (if a then 1 else 0) == j
  | .int i, .bl b => i == (if b then 1 else 0)
  | .int i, .int j => decide (i = j)
  | .str x, .str y => decide (x = y)
  | .tup xs, .tup ys => D.eqvs xs ys
  | .non, .bl _ => false | .non, .int _ => false | .non, .str _ => false | .non, .tup _ => false | .non, .ref _ => false
  | .bl _, .non => false | .bl _, .str _ => false | .bl _, .tup _ => false | .bl _, .ref _ => false
  | .int _, .non => false | .int _, .str _ => false | .int _, .tup _ => false | .int _, .ref _ => false
  | .str _, .non => false | .str _, .bl _ => false | .str _, .int _ => false | .str _, .tup _ => false | .str _, .ref _ => false
  | .tup _, .non => false | .tup _, .bl _ => false | .tup _, .int _ => false | .tup _, .str _ => false | .tup _, .ref _ => false
  | .ref _, .non => false | .ref _, .bl _ => false | .ref _, .int _ => false | .ref _, .str _ => false | .ref _, .tup _ => false | .ref _, .ref _ => false
def D.eqvs : List D → List D → Bool
  | [], [] => true
  | x :: xs, y :: ys => D.eqv x y && D.eqvs xs ys
  | [], _ :: _ => false
  | _ :: _, [] => false
end
def D.fine (d : D) : Bool := d.ok && decide (d.dep ≤ 60)
mutual
theorem ok_lay : ∀ d : D, d.ok = true → d.pd.canLay0 = true
  | .non, _ => by simp only [D.pd, PyData.canLay0]
  | .bl _, _ => by simp only [D.pd, PyData.canLay0]
  | .int _, _ => by simp only [D.pd, PyData.canLay0]
  | .str x, h => by simp only [D.pd, PyData.canLay0]; simpa only [D.ok] using h
  | .ref _, h => by simp [D.ok] at h
  | .tup ds, h => by simp only [D.pd, PyData.canLay0]; exact oks_lay ds (by simpa only [D.ok] using h)
theorem oks_lay : ∀ ds : List D, D.oks ds = true → PyData.canLayAll0 (D.pds ds) = true
  | [], _ => by simp only [D.pds, PyData.canLayAll0]
  | d :: ds, h => by
    simp only [D.oks, Bool.and_eq_true] at h
    simp only [D.pds, PyData.canLayAll0, Bool.and_eq_true]
    exact ⟨ok_lay d h.1, oks_lay ds h.2⟩
end
mutual
theorem dep_pd : ∀ d : D, d.pd.depth = d.dep
  | .non => rfl | .bl _ => rfl | .int _ => rfl | .str _ => rfl | .ref _ => rfl
  | .tup ds => by simp only [D.pd, PyData.depth, D.dep, deps_pd ds]
theorem deps_pd : ∀ ds : List D, PyData.depthAll (D.pds ds) = D.deps ds
  | [] => rfl
  | d :: ds => by simp only [D.pds, PyData.depthAll, D.deps, dep_pd d, deps_pd ds]
end
mutual
theorem eqv_pd : ∀ d f : D, d.ok = true → f.ok = true → PyData.eqv d.pd f.pd = d.eqv f
  | .non, f, _, hf => by cases f <;> simp_all [D.pd, PyData.eqv, D.eqv, D.ok]
  | .bl _, f, _, hf => by cases f <;> simp_all [D.pd, PyData.eqv, D.eqv, D.ok]
  | .int _, f, _, hf => by cases f <;> simp_all [D.pd, PyData.eqv, D.eqv, D.ok, Bool.beq_eq_decide_eq]
  | .str x, f, _, hf => by cases f <;> simp_all [D.pd, PyData.eqv, D.eqv, D.ok, Bool.beq_eq_decide_eq]
  | .ref _, f, h, hf => by simp [D.ok] at h
  | .tup ds, .tup fs, h, hf => by
    simp only [D.pd, PyData.eqv, D.eqv]
    exact eqvs_pd ds fs (by simpa only [D.ok] using h) (by simpa only [D.ok] using hf)
  | .tup ds, .non, h, hf => by simp [D.pd, PyData.eqv, D.eqv]
  | .tup ds, .bl _, h, hf => by simp [D.pd, PyData.eqv, D.eqv]
  | .tup ds, .int _, h, hf => by simp [D.pd, PyData.eqv, D.eqv]
  | .tup ds, .str _, h, hf => by simp [D.pd, PyData.eqv, D.eqv]
  | .tup ds, .ref _, h, hf => by simp [D.ok] at hf
theorem eqvs_pd : ∀ ds fs : List D, D.oks ds = true → D.oks fs = true → PyData.eqvAll (D.pds ds) (D.pds fs) = D.eqvs ds fs
  | [], [], _, _ => by simp [D.pds, PyData.eqvAll, D.eqvs]
  | [], _ :: _, _, _ => by simp [D.pds, PyData.eqvAll, D.eqvs]
  | _ :: _, [], _, _ => by simp [D.pds, PyData.eqvAll, D.eqvs]
  | d :: ds, f :: fs, h, hf => by
    simp only [D.oks, Bool.and_eq_true] at h hf
    simp only [D.pds, PyData.eqvAll, D.eqvs, eqv_pd d f h.1 hf.1, eqvs_pd ds fs h.2 hf.2]
end
mutual
theorem dp_of {K : PySem.W.Frag} {H : Hp} : ∀ {v : V} {d : D}, Dat H v d → d.ok = true → Dp K H v d.pd
  | _, _, .non, _ => .non
  | _, _, .bl b, _ => .bl b
  | _, _, .int i, _ => .int i
  | _, _, .str x, _ => .str x
  | _, _, .ref a, h => by simp [D.ok] at h
  | _, _, .tup e r, h => .tup (SqT.of e) (dps_of r (by simpa only [D.ok] using h))
theorem dps_of {K : PySem.W.Frag} {H : Hp} : ∀ {vs : List V} {ds : List D}, Dats H vs ds → D.oks ds = true → DpAll K H vs (D.pds ds)
  | _, _, .nil, _ => .nil
  | _, _, .cons e r, h => by
    simp only [D.oks, Bool.and_eq_true] at h
    exact .cons (dp_of e h.1) (dps_of r h.2)
end
theorem fine_ok {d : D} (h : d.fine = true) : d.ok = true := (Bool.and_eq_true_iff.mp h).1
theorem fine_dep {d : D} (h : d.fine = true) : d.dep ≤ 60 := of_decide_eq_true (Bool.and_eq_true_iff.mp h).2
theorem fine_shaped {d : D} (h : d.fine = true) : SeqAt.shaped d.pd = true := by
  have h1 := fine_dep h
  unfold SeqAt.shaped
  rw [ok_lay d (fine_ok h), dep_pd]
  simp; omega
/-- which == -/
def rEqD (k : Bool → Bool) : RD2
  | .int i, .int j, s, Q => Q (.bl (k (decide (i = j)))) s
  | .str i, .str j, s, Q => Q (.bl (k (decide (i = j)))) s
  | .non, .str _, s, Q => Q (.bl (k false)) s
  | .str _, .non, s, Q => Q (.bl (k false)) s
  | .int _, .str _, s, Q => Q (.bl (k false)) s
  | .str _, .int _, s, Q => Q (.bl (k false)) s
  | .bl _, .str _, s, Q => Q (.bl (k false)) s
  | .str _, .bl _, s, Q => Q (.bl (k false)) s
  | d, f, s, Q => d.fine = true ∧ f.fine = true ∧ Q (.bl (k (d.eqv f))) s
theorem lift_eqg {K : PySem.W.Frag} {v w : V} {d f : D} {H : Hp} {s : S} {Q : VK} {Q' : QD} {k' : Bool → Bool} {r1 r2 : R2}
    (h1 : ∀ x y, scal x y = true → Q (.bl (k' (decide (x = y)))) H → r1 x y H Q)
    (h2 : ∀ x y d e, Dp K H x d → Dp K H y e → SeqAt.shaped d = true → SeqAt.shaped e = true → Q (.bl (k' (PyData.eqv d e))) H → r2 x y H Q)
    (a : Dat H v d) (b : Dat H w f) (hs : HS H s) (q : rEqD k' d f s Q') (k : ∀ v d H' s', Kp H H' → Dat H' v d → HS H' s' → Q' d s' → Q v H') : r1 v w H Q ∨ r2 v w H Q := by
  have gen : d.fine = true ∧ f.fine = true ∧ Q' (.bl (k' (d.eqv f))) s → r1 v w H Q ∨ r2 v w H Q := fun ⟨x, y, z⟩ =>
    .inr (h2 v w _ _ (dp_of a (fine_ok x)) (dp_of b (fine_ok y)) (fine_shaped x) (fine_shaped y) (by rw [eqv_pd d f (fine_ok x) (fine_ok y)]; exact k _ _ _ _ (Kp.refl H) (.bl _) hs z))
  have fin : ∀ c, Q' (.bl c) s → Q (.bl c) H := fun c q => k _ _ _ _ (Kp.refl H) (.bl _) hs q
  cases d with
  | int i => cases f with
    | int j => cases datI a; cases datI b; exact .inl (h1 _ _ rfl (by rw [dec_int, Bool.beq_eq_decide_eq]; exact fin _ q))
    | str j => cases datI a; cases datS b; exact .inl (h1 _ _ rfl (by simpa using fin _ q))
    | _ => exact gen q
  | str i => cases f with
    | str j => cases datS a; cases datS b; exact .inl (h1 _ _ rfl (by rw [dec_str, Bool.beq_eq_decide_eq]; exact fin _ q))
    | int j => cases datS a; cases datI b; exact .inl (h1 _ _ rfl (by simpa using fin _ q))
    | non => cases datS a; cases datN b; exact .inl (h1 _ _ rfl (by simpa using fin _ q))
    | bl j => cases datS a; cases datB b; exact .inl (h1 _ _ rfl (by simpa using fin _ q))
    | _ => exact gen q
  | non => cases f with
    | str j => cases datN a; cases datS b; exact .inl (h1 _ _ rfl (by simpa using fin _ q))
    | _ => exact gen q
  | bl i => cases f with
    | str j => cases datB a; cases datS b; exact .inl (h1 _ _ rfl (by simpa using fin _ q))
    | _ => exact gen q
  | _ => exact gen q
theorem lift_eq (K : PySem.W.Frag) : Lift2 (fun x y H Q => L2.rEq x y H Q ∨ L2.rEqD K x y H Q) (rEqD id) := fun v w d f H s Q Q' r1 r2 hs q k =>
  lift_eqg (k' := id) (fun x y h q => ⟨h, q⟩) (fun x y d e a b c f q => ⟨d, e, a, b, c, f, q⟩) r1 r2 hs q k
theorem lift_ne (K : PySem.W.Frag) : Lift2 (fun x y H Q => L2.rNe x y H Q ∨ L2.rNeD K x y H Q) (rEqD not) := fun v w d f H s Q Q' r1 r2 hs q k =>
  lift_eqg (k' := not) (fun x y h q => ⟨h, q⟩) (fun x y d e a b c f q => ⟨d, e, a, b, c, f, q⟩) r1 r2 hs q k
/-- comparisons: a rule for each sign -/
structure CmpD (X : Cx) (op : CmpOp) (ρ : RD2) : Prop where
  ex : ∃ r : R2, OpR X (compareOp op) r ∧ Lift2 r ρ
theorem cm_eq (hu : X.A.units + 64 < cLine) : CmpD X .Eq (rEqD id) := ⟨_, OpR.or op_eq (op_eqD hu), lift_eq X.K⟩
theorem cm_ne (hu : X.A.units + 64 < cLine) : CmpD X .NotEq (rEqD not) := ⟨_, OpR.or op_ne (op_neD hu), lift_ne X.K⟩
def rCmp (pi : Int → Int → Bool) (ps : Str → Str → Bool) : RD2
  | .int i, .int j, s, Q => Q (.bl (pi i j)) s
  | .str i, .str j, s, Q => Q (.bl (ps i j)) s
  | _, _, _, _ => False
theorem lift_cmp {pi : Int → Int → Bool} {ps : Str → Str → Bool} : Lift2 (fun x y H Q => rI0 (fun i j => .bl (pi i j)) x y H Q ∨ ∃ i j, x = .str i ∧ y = .str j ∧ Q (.bl (ps i j)) H) (rCmp pi ps) := fun v w d f H s Q Q' r1 r2 hs q k => by
  cases d with
  | int i => cases f with
    | int j => cases datI r1; cases datI r2; exact .inl ⟨i, j, rfl, rfl, k _ _ _ _ (Kp.refl H) (.bl _) hs q⟩
    | _ => exact q.elim
  | str i => cases f with
    | str j => cases datS r1; cases datS r2; exact .inr ⟨i, j, rfl, rfl, k _ _ _ _ (Kp.refl H) (.bl _) hs q⟩
    | _ => exact q.elim
  | _ => exact q.elim
def rLt : RD2 := rCmp (fun i j => decide (i < j)) fun i j => decide (i.cps.toList < j.cps.toList)
def rGt : RD2 := rCmp (fun i j => decide (j < i)) fun i j => decide (j.cps.toList < i.cps.toList)
def rLe : RD2 := rCmp (fun i j => decide (i ≤ j)) fun i j => !decide (j.cps.toList < i.cps.toList)
def rGe : RD2 := rCmp (fun i j => decide (j ≤ i)) fun i j => !decide (i.cps.toList < j.cps.toList)
theorem cm_lt : CmpD X .Lt rLt := ⟨_, OpR.or op_lt op_lt_str, lift_cmp⟩
theorem cm_gt : CmpD X .Gt rGt := ⟨_, OpR.or op_gt op_gt_str, lift_cmp⟩
theorem cm_le : CmpD X .LtE rLe := ⟨_, OpR.or op_le op_le_str, lift_cmp⟩
theorem cm_ge : CmpD X .GtE rGe := ⟨_, OpR.or op_ge op_ge_str, lift_cmp⟩
/-- is None, is True -/
def rIs (k : Bool → Bool) : RD2
  | .non, .non, s, Q => Q (.bl (k true)) s
  | .bl a, .bl b, s, Q => Q (.bl (k (decide (a = b)))) s
  | .int _, .non, s, Q => Q (.bl (k false)) s
  | .str _, .non, s, Q => Q (.bl (k false)) s
  | .bl _, .non, s, Q => Q (.bl (k false)) s
  | .ref _, .non, s, Q => Q (.bl (k false)) s
  | .tup _, .non, s, Q => Q (.bl (k false)) s
  | _, _, _, _ => False
theorem lift_isg {k' : Bool → Bool} : Lift2 (fun x y H Q => (y = .non ∧ Q (.bl (k' (decide (x = .non)))) H) ∨ ∃ a b, x = .bl a ∧ y = .bl b ∧ Q (.bl (k' (decide (a = b)))) H) (rIs k') := fun v w d f H s Q Q' r1 r2 hs q k => by
  have fin : ∀ c, Q' (.bl c) s → Q (.bl c) H := fun c q => k _ _ _ _ (Kp.refl H) (.bl _) hs q
  cases f with
  | non =>
    cases datN r2
    cases d with
    | non => cases datN r1; exact .inl ⟨rfl, fin _ q⟩
    | bl b => cases datB r1; exact .inl ⟨rfl, by simpa using fin _ q⟩
    | int b => cases datI r1; exact .inl ⟨rfl, by simpa using fin _ q⟩
    | str b => cases datS r1; exact .inl ⟨rfl, by simpa using fin _ q⟩
    | ref b => cases datR r1; exact .inl ⟨rfl, by simpa using fin _ q⟩
    | tup ds => obtain ⟨p, vs, rfl, _⟩ := datT r1; exact .inl ⟨rfl, by simpa using fin _ q⟩
  | bl b => cases d with
    | bl a => cases datB r1; cases datB r2; exact .inr ⟨a, b, rfl, rfl, fin _ q⟩
    | _ => exact q.elim
  | _ => cases d <;> exact q.elim
theorem cm_is : CmpD X .Is (rIs id) := ⟨_, OpR.or op_isN op_is_bl, lift_isg⟩
theorem cm_isnot : CmpD X .IsNot (rIs not) := ⟨_, OpR.or op_notN op_isnot_bl, lift_isg⟩
theorem de_cmp {op : CmpOp} {ρ : RD2} (h : CmpD X op ρ) (ha : DE X a ta) (hb : DE X b tb) (hm : behindInMarks op b = false := by first | exact nomark _ | rfl) : DE X (.Compare a [op] [b] pos) (dOp ρ ta tb) := by
  obtain ⟨r, ho, l⟩ := h.ex
  exact PE.weaken (pe_cmpR ho ha hb hm) (lift_op l)
/-- a value that is a bool, as a test -/
def dTest (t : TD) : TDT := fun σ s Q => t σ s fun x s' => ∃ k, x = .bl k ∧ Q k s'
theorem lift_test {t : TD} {tV : TE} (l : ∀ σV H Q, upE t σV H Q → tV σV H Q) : ∀ σV H Q, upT (dTest t) σV H Q → tTest tV σV H Q := fun σV H Q h => by
  obtain ⟨σ, s, Q', E, hs, q, k⟩ := h
  refine l σV H _ ⟨σ, s, _, E, hs, q, fun v d H1 s1 k1 r1 hs1 q1 => ?_⟩
  obtain ⟨c, rfl, q1⟩ := q1
  cases datB r1
  exact ⟨c, rfl, k _ _ _ k1 hs1 q1⟩
theorem dt_cmp {op : CmpOp} {ρ : RD2} (h : CmpD X op ρ) (ha : DE X a ta) (hb : DE X b tb) (hm : behindInMarks op b = false := by first | exact nomark _ | rfl) : DT X (.Compare a [op] [b] pos) (dTest (dOp ρ ta tb)) := by
  obtain ⟨r, ho, l⟩ := h.ex
  exact PT.weaken (pt_cmpR ho ha hb hm) (lift_test (lift_op l))
def dChain (ρ ρ' : RD2) (ta tb tc : TD) : TD := fun σ s Q => ta σ s fun x s1 => tb σ s1 fun y s2 => ρ x y s2 fun z s3 => ∃ k, z = .bl k ∧ (if k = true then tc σ s3 fun w s4 => ρ' y w s4 Q else Q (.bl false) s3)
theorem lift_chain {r r' : R2} {ρ ρ' : RD2} (l : Lift2 r ρ) (l' : Lift2 r' ρ') : ∀ σV H Q, upE (dChain ρ ρ' ta tb tc) σV H Q → tChain r r' (upE ta) (upE tb) (upE tc) σV H Q := fun σV H Q h => by
  obtain ⟨σ, s, Q', E, hs, q, k⟩ := h
  refine ⟨σ, s, _, E, hs, q, fun v d H1 s1 k1 r1 hs1 q1 => ?_⟩
  refine ⟨σ, s1, _, E.mono k1, hs1, q1, fun w f H2 s2 k2 r2 hs2 q2 => ?_⟩
  refine l v w d f H2 s2 _ _ (r1.mono k2) r2 hs2 q2 fun z g H3 s3 k3 rz hs3 q3 => ?_
  obtain ⟨c, rfl, q3⟩ := q3
  cases datB rz
  refine ⟨c, rfl, ?_⟩
  cases c with
  | false => exact k _ _ _ _ ((k1.trans k2).trans k3) (.bl _) hs3 q3
  | true =>
    refine ⟨σ, s3, _, E.mono ((k1.trans k2).trans k3), hs3, q3, fun w' f' H4 s4 k4 r4 hs4 q4 => ?_⟩
    exact l' w w' f f' H4 s4 Q Q' (r2.mono (k3.trans k4)) r4 hs4 q4 fun z' g' H5 s5 k5 => k z' g' H5 s5 ((((k1.trans k2).trans k3).trans k4).trans k5)
theorem de_chain {op op' : CmpOp} {ρ ρ' : RD2} (h : CmpD X op ρ) (h' : CmpD X op' ρ') (ha : DE X a ta) (hb : DE X b tb) (hc : DE X c tc) (hm : lastMarks [op, op'] [b, c] = false := by rfl) : DE X (.Compare a [op, op'] [b, c] pos) (dChain ρ ρ' ta tb tc) := by
  obtain ⟨r, ho, l⟩ := h.ex
  obtain ⟨r', ho', l'⟩ := h'.ex
  exact PE.weaken (pe_chain ho ho' ha hb hc hm) (lift_chain l l')
theorem dt_chain {op op' : CmpOp} {ρ ρ' : RD2} (h : CmpD X op ρ) (h' : CmpD X op' ρ') (ha : DE X a ta) (hb : DE X b tb) (hc : DE X c tc) (hm : lastMarks [op, op'] [b, c] = false := by rfl) : DT X (.Compare a [op, op'] [b, c] pos) (dTest (dChain ρ ρ' ta tb tc)) := by
  obtain ⟨r, ho, l⟩ := h.ex
  obtain ⟨r', ho', l'⟩ := h'.ex
  exact PT.weaken (pt_chain ho ho' ha hb hc hm) (lift_test (lift_chain l l'))

/-! ### truth, and, or, not -/
def rTru : D → S → (Bool → S → Prop) → Prop
  | .non, s, Q => Q false s
  | .bl b, s, Q => Q b s
  | .int i, s, Q => Q (i != 0) s
  | .str x, s, Q => x.length ≤ sizeLine ∧ Q ((x.length : Int) != 0) s
  | .tup ds, s, Q => Q (!ds.isEmpty) s
  | .ref a, s, Q => ∃ ds, s a = some (.lst ds) ∧ Q (!ds.isEmpty) s
theorem Dats.isEmpty {H : Hp} {vs : List V} {ds : List D} (r : Dats H vs ds) : vs.isEmpty = ds.isEmpty := by cases r <;> rfl
theorem lift_tru {K : PySem.W.Frag} {H : Hp} {v : V} {d : D} {s : S} {Q' : Bool → S → Prop} (r : Dat H v d) (hs : HS H s) (q : rTru d s Q') : ∃ k, TruV K v H k ∧ Q' k s := by
  cases d with
  | non => cases datN r; exact ⟨false, rfl, q⟩
  | bl b => cases datB r; exact ⟨b, rfl, q⟩
  | int b => cases datI r; exact ⟨_, rfl, q⟩
  | str b => cases datS r; exact ⟨_, ⟨q.1, rfl⟩, q.2⟩
  | tup ds =>
    obtain ⟨p, vs, rfl, e, t⟩ := datT r
    exact ⟨_, .inr (.inl ⟨vs, SqT.of e, by rw [t.isEmpty]⟩), q⟩
  | ref a =>
    cases datR r
    obtain ⟨ds, e, q⟩ := q
    obtain ⟨vs, e1, t⟩ := hs _ _ e
    exact ⟨_, .inl ⟨vs, SqL.of e1, by rw [t.isEmpty]⟩, q⟩
def dTru (t : TD) : TDT := fun σ s Q => t σ s fun x s' => rTru x s' Q
theorem dt_truth (ha : DE X a ta) (he : ∀ whole, isTrue a X.env whole = (do let v ← whole; standAt a.pos; holding [v] (truthy v)) := by intro _; rfl) : DT X a (dTru ta) :=
  PT.weaken (pt_truth ha he) fun σV H Q h => by
    obtain ⟨σ, s, Q', E, hs, q, k⟩ := h
    refine ⟨σ, s, _, E, hs, q, fun v d H1 s1 k1 r1 hs1 q1 => ?_⟩
    obtain ⟨c, h1, h2⟩ := lift_tru (K := X.K) r1 hs1 q1
    exact ⟨c, h1, k _ _ _ k1 hs1 h2⟩
variable {tA tB tC' : TDT} {rest : List Expr}
def dAnd (t u : TDT) : TDT := fun σ s Q => t σ s fun c s1 => if c = true then u σ s1 Q else Q false s1
def dOr (t u : TDT) : TDT := fun σ s Q => t σ s fun c s1 => if c = true then Q true s1 else u σ s1 Q
def dNot (t : TDT) : TDT := fun σ s Q => t σ s fun c s1 => Q (!c) s1
theorem dw_and1 (ha : DT X a tA) : DW X (.BoolOp .And [a] pos) tA := pw_and1 ha
theorem dw_or1 (ha : DT X a tA) : DW X (.BoolOp .Or [a] pos) tA := pw_or1 ha
theorem dw_and (ha : DT X a tA) (hb : DW X (.BoolOp .And (b :: rest) pos) tB) : DW X (.BoolOp .And (a :: b :: rest) pos) (dAnd tA tB) :=
  PW.weaken (pw_and ha hb) fun σV H Q h => by
    obtain ⟨σ, s, Q', E, hs, q, k⟩ := h
    refine ⟨σ, s, _, E, hs, q, fun c H1 s1 k1 hs1 q1 => ?_⟩
    cases c with
    | true => exact ⟨σ, s1, Q', E.mono k1, hs1, q1, fun c H2 s2 k2 => k c H2 s2 (k1.trans k2)⟩
    | false => exact k _ _ _ k1 hs1 q1
theorem dw_or (ha : DT X a tA) (hb : DW X (.BoolOp .Or (b :: rest) pos) tB) : DW X (.BoolOp .Or (a :: b :: rest) pos) (dOr tA tB) :=
  PW.weaken (pw_or ha hb) fun σV H Q h => by
    obtain ⟨σ, s, Q', E, hs, q, k⟩ := h
    refine ⟨σ, s, _, E, hs, q, fun c H1 s1 k1 hs1 q1 => ?_⟩
    cases c with
    | false => exact ⟨σ, s1, Q', E.mono k1, hs1, q1, fun c H2 s2 k2 => k c H2 s2 (k1.trans k2)⟩
    | true => exact k _ _ _ k1 hs1 q1
theorem dt_w (h : DW X a tA) : DT X a tA := PW.pt h
theorem dt_not (ha : DT X a tA) : DT X (.UnaryOp .Not a pos) (dNot tA) :=
  PT.weaken (pt_not ha) fun σV H Q h => by
    obtain ⟨σ, s, Q', E, hs, q, k⟩ := h
    exact ⟨σ, s, _, E, hs, q, fun c H1 s1 k1 hs1 q1 => k _ _ _ k1 hs1 q1⟩
/-- .. as values -/
def dAndV (ta tb : TD) : TD := fun σ s Q => ta σ s fun x s1 => rTru x s1 fun k s2 => if k = true then tb σ s2 Q else Q x s2
def dOrV (ta tb : TD) : TD := fun σ s Q => ta σ s fun x s1 => rTru x s1 fun k s2 => if k = true then Q x s2 else tb σ s2 Q
def dNotV (ta : TD) : TD := fun σ s Q => ta σ s fun x s1 => rTru x s1 fun k s2 => Q (.bl (!k)) s2
theorem tru_store {K : PySem.W.Frag} {H : Hp} {v : V} {d : D} {s : S} {Q' : Bool → S → Prop} (r : Dat H v d) (hs : HS H s) (q : rTru d s Q') : ∃ k, TruV K v H k ∧ Q' k s := lift_tru r hs q
theorem de_one {op} {t : TD} (h : DE X a t) : DE X (.BoolOp op [a] pos) t := pe_one h
theorem de_and (ha : DE X a ta) (hb : DE X (.BoolOp .And (b :: rest) pos) tb) : DE X (.BoolOp .And (a :: b :: rest) pos) (dAndV ta tb) :=
  PE.weaken (pe_andT ha hb) fun σV H Q h => by
    obtain ⟨σ, s, Q', E, hs, q, k⟩ := h
    refine ⟨σ, s, _, E, hs, q, fun v d H1 s1 k1 r1 hs1 q1 => ?_⟩
    obtain ⟨c, h1, h2⟩ := lift_tru (K := X.K) r1 hs1 q1
    refine ⟨c, h1, ?_⟩
    cases c with
    | true => exact ⟨σ, s1, Q', E.mono k1, hs1, h2, fun v d H2 s2 k2 => k v d H2 s2 (k1.trans k2)⟩
    | false => exact k _ _ _ _ k1 r1 hs1 h2
theorem de_or (ha : DE X a ta) (hb : DE X (.BoolOp .Or (b :: rest) pos) tb) : DE X (.BoolOp .Or (a :: b :: rest) pos) (dOrV ta tb) :=
  PE.weaken (pe_orT ha hb) fun σV H Q h => by
    obtain ⟨σ, s, Q', E, hs, q, k⟩ := h
    refine ⟨σ, s, _, E, hs, q, fun v d H1 s1 k1 r1 hs1 q1 => ?_⟩
    obtain ⟨c, h1, h2⟩ := lift_tru (K := X.K) r1 hs1 q1
    refine ⟨c, h1, ?_⟩
    cases c with
    | false => exact ⟨σ, s1, Q', E.mono k1, hs1, h2, fun v d H2 s2 k2 => k v d H2 s2 (k1.trans k2)⟩
    | true => exact k _ _ _ _ k1 r1 hs1 h2
theorem de_not (ha : DE X a ta) : DE X (.UnaryOp .Not a pos) (dNotV ta) :=
  PE.weaken (pe_notT ha) fun σV H Q h => by
    obtain ⟨σ, s, Q', E, hs, q, k⟩ := h
    refine ⟨σ, s, _, E, hs, q, fun v d H1 s1 k1 r1 hs1 q1 => ?_⟩
    obtain ⟨c, h1, h2⟩ := lift_tru (K := X.K) r1 hs1 q1
    exact ⟨c, h1, k _ _ _ _ k1 (.bl _) hs1 h2⟩
def dIf (t : TDT) (ta tb : TD) : TD := fun σ s Q => t σ s fun c s1 => if c = true then ta σ s1 Q else tb σ s1 Q
theorem de_if (hc : DT X c tA) (ha : DE X a ta) (hb : DE X b tb) : DE X (.IfExp c a b pos) (dIf tA ta tb) :=
  PE.weaken (pe_ifExp hc ha hb) fun σV H Q h => by
    obtain ⟨σ, s, Q', E, hs, q, k⟩ := h
    refine ⟨σ, s, _, E, hs, q, fun c H1 s1 k1 hs1 q1 => ?_⟩
    cases c with
    | true => exact ⟨σ, s1, Q', E.mono k1, hs1, q1, fun v d H2 s2 k2 => k v d H2 s2 (k1.trans k2)⟩
    | false => exact ⟨σ, s1, Q', E.mono k1, hs1, q1, fun v d H2 s2 k2 => k v d H2 s2 (k1.trans k2)⟩
end DL

set_option maxHeartbeats 4000000
namespace DL
open PySem PySem.Spec L2
variable {X : Cx} {a b c e : Expr} {es : List Expr} {ta tb tc te : TD} {t : TDA} {pos : Pos}

/-! ### subscripts -/
def rIxD : RD2
  | .tup ds, .int i, s, Q => ∃ d, atI ds i = some d ∧ Q d s
  | .ref p, .int i, s, Q => ∃ ds d, s p = some (.lst ds) ∧ atI ds i = some d ∧ Q d s
  | .str z, .int i, s, Q => z.length ≤ sizeLine ∧ ∃ c, atI z.cps.toList i = some c ∧ Q (.str ⟨#[c]⟩) s
  | _, _, _, _ => False
theorem Dats.atI {H : Hp} {vs : List V} {ds : List D} {i : Int} {d : D} (r : Dats H vs ds) (h : L2.atI ds i = some d) : ∃ v, L2.atI vs i = some v ∧ Dat H v d := by
  unfold L2.atI at h ⊢
  rw [r.length]
  cases q : ixN ds.length i with
  | none => rw [q] at h; cases h
  | some j => rw [q] at h; exact r.get h
theorem lift_ix (K : PySem.W.Frag) : Lift2 (L2.rIx K) rIxD := fun v w d f H s Q Q' r1 r2 hs q k => by
  cases d with
  | tup ds => cases f with
    | int i =>
      obtain ⟨p, vs, rfl, e, t⟩ := datT r1
      cases datI r2
      obtain ⟨d, h1, q⟩ := q
      obtain ⟨v, h2, h3⟩ := t.atI h1
      exact .inr (.inl ⟨p, vs, i, v, rfl, rfl, SqT.of e, h2, k _ _ _ _ (Kp.refl H) h3 hs q⟩)
    | _ => exact q.elim
  | ref p => cases f with
    | int i =>
      cases datR r1; cases datI r2
      obtain ⟨ds, d, e, h1, q⟩ := q
      obtain ⟨vs, e1, t⟩ := hs _ _ e
      obtain ⟨v, h2, h3⟩ := t.atI h1
      exact .inl ⟨p, vs, i, v, rfl, rfl, SqL.of e1, h2, k _ _ _ _ (Kp.refl H) h3 hs q⟩
    | _ => exact q.elim
  | str z => cases f with
    | int i =>
      cases datS r1; cases datI r2
      obtain ⟨hl, c, h1, q⟩ := q
      exact .inr (.inr ⟨z, i, c, rfl, rfl, hl, h1, k _ _ _ _ (Kp.refl H) (.str _) hs q⟩)
    | _ => exact q.elim
  | _ => exact q.elim
theorem de_ix (ha : DE X a ta) (hb : DE X b tb) (hs : PlainIx b := by exact fun _ _ => rfl) : DE X (.Subscript a b pos) (dOp rIxD ta tb) :=
  PE.weaken (pe_ix ix_seq ha hb hs) (lift_op (lift_ix X.K))
/-- slices -/
abbrev TDO := DS → S → (Option Int → S → Prop) → Prop
def upO (t : TDO) : TO := fun σV H Q => ∃ (σ : DS) (s : S) (Q' : Option Int → S → Prop), EnvD H σV σ ∧ HS H s ∧ t σ s Q' ∧ ∀ o H' s', Kp H H' → HS H' s' → Q' o s' → Q o H'
abbrev DO (X : Cx) (e : Option Expr) (t : TDO) : Prop := PO X e (upO t)
theorem PO.weaken {X : Cx} {e : Option Expr} {t t' : TO} (h : PO X e t) (w : ∀ σ H Q, t' σ H Q → t σ H Q) : PO X e t' := ⟨fun pins s σ H Q I q => h.run pins s σ H Q I (w _ _ _ q)⟩
def dNoPart : TDO := fun _ s Q => Q none s
def dPart (t : TD) : TDO := fun σ s Q => t σ s fun x s1 => match x with
  | .int i => Q (some i) s1
  | _ => False
theorem do_none : DO X none dNoPart := PO.weaken po_none fun σV H Q h => by
  obtain ⟨σ, s, Q', E, hs, q, k⟩ := h
  exact k _ _ _ (Kp.refl H) hs q
theorem do_some (h : DE X e te) : DO X (some e) (dPart te) := PO.weaken (po_some h) fun σV H Q h => by
  obtain ⟨σ, s, Q', E, hs, q, k⟩ := h
  refine ⟨σ, s, _, E, hs, q, fun v d H1 s1 k1 r1 hs1 q1 => ?_⟩
  cases d with
  | int i => cases datI r1; exact ⟨i, rfl, k _ _ _ k1 hs1 q1⟩
  | _ => exact q1.elim
def cutD (xs : List D) (lo hi : Option Int) : List D := (xs.drop (HT.sIx xs.length 0 lo)).take (HT.sIx xs.length xs.length hi - HT.sIx xs.length 0 lo)
theorem Dats.cut {H : Hp} {vs : List V} {ds : List D} (r : Dats H vs ds) (lo hi : Option Int) : Dats H (cutV vs lo hi) (cutD ds lo hi) := by
  unfold cutV cutD
  rw [r.length]
  exact (r.drop _).take _
def rSlD (K : PySem.W.Frag) : D → Option Int → Option Int → S → QD → Prop
  | .tup ds, lo, hi, s, Q => Q (.tup (cutD ds lo hi)) s
  | .str z, lo, hi, s, Q => z.length ≤ sizeLine ∧ Q (.str (cutS z lo hi)) s
  | .ref l, lo, hi, s, Q => ∃ ds, (s l = some (.lst ds) ∨ s l = some (.ro ds) ∨ KRo K l ds) ∧ ∀ p, s p = none → Q (.ref p) (s.set p (.lst (cutD ds lo hi)))
  | _, _, _, _, _ => False
def dSl (r : D → Option Int → Option Int → S → QD → Prop) (ta : TD) (tl th : TDO) : TD := fun σ s Q => ta σ s fun x s1 => tl σ s1 fun lo s2 => th σ s2 fun hi s3 => r x lo hi s3 Q
theorem cut_all {ds : List D} {lo hi : Option Int} (h : HT.sIx ds.length 0 lo = 0 ∧ HT.sIx ds.length ds.length hi = ds.length) : cutD ds lo hi = ds := by
  unfold cutD; rw [h.1, h.2]; simp
theorem de_slice {lo hi : Option Expr} {tl th : TDO} {p2 : Pos} (ha : DE X a ta) (hl : DO X lo tl) (hh : DO X hi th) : DE X (.Subscript a (.Slice lo hi none p2) pos) (dSl (rSlD X.K) ta tl th) :=
  PE.weaken (pe_slice (SlR.or sl_tupA (SlR.or sl_str sl_list)) ha hl hh) fun σV H Q h => by
    obtain ⟨σ, s, Q', E, hs, q, k⟩ := h
    refine ⟨σ, s, _, E, hs, q, fun v d H1 s1 k1 r1 hs1 q1 => ?_⟩
    refine ⟨σ, s1, _, E.mono k1, hs1, q1, fun o H2 s2 k2 hs2 q2 => ?_⟩
    refine ⟨σ, s2, _, E.mono (k1.trans k2), hs2, q2, fun u H3 s3 k3 hs3 q3 => ?_⟩
    have r3 := r1.mono (k2.trans k3)
    have kk := (k1.trans k2).trans k3
    cases d with
    | tup ds =>
      obtain ⟨p, vs, rfl, e, t⟩ := datT r3
      refine .inl ⟨p, vs, rfl, SqT.of e, fun z => ?_, fun _ p' hp => ?_⟩
      · rw [t.length] at z
        exact k _ _ _ _ kk r3 hs3 (by have q4 : Q' (.tup (cutD ds o u)) s3 := q3; rw [cut_all z] at q4; exact q4)
      · have kp : Kp H3 (upd H3 p' (.tup (cutV vs o u))) := Kp.alloc hp
        exact k _ _ _ _ (kk.trans kp) (.tup upd_same ((t.cut o u).mono kp)) (hs3.alloc hp) q3
    | str z => cases datS r3; exact .inr (.inl ⟨z, rfl, q3.1, k _ _ _ _ kk (.str _) hs3 q3.2⟩)
    | ref l =>
      cases datR r3
      obtain ⟨ds, e, q3⟩ := q3
      have go : ∀ vs, SqL X.K H3 l vs → Dats H3 vs ds → rSlL X.K (.ref l) o u H3 Q := fun vs e1 t => by
        refine ⟨l, vs, rfl, e1, fun p hp => ?_⟩
        exact k _ _ _ _ (kk.trans (Kp.alloc hp)) (.ref p) (hs3.laidL hp (t.cut o u)) (q3 p (hs3.none hp))
      refine Or.inr (Or.inr ?_)
      rcases e with e | e | e
      · obtain ⟨vs, e1, t⟩ := hs3 _ _ e; exact go vs (SqL.of e1) t
      · obtain ⟨vs, ob, e1, t⟩ := hs3 _ _ e; exact go vs (.inl (.inr ⟨ob, e1⟩)) t
      · obtain ⟨vs, e1, t⟩ := e H3; exact go vs e1 t
    | _ => exact q3.elim

/-! ### dicts with keys that are ints and texts -/
def D.key : D → Option Key
  | .int i => some (.inl i)
  | .str x => some (.inr x)
  | _ => none
def valD (kvs : List (Key × D)) (k : Key) : Option D := (kvs.find? fun kv => decide (kv.1 = k)).map (·.2)
def putD (kvs : List (Key × D)) (k : Key) (v : D) : List (Key × D) :=
  if (kvs.any fun kv => decide (kv.1 = k)) = true then kvs.map (fun kv => if kv.1 = k then (kv.1, v) else kv) else kvs ++ [(k, v)]
theorem key_dat {H : Hp} {v : V} {d : D} {k : Key} (r : Dat H v d) (h : d.key = some k) : v = kV k := by
  cases r with
  | int i => cases h; rfl
  | str i => cases h; rfl
  | _ => cases h
theorem KD.val {H : Hp} {k : Key} : ∀ {ws : List (Key × V)} {kvs : List (Key × D)}, KD H ws kvs → (∀ d, valD kvs k = some d → ∃ v, valV ws k = some v ∧ Dat H v d) ∧ (valD kvs k = none → valV ws k = none)
  | _, _, .nil => ⟨(fun _ h => by cases h), fun _ => rfl⟩
  | (k1, v1) :: ws, (k2, d2) :: kvs, .cons r t => by
    obtain ⟨ek, r⟩ := r
    have ek : k1 = k2 := ek
    subst ek
    have ih := KD.val (k := k) t
    by_cases h : k1 = k
    · rw [valV_pos h]
      have : valD ((k1, d2) :: kvs) k = some d2 := by simp [valD, List.find?_cons, h]
      rw [this]
      exact ⟨fun d e => by cases e; exact ⟨v1, rfl, r⟩, fun e => nomatch e⟩
    · rw [valV_neg h]
      have : valD ((k1, d2) :: kvs) k = valD kvs k := by simp [valD, List.find?_cons, h]
      rw [this]; exact ih
theorem KD.length {H : Hp} : ∀ {ws : List (Key × V)} {kvs : List (Key × D)}, KD H ws kvs → ws.length = kvs.length
  | _, _, .nil => rfl
  | _, _, .cons _ t => congrArg Nat.succ (KD.length t)
theorem KD.any {H : Hp} {k : Key} : ∀ {ws : List (Key × V)} {kvs : List (Key × D)}, KD H ws kvs → (ws.any fun kv => decide (kv.1 = k)) = kvs.any fun kv => decide (kv.1 = k)
  | _, _, .nil => rfl
  | _, _, .cons r t => by simp only [List.any_cons, KD.any t, r.1]
theorem KD.mapPut {H : Hp} {k : Key} {v : V} {d : D} (r : Dat H v d) : ∀ {ws : List (Key × V)} {kvs : List (Key × D)}, KD H ws kvs → KD H (ws.map fun kv => if kv.1 = k then (kv.1, v) else kv) (kvs.map fun kv => if kv.1 = k then (kv.1, d) else kv)
  | _, _, .nil => .nil
  | (k1, v1) :: _, (k2, d2) :: _, .cons q t => by
    obtain ⟨e, q⟩ := q
    have e : k1 = k2 := e
    subst e
    simp only [List.map_cons]
    by_cases h : k1 = k
    · rw [if_pos h, if_pos h]; exact .cons ⟨rfl, r⟩ (KD.mapPut r t)
    · rw [if_neg h, if_neg h]; exact .cons ⟨rfl, q⟩ (KD.mapPut r t)
theorem KD.snoc {H : Hp} {k : Key} {v : V} {d : D} (r : Dat H v d) : ∀ {ws : List (Key × V)} {kvs : List (Key × D)}, KD H ws kvs → KD H (ws ++ [(k, v)]) (kvs ++ [(k, d)])
  | _, _, .nil => .cons ⟨rfl, r⟩ .nil
  | _, _, .cons q t => .cons q (KD.snoc r t)
theorem KD.put {H : Hp} {k : Key} {v : V} {d : D} {ws : List (Key × V)} {kvs : List (Key × D)} (t : KD H ws kvs) (r : Dat H v d) : KD H (putK ws k v) (putD kvs k d) := by
  unfold putK putD
  rw [KD.any t]
  split
  · exact KD.mapPut r t
  · exact KD.snoc r t
def dDGet (td ty : TD) : TD := fun σ s Q => td σ s fun x s1 => ty σ s1 fun y s2 => ∃ a kvs k d, x = .ref a ∧ s2 a = some (.dic kvs) ∧ y.key = some k ∧ valD kvs k = some d ∧ Q d s2
theorem de_dget (hu : X.A.units + 1 < cLine) (ha : DE X a ta) (hb : DE X b tb) (hs : NoSl b := by exact fun _ _ => rfl) : DE X (.Subscript a b pos) (dDGet ta tb) :=
  PE.weaken (pe_dget hu ha hb hs) fun σV H Q h => by
    obtain ⟨σ, s, Q', E, hs, q, k⟩ := h
    refine ⟨σ, s, _, E, hs, q, fun v d H1 s1 k1 r1 hs1 q1 => ?_⟩
    refine ⟨σ, s1, _, E.mono k1, hs1, q1, fun w f H2 s2 k2 r2 hs2 q2 => ?_⟩
    obtain ⟨p, kvs, key, g, rfl, e, hk, hv, q2⟩ := q2
    cases datR r1
    obtain ⟨ws, e1, t⟩ := hs2 _ _ e
    obtain ⟨u, h1, h2⟩ := (KD.val t).1 g hv
    refine ⟨p, u, rfl, ?_, k _ _ _ _ (k1.trans k2) h2 hs2 q2⟩
    rw [key_dat r2 hk, ← h1]
    exact DGet.k e1
def dDPut (td ty tv : TD) : TDS := fun D σ s => tv σ s fun z s1 => td σ s1 fun x s2 => ty σ s2 fun y s3 => ∃ a kvs k, x = .ref a ∧ s3 a = some (.dic kvs) ∧ y.key = some k ∧ kvs.length < sizeLine ∧ D.nx σ (s3.set a (.dic (putD kvs k z)))
theorem ds_dput {pos' : Pos} (hu : X.A.units + 1 < cLine) (ha : DE X a ta) (hb : DE X b tb) (hv : DE X c tc) (hs : swapsWith c (some (.Subscript a b pos')) pos.line X.env = pure false := by rfl) : DSt X (.Assign [.Subscript a b pos'] c pos) (dDPut ta tb tc) :=
  PS.weaken (ps_dput hu ha hb hv hs) fun D σV H h => by
    obtain ⟨σ, s, D', E, hs, q, R⟩ := h
    refine ⟨σ, s, _, E, hs, q, fun v d H1 s1 k1 r1 hs1 q1 => ?_⟩
    refine ⟨σ, s1, _, E.mono k1, hs1, q1, fun w f H2 s2 k2 r2 hs2 q2 => ?_⟩
    refine ⟨σ, s2, _, E.mono (k1.trans k2), hs2, q2, fun u g H3 s3 k3 r3 hs3 q3 => ?_⟩
    obtain ⟨p, kvs, key, rfl, e, hk, hl, q3⟩ := q3
    cases datR r2
    obtain ⟨ws, e1, t⟩ := hs3 _ _ e
    have kp : Kp H3 (upd H3 p (.dK (putK ws key v))) := Kp.write e1 (fun z => z)
    have kk := ((k1.trans k2).trans k3).trans kp
    refine ⟨p, _, rfl, by rw [key_dat r3 hk]; exact DPut.k e1 (by rw [KD.length t]; exact hl), ?_⟩
    refine R.nx _ _ _ _ kk (E.mono kk) (hs3.write kp (fun b hb => upd_ne hb) ?_) q3
    exact ⟨_, upd_same, KD.mono kp (KD.put t (r1.mono (k2.trans k3)))⟩
/-- a list's item is written -/
def dLPut (td ty tv : TD) : TDS := fun D σ s => tv σ s fun z s1 => td σ s1 fun x s2 => ty σ s2 fun y s3 => ∃ a ds i j, x = .ref a ∧ s3 a = some (.lst ds) ∧ y = .int i ∧ ixN ds.length i = some j ∧ D.nx σ (s3.set a (.lst (ds.set j z)))
theorem HS.writeL {H : Hp} {s : S} {a : Addr} {us vs : List V} {ds : List D} (hs : HS H s) (e : H a = some (.lst us)) (r : Dats H vs ds) : HS (upd H a (.lst vs)) (s.set a (.lst ds)) ∧ Kp H (upd H a (.lst vs)) := by
  have kp : Kp H (upd H a (.lst vs)) := Kp.write e (fun z => z)
  exact ⟨hs.write kp (fun b hb => upd_ne hb) ⟨_, upd_same, r.mono kp⟩, kp⟩

/-! ### targets, assignments, blocks -/
abbrev TDG := D → DS → S → (DS → S → Prop) → Prop
abbrev TDGs := List D → DS → S → (DS → S → Prop) → Prop
/-- the slots but sl as they were -/
def Off (sl : List Nat) (σ σ' : L2.St) : Prop := σ'.length = σ.length ∧ ∀ i, i ∉ sl → σ'[i]? = σ[i]?
theorem Off.refl (sl : List Nat) (σ : L2.St) : Off sl σ σ := ⟨rfl, fun _ _ => rfl⟩
theorem Off.trans {sl sl' : List Nat} {σ σ1 σ2 : L2.St} (h : Off sl σ σ1) (h' : Off sl' σ1 σ2) : Off (sl ++ sl') σ σ2 :=
  ⟨h'.1.trans h.1, fun i hi => (h'.2 i fun z => hi (List.mem_append_right _ z)).trans (h.2 i fun z => hi (List.mem_append_left _ z))⟩
def upG (sl : List Nat) (g : TDG) : TG := fun v σV H Q => ∃ (d : D) (σ : DS) (s : S) (Q' : DS → S → Prop), Dat H v d ∧ EnvD H σV σ ∧ HS H s ∧ g d σ s Q' ∧ ∀ σV' σ' H' s', Kp H H' → Off sl σV σV' → EnvD H' σV' σ' → HS H' s' → Q' σ' s' → Q σV' H'
def upGs (sl : List Nat) (g : TDGs) : TGs := fun v σV H Q => ∃ (d : List D) (σ : DS) (s : S) (Q' : DS → S → Prop), Dats H v d ∧ EnvD H σV σ ∧ HS H s ∧ g d σ s Q' ∧ ∀ σV' σ' H' s', Kp H H' → Off sl σV σV' → EnvD H' σV' σ' → HS H' s' → Q' σ' s' → Q σV' H'
theorem PG.weaken {X : Cx} {e : Expr} {t t' : TG} (h : PG X e t) (w : ∀ v σ H Q, t' v σ H Q → t v σ H Q) : PG X e t' := ⟨fun pins s σ H v u Q I r q => h.run pins s σ H v u Q I r (w _ _ _ _ q)⟩
theorem PGs.weaken {X : Cx} {e : List Expr} {t t' : TGs} (h : PGs X e t) (w : ∀ v σ H Q, t' v σ H Q → t v σ H Q) : PGs X e t' := ⟨fun pins s σ H v u Q I r q => h.run pins s σ H v u Q I r (w _ _ _ _ q)⟩
abbrev DG (X : Cx) (e : Expr) (sl : List Nat) (g : TDG) : Prop := PG X e (upG sl g)
abbrev DGs (X : Cx) (es : List Expr) (sl : List Nat) (g : TDGs) : Prop := PGs X es (upGs sl g)
def dgName (i : Nat) : TDG := fun d σ s Q => Q (σ.set i (some d)) s
theorem dg_name (i : Nat) {x : Str} (hN : X.N.Nodup) (hi : X.N[i]? = some x := by rfl) (hx : Loc X.env.scope x := by first | exact Or.inl rfl | exact Or.inr rfl) (hf : X.fn x = true ∨ X.env.scope.names.lookup x = some .local := by first | exact .inl rfl | exact .inr rfl) : DG X (.Name x pos) [i] (dgName i) :=
  PG.weaken (pg_name (i := i) hN hi hx hf) fun v σV H Q h => by
    obtain ⟨d, σ, s, Q', r, E, hs, q, k⟩ := h
    exact k _ _ _ _ (Kp.refl H) ⟨List.length_set .., fun j hj => List.getElem?_set_ne (fun z => hj (by simp [z]))⟩ (E.set i r) hs q
def dgNil : TDGs := fun ds σ s Q => ds = [] ∧ Q σ s
def dgCons (g : TDG) (gs : TDGs) : TDGs := fun ds σ s Q => ∃ d r, ds = d :: r ∧ g d σ s fun σ' s' => gs r σ' s' Q
theorem dgs_nil : DGs X [] [] dgNil := PGs.weaken pgs_nil fun v σV H Q h => by
  obtain ⟨d, σ, s, Q', r, E, hs, ⟨rfl, q⟩, k⟩ := h
  cases r
  exact ⟨rfl, k _ _ _ _ (Kp.refl H) (Off.refl _ _) E hs q⟩
theorem dgs_cons {g : TDG} {gs : TDGs} {sl sl' : List Nat} (h1 : DG X e sl g) (h2 : DGs X es sl' gs) (hs : (assignEach (e :: es) X.env).map (·.2) = assign e X.env :: (assignEach es X.env).map (·.2) := by rfl) : DGs X (e :: es) (sl ++ sl') (dgCons g gs) :=
  PGs.weaken (pgs_cons h1 h2 hs) fun v σV H Q h => by
    obtain ⟨d, σ, s, Q', r, E, hs, ⟨d1, r1, rfl, q⟩, k⟩ := h
    cases r with
    | cons r rr =>
      refine ⟨_, _, rfl, _, σ, s, _, r, E, hs, q, fun σV' σ' H1 s' k1 o1 E1 hs1 q1 => ?_⟩
      exact ⟨_, σ', s', Q', rr.mono k1, E1, hs1, q1, fun a b c d k2 o2 => k a b c d (k1.trans k2) (o1.trans o2)⟩
def dgTup (n : Nat) (gs : TDGs) : TDG := fun d σ s Q => ∃ ds, d = .tup ds ∧ ds.length = n ∧ gs ds σ s Q
theorem dg_tup {gs : TDGs} {sl : List Nat} {n k : Nat} (hc : X.calm = true) (h : DGs X es sl gs) (hn : (assignEach es X.env).length = n := by rfl) (hst : (assignEach es X.env).findIdx? (·.1) = none := by rfl) : DG X (.Tuple es k pos) sl (dgTup n gs) :=
  PG.weaken (pg_tup hc h hn hst) fun v σV H Q h => by
    obtain ⟨d, σ, s, Q', r, E, hs, ⟨ds, rfl, hl, q⟩, k⟩ := h
    obtain ⟨p, vs, rfl, e, t⟩ := datT r
    exact ⟨p, vs, rfl, SqT.of e, by rw [t.length]; exact hl, ds, σ, s, Q', t, E, hs, q, k⟩
theorem dg_lput (hb : DE X b tb) (ha : DE X a ta) (h' : ∀ v, assign (.Subscript a b pos) X.env v = (do
      let ov ← holding [v] (eval a X.env)
      let iv ← holding [v, ov] (eval b X.env)
      standAt pos
      holding [v, ov, iv] (setItem ov iv v)
      release [v, ov, iv] []) := by intro _; rfl) :
    DG X (.Subscript a b pos) [] (fun z σ s Q => ta σ s fun x s2 => tb σ s2 fun y s3 => ∃ a ds i j, x = .ref a ∧ s3 a = some (.lst ds) ∧ y = .int i ∧ ixN ds.length i = some j ∧ Q σ (s3.set a (.lst (ds.set j z)))) :=
  PG.weaken (pg_sub ha hb set_list h') fun v σV H Q h => by
    obtain ⟨z, σ, s, Q', r, E, hs, q, k⟩ := h
    refine ⟨σ, s, _, E, hs, q, fun w f H2 s2 k2 r2 hs2 q2 => ?_⟩
    refine ⟨σ, s2, _, E.mono k2, hs2, q2, fun u g H3 s3 k3 r3 hs3 q3 => ?_⟩
    obtain ⟨p, ds, i, j, rfl, e, rfl, hj, q3⟩ := q3
    cases datR r2; cases datI r3
    obtain ⟨us, e1, t⟩ := hs3 _ _ e
    have rz := r.mono (k2.trans k3)
    obtain ⟨w1, w2⟩ := hs3.writeL e1 (t.set rz j)
    refine ⟨p, us, i, j, rfl, rfl, e1, by rw [t.length]; exact hj, ?_⟩
    exact k _ _ _ _ ((k2.trans k3).trans w2) (Off.refl _ _) (E.mono ((k2.trans k3).trans w2)) w1 q3
def dAsg (te : TD) (g : TDG) : TDS := fun D σ s => te σ s fun x s1 => g x σ s1 D.nx
theorem lift_asg {g : TDG} {sl : List Nat} : ∀ D σV H, upS (dAsg te g) D σV H → tAsg (upE te) (upG sl g) D σV H := fun D σV H h => by
  obtain ⟨σ, s, D', E, hs, q, R⟩ := h
  refine ⟨σ, s, _, E, hs, q, fun v d H1 s1 k1 r1 hs1 q1 => ?_⟩
  exact ⟨d, σ, s1, _, r1, E.mono k1, hs1, q1, fun a b c d k2 _ => R.nx a b c d (k1.trans k2)⟩
theorem ds_asg {tg : Expr} {g : TDG} {sl : List Nat} (he : DE X e te) (hg : DG X tg sl g) (hs : swapsWithSole [tg] e pos.line X.env = pure false := by rfl) (hw : swappedStores [tg] e X.env = pure none := by rfl)
    (h1 : (assignEach [tg] X.env).map (·.2) = [assign tg X.env] := by rfl) : DSt X (.Assign [tg] e pos) (dAsg te g) := PS.weaken (ps_asg he hg hs hw h1) lift_asg
def dSeq (t u : TDS) : TDS := fun D σ s => t { D with nx := u D } σ s
def dNext : TDS := fun D σ s => D.nx σ s
theorem dss_nil : DSs X [] dNext := PSs.weaken pss_nil fun D σV H h => by
  obtain ⟨σ, s, D', E, hs, q, R⟩ := h
  exact R.nx _ _ _ _ (Kp.refl H) E hs q
variable {st : Stmt} {sts : List Stmt} {tS uS : TDS}
theorem dss_cons (h1 : DSt X st tS) (h2 : DSs X sts uS) : DSs X (st :: sts) (dSeq tS uS) := PSs.weaken (pss_cons h1 h2) fun D σV H h => by
  obtain ⟨σ, s, D', E, hs, q, R⟩ := h
  exact ⟨σ, s, _, E, hs, q, ⟨fun a b H1 s1 k E1 hs1 q1 => ⟨b, s1, D', E1, hs1, q1, R.mono k⟩, R.rt, R.bk, R.ct⟩⟩
theorem dss_one (h1 : DSt X st tS) : DSs X [st] tS := pss_one h1
def dBreak : TDS := fun D σ s => D.bk σ s
def dCont : TDS := fun D σ s => D.ct σ s
theorem ds_pass : DSt X (.Pass pos) dNext := PS.weaken ps_pass fun D σV H h => by
  obtain ⟨σ, s, D', E, hs, q, R⟩ := h
  exact R.nx _ _ _ _ (Kp.refl H) E hs q
theorem ds_break : DSt X (.Break pos) dBreak := PS.weaken ps_break fun D σV H h => by
  obtain ⟨σ, s, D', E, hs, q, R⟩ := h
  exact R.bk _ _ _ _ (Kp.refl H) E hs q
theorem ds_continue : DSt X (.Continue pos) dCont := PS.weaken ps_continue fun D σV H h => by
  obtain ⟨σ, s, D', E, hs, q, R⟩ := h
  exact R.ct _ _ _ _ (Kp.refl H) E hs q
def dDrop (te : TD) : TDS := fun D σ s => te σ s fun _ s1 => D.nx σ s1
theorem ds_expr (he : DE X e te) (hs : swapsWith e none pos.line X.env = pure false := by rfl) : DSt X (.Expr e pos) (dDrop te) := PS.weaken (ps_expr he hs) fun D σV H h => by
  obtain ⟨σ, s, D', E, hs, q, R⟩ := h
  exact ⟨σ, s, _, E, hs, q, fun v d H1 s1 k1 r1 hs1 q1 => R.nx _ _ _ _ k1 (E.mono k1) hs1 q1⟩
def dRet (te : TD) : TDS := fun D σ s => te σ s D.rt
theorem ds_ret (he : DE X e te) : DSt X (.Return (some e) pos) (dRet te) := PS.weaken (ps_ret he) fun D σV H h => by
  obtain ⟨σ, s, D', E, hs, q, R⟩ := h
  exact ⟨σ, s, _, E, hs, q, fun v d H1 s1 k1 r1 hs1 q1 => R.rt _ _ _ _ k1 r1 hs1 q1⟩
def dRetN : TDS := fun D _ s => D.rt .non s
theorem ds_retN : DSt X (.Return none pos) dRetN := PS.weaken ps_retN fun D σV H h => by
  obtain ⟨σ, s, D', E, hs, q, R⟩ := h
  exact R.rt _ _ _ _ (Kp.refl H) .non hs q
def dIfS (c : TDT) (t u : TDS) : TDS := fun D σ s => c σ s fun b s1 => if b = true then t D σ s1 else u D σ s1
theorem ds_if {c : Expr} {sa sb : List Stmt} {tc : TDT} (hc : DT X c tc) (ha : DSs X sa tS) (hb : DSs X sb uS) : DSt X (.If c sa sb pos) (dIfS tc tS uS) := PS.weaken (ps_if hc ha hb) fun D σV H h => by
  obtain ⟨σ, s, D', E, hs, q, R⟩ := h
  refine ⟨σ, s, _, E, hs, q, fun b H1 s1 k1 hs1 q1 => ?_⟩
  cases b with
  | true => exact ⟨σ, s1, D', E.mono k1, hs1, q1, R.mono k1⟩
  | false => exact ⟨σ, s1, D', E.mono k1, hs1, q1, R.mono k1⟩
/-- x += e -/
def dAug (i : Nat) (te : TD) (ρ : RD2) : TDS := fun D σ s => ∃ x, σ[i]? = some (some x) ∧ te σ s fun y s1 => ρ x y s1 fun z s2 => D.nx (σ.set i (some z)) s2
theorem pip_or {op : Operator} {r r' : TIp} (h : PIp X op r) (h' : PIp X op r') : PIp X op (fun x y H Q => r x y H Q ∨ r' x y H Q) := fun pins s σ H x y v u Q I rx ry q => by
  rcases q with q | q
  · exact h pins s σ H x y v u Q I rx ry q
  · exact h' pins s σ H x y v u Q I rx ry q
theorem pip_of {op : Operator} {r : R2} (h : OpR X (inplaceOp op) r) : PIp X op r := h
theorem ds_aug {x : Str} {pos' : Pos} {op : Operator} {r : R2} {ρ : RD2} (ho : PIp X op r) (l : Lift2 r ρ) (i : Nat) (hN : X.N.Nodup) (he : DE X e te) (hi : X.N[i]? = some x := by rfl) (hx : Loc X.env.scope x := by first | exact Or.inl rfl | exact Or.inr rfl)
    (hf : X.fn x = true ∨ X.env.scope.names.lookup x = some .local := by first | exact .inl rfl | exact .inr rfl) : DSt X (.AugAssign (.Name x pos') op e pos) (dAug i te ρ) :=
  PS.weaken (ps_aug hN hi hx he ho hf) fun D σV H h => by
    obtain ⟨σ, s, D', E, hs, ⟨d, ed, q⟩, R⟩ := h
    obtain ⟨v, ev, r0⟩ := E.get i d ed
    refine ⟨v, ev, σ, s, _, E, hs, q, fun w f H1 s1 k1 r1 hs1 q1 => ?_⟩
    exact l v w d f H1 s1 _ _ (r0.mono k1) r1 hs1 q1 fun z g H2 s2 k2 rz hs2 q2 => R.nx _ _ _ _ (k1.trans k2) ((E.mono (k1.trans k2)).set i rz) hs2 q2
def rIAdd : RD2
  | .int i, .int j, s, Q => Q (.int (i + j)) s
  | .str x, .str y, s, Q => x.length + y.length ≤ sizeLine ∧ Q (.str (x ++ y)) s
  | .ref l, .ref m, s, Q => ∃ xs ys, s l = some (.lst xs) ∧ s m = some (.lst ys) ∧ xs.length + ys.length ≤ sizeLine ∧ Q (.ref l) (s.set l (.lst (xs ++ ys)))
  | _, _, _, _ => False
theorem lift_iadd : Lift2 (fun x y H Q => ((rI0 fun i j => .int (i + j)) x y H Q ∨ (∃ i j, x = .str i ∧ y = .str j ∧ i.length + j.length ≤ sizeLine ∧ Q (.str (i ++ j)) H)) ∨ rExt2 x y H Q) rIAdd := fun v w d f H s Q Q' r1 r2 hs q k => by
  cases d with
  | int i => cases f with
    | int j => cases datI r1; cases datI r2; exact .inl (.inl ⟨i, j, rfl, rfl, k _ _ _ _ (Kp.refl H) (.int _) hs q⟩)
    | _ => exact q.elim
  | str i => cases f with
    | str j => cases datS r1; cases datS r2; exact .inl (.inr ⟨i, j, rfl, rfl, q.1, k _ _ _ _ (Kp.refl H) (.str _) hs q.2⟩)
    | _ => exact q.elim
  | ref l => cases f with
    | ref m =>
      cases datR r1; cases datR r2
      obtain ⟨xs, ys, h1, h2, hl, q⟩ := q
      obtain ⟨v1, e1, t1⟩ := hs _ _ h1
      obtain ⟨v2, e2, t2⟩ := hs _ _ h2
      obtain ⟨w1, w2⟩ := hs.writeL e1 (t1.append t2)
      exact .inr ⟨l, m, v1, v2, rfl, rfl, e1, e2, by rw [t1.length, t2.length]; exact hl, k _ _ _ _ w2 (.ref l) w1 q⟩
    | _ => exact q.elim
  | _ => exact q.elim
theorem ds_iadd {x : Str} {pos' : Pos} (i : Nat) (hN : X.N.Nodup) (he : DE X e te) (hi : X.N[i]? = some x := by rfl) (hx : Loc X.env.scope x := by first | exact Or.inl rfl | exact Or.inr rfl)
    (hf : X.fn x = true ∨ X.env.scope.names.lookup x = some .local := by first | exact .inl rfl | exact .inr rfl) : DSt X (.AugAssign (.Name x pos') .Add e pos) (dAug i te rIAdd) :=
  ds_aug (pip_or (pip_or (pip_of iop_add) (pip_of iop_add_str)) (pip_of iop_ext)) lift_iadd i hN he hi hx hf

/-! ### arguments, displays, calls -/
def daNil : TDA := fun _ s Q => Q [] s
def daCons (ta : TD) (tr : TDA) : TDA := fun σ s Q => ta σ s fun x s1 => tr σ s1 fun xs s2 => Q (x :: xs) s2
theorem da_nil : DA X [] daNil := PA.weaken pa_nil fun σV H Q h => by
  obtain ⟨σ, s, Q', E, hs, q, k⟩ := h
  exact k _ _ _ _ (Kp.refl H) .nil hs q
theorem da_cons (ha : DE X e te) (hr : DA X es t) (hs : starEach (e :: es) X.env = (false, eval e X.env) :: starEach es X.env := by rfl) : DA X (e :: es) (daCons te t) := PA.weaken (pa_cons ha hr hs) fun σV H Q h => by
  obtain ⟨σ, s, Q', E, hs, q, k⟩ := h
  refine ⟨σ, s, _, E, hs, q, fun v d H1 s1 k1 r1 hs1 q1 => ?_⟩
  exact ⟨σ, s1, _, E.mono k1, hs1, q1, fun vs ds H2 s2 k2 r2 hs2 q2 => k _ _ _ _ (k1.trans k2) (.cons (r1.mono k2) r2) hs2 q2⟩
def dTup (t : TDA) : TD := fun σ s Q => t σ s fun xs s1 => xs.length ≤ sizeLine ∧ Q (.tup xs) s1
def dLst (t : TDA) : TD := fun σ s Q => t σ s fun xs s1 => xs.length ≤ sizeLine ∧ ∀ p, s1 p = none → Q (.ref p) (s1.set p (.lst xs))
theorem de_tup {x1} (h : DA X es t) : DE X (.Tuple es x1 pos) (dTup t) := PE.weaken (pe_tup h) fun σV H Q h => by
  obtain ⟨σ, s, Q', E, hs, q, k⟩ := h
  refine ⟨σ, s, _, E, hs, q, fun vs ds H1 s1 k1 r1 hs1 q1 => ⟨by rw [r1.length]; exact q1.1, fun p hp => ?_⟩⟩
  have kp : Kp H1 (upd H1 p (.tup vs)) := Kp.alloc hp
  exact k _ _ _ _ (k1.trans kp) (.tup upd_same (r1.mono kp)) (hs1.alloc hp) q1.2
theorem de_lst (h : DA X es t) : DE X (.List es pos) (dLst t) := PE.weaken (pe_lst h) fun σV H Q h => by
  obtain ⟨σ, s, Q', E, hs, q, k⟩ := h
  refine ⟨σ, s, _, E, hs, q, fun vs ds H1 s1 k1 r1 hs1 q1 => ⟨by rw [r1.length]; exact q1.1, fun p hp => ?_⟩⟩
  exact k _ _ _ _ (k1.trans (Kp.alloc hp)) (.ref p) (hs1.laidL hp r1) (q1.2 p (hs1.none hp))
/-- a dict of written text keys -/
def dPairs : List (Key × TD) → DS → S → (List (Key × D) → S → Prop) → Prop
  | [], _, s, Q => Q [] s
  | (k, tv) :: r, σ, s, Q => tv σ s fun y s1 => dPairs r σ s1 fun ps s2 => Q ((k, y) :: ps) s2
def dDisp (trs : List (Key × TD)) : TD := fun σ s Q => ∀ p, s p = none → dPairs trs σ (s.set p (.dic [])) fun ps s2 => s2 p = some (.dic []) ∧ Q (.ref p) (s2.set p (.dic (ps.foldl (fun acc kv => putD acc kv.1 kv.2) [])))
def upPairs (trs : List (Key × TD)) : List (TE × TE) := trs.map fun kt => (tC (kV kt.1), upE kt.2)
theorem KD.merge {H : Hp} : ∀ {more : List (Key × V)} {more' : List (Key × D)} {ws : List (Key × V)} {kvs : List (Key × D)}, KD H more more' → KD H ws kvs → KD H (mergeK ws more) (more'.foldl (fun acc kv => putD acc kv.1 kv.2) kvs)
  | _, _, _, _, .nil, t => t
  | (k1, v1) :: more, (k2, d2) :: more', ws, kvs, .cons r q, t => by
    obtain ⟨e, r⟩ := r
    have e : k1 = k2 := e
    subst e
    exact KD.merge (more := more) (more' := more') q (KD.put t r)
theorem lift_pairs {σV : St} {σ : DS} : ∀ {trs : List (Key × TD)} {H : Hp} {s : S} {Q : List (V × V) → Hp → Prop} {Q' : List (Key × D) → S → Prop}, EnvD H σV σ → HS H s → dPairs trs σ s Q' →
    (∀ (ws : List (Key × V)) (kvs : List (Key × D)) H' s', Kp H H' → KD H' ws kvs → ws.length = trs.length → HS H' s' → Q' kvs s' → Q (ws.map fun kv => (kV kv.1, kv.2)) H') → tPairs (upPairs trs) σV H Q
  | [], H, s, Q, Q', E, hs, q, k => k [] [] H s (Kp.refl H) .nil rfl hs q
  | (key, tv) :: r, H, s, Q, Q', E, hs, q, k => by
    show upE tv σV H _
    refine ⟨σ, s, _, E, hs, q, fun v d H1 s1 k1 r1 hs1 q1 => ?_⟩
    refine lift_pairs (trs := r) (E.mono k1) hs1 q1 fun ws kvs H2 s2 k2 t hl hs2 q2 => ?_
    exact k ((key, v) :: ws) ((key, d) :: kvs) H2 s2 (k1.trans k2) (.cons ⟨rfl, r1.mono k2⟩ t) (congrArg Nat.succ hl) hs2 q2
structure DPs (X : Cx) (pos : Pos) (keys : List (Option Expr)) (values : List Expr) (trs : List (Key × TD)) : Prop where
  ps : PPs X pos keys values (upPairs trs)
theorem dps_nil : DPs X pos [] [] [] := ⟨pps_nil⟩
theorem dps_cons {x : Str} {j : Nat} {p2 : Pos} {v : Expr} {ks : List (Option Expr)} {vs : List Expr} {tv : TD} {trs : List (Key × TD)} (hv : DE X v tv) (hr : DPs X pos ks vs trs) :
    DPs X pos (some (.Constant (.str x) j p2) :: ks) (v :: vs) ((.inr x, tv) :: trs) := ⟨pps_cons pe_str hv hr.ps⟩
theorem dps_consI {x : Int} {j : Nat} {p2 : Pos} {v : Expr} {ks : List (Option Expr)} {vs : List Expr} {tv : TD} {trs : List (Key × TD)} (hv : DE X v tv) (hr : DPs X pos ks vs trs) :
    DPs X pos (some (.Constant (.int x) j p2) :: ks) (v :: vs) ((.inl x, tv) :: trs) := ⟨pps_cons pe_int hv hr.ps⟩
theorem de_disp {keys : List (Option Expr)} {values : List Expr} {trs : List (Key × TD)} (h : DPs X pos keys values trs) (hall : keys.all (·.isSome) = true := by rfl) (hl : keys.length = values.length := by rfl) (h0 : keys ≠ [] := by exact fun z => by cases z)
    (h15 : keys.length ≤ 15 := by decide) (ht : trs.length ≤ 15 := by decide) : DE X (.Dict keys values pos) (dDisp trs) := PE.weaken (pe_disp h.ps hall hl h0 h15) fun σV H Q h => by
  obtain ⟨σ, s, Q', E, hs, q, k⟩ := h
  intro p hp
  have kp : Kp H (upd H p (.dK [])) := Kp.alloc hp
  refine lift_pairs (E.mono kp) (hs.laid hp (c := .dic []) ⟨[], upd_same, .nil⟩) (q p (hs.none hp)) fun ws kvs H2 s2 k2 t hlen hs2 q2 => ?_
  obtain ⟨e2, q2⟩ := q2
  obtain ⟨ws0, e3, t0⟩ := hs2 _ _ e2
  cases t0
  have kp2 : Kp H2 (upd H2 p (.dK (mergeK [] ws))) := Kp.write e3 (fun z => z)
  refine ⟨e3, ws, rfl, by rw [hlen]; exact ht, k _ _ _ _ ((kp.trans k2).trans kp2) (.ref p) (hs2.write kp2 (fun b hb => upd_ne hb) (show CellAt _ _ (.dic _) from ⟨_, upd_same, KD.mono kp2 (KD.merge t .nil)⟩)) q2⟩
theorem de_dict0 : DE X (.Dict [] [] pos) (fun _ s Q => ∀ p, s p = none → Q (.ref p) (s.set p (.dic []))) := PE.weaken pe_dnewK fun σV H Q h => by
  obtain ⟨σ, s, Q', E, hs, q, k⟩ := h
  intro p hp
  exact k _ _ _ _ (Kp.alloc hp) (.ref p) (hs.laid hp (c := .dic []) ⟨[], upd_same, .nil⟩) (q p (hs.none hp))
end DL

set_option maxHeartbeats 4000000
namespace DL
open PySem PySem.Spec L2
variable {X : Cx} {a b c e : Expr} {es : List Expr} {ta tb tc te : TD} {t : TDA} {pos : Pos}

/-! ### defs: what is known of them, calls -/
abbrev DSp := List D → S → QD → Prop
def upSp (sp : DSp) : Sp := fun vs H Q _ => ∃ (ds : List D) (s : S) (Q' : QD), Dats H vs ds ∧ HS H s ∧ sp ds s Q' ∧ ∀ v d H' s', Kp H H' → Dat H' v d → HS H' s' → Q' d s' → Q v H'
structure Known (P : Program) (w : World) (K : PySem.W.Frag) (mg : Str → Option Value) (base : Heap) (k : Nat) (x : Str) (sp : DSp) : Prop where
  ex : ∃ (f : Addr) (fd : FuncData) (ps : List Str), FnOk P w K mg base CX0 k f fd ps (upSp sp) ∧ mg x = some (.ref f) ∧ PySem.W.keepIn K (.ref f) = true ∧ Binds K fd ps []
theorem Known.mono {P : Program} {w : World} {K : PySem.W.Frag} {mg : Str → Option Value} {base : Heap} {j k : Nat} {x : Str} {sp : DSp} (F : Known P w K mg base j x sp) (h : j ≤ k) : Known P w K mg base k x sp := by
  obtain ⟨f, fd, ps, F, r⟩ := F.ex
  exact ⟨f, fd, ps, F.mono h, r⟩
theorem Known.imp {P : Program} {w : World} {K : PySem.W.Frag} {mg : Str → Option Value} {base : Heap} {k : Nat} {x : Str} {sp sp' : DSp} (F : Known P w K mg base k x sp) (h : ∀ ds s Q, sp' ds s Q → sp ds s Q) : Known P w K mg base k x sp' := by
  obtain ⟨f, fd, ps, F, r⟩ := F.ex
  exact ⟨f, fd, ps, F.imp fun vs H Q E ⟨ds, s, Q', r, hs, q, k⟩ => ⟨ds, s, Q', r, hs, h _ _ _ q, k⟩, r⟩
def dCall (sp : DSp) (t : TDA) : TD := fun σ s Q => t σ s fun ds s1 => sp ds s1 Q
theorem de_call {k : Nat} {x : Str} {sp : DSp} {p : Pos} (G : Known X.prog X.w X.K X.mg X.base k x sp) (hr : Room k X.A) (hg : Gl X x) (ha : DA X (e :: es) t) (hdb : (x == ("__debug__" : Str)) = false := by decide)
    (he : starEach (e :: es) X.env = (false, eval e X.env) :: starEach es X.env := by rfl) (hpl : (backTo pos (starEach es X.env)).any (·.1) = false := by rfl) : DE X (.Call (.Name x p) (e :: es) [] pos) (dCall sp t) := by
  obtain ⟨f, fd, ps, F, hm, kp, hb⟩ := G.ex
  refine PE.weaken (pe_call F hr hg hm kp hb .nil pass0 ha hdb he hpl) fun σV H Q h => ?_
  obtain ⟨σ, s, Q', E, hs, q, k⟩ := h
  refine ⟨σ, s, _, E, hs, q, fun vs ds H1 s1 k1 r1 hs1 q1 => ?_⟩
  exact ⟨ds, s1, Q', by simpa using r1, hs1, q1, fun v d H2 s2 k2 => k v d H2 s2 (k1.trans k2)⟩
/-- a body's slots at the entry -/
def startD (N : List Str) (ds : List D) : DS := ds.map some ++ List.replicate (N.length - ds.length) none
theorem Dats.env {H : Hp} {vs : List V} {ds : List D} (r : Dats H vs ds) (N : List Str) : EnvD H (L2.start N vs) (startD N ds) := by
  unfold L2.start startD
  refine ⟨by simp [r.length], fun i d e => ?_⟩
  by_cases hi : i < ds.length
  · rw [List.getElem?_append_left (by simpa using hi), List.getElem?_map] at e
    have hi2 : i < vs.length := by rw [r.length]; exact hi
    rw [List.getElem?_append_left (by simpa using hi2), List.getElem?_map]
    cases q : ds[i]? with
    | none => rw [q] at e; cases e
    | some g =>
      rw [q] at e; cases e
      obtain ⟨v, h1, h2⟩ := r.get q
      exact ⟨v, by rw [h1]; rfl, h2⟩
  · rw [List.getElem?_append_right (by simpa using hi), List.getElem?_replicate] at e
    split at e <;> cases e
/-- what a body's end wants: the store may hold more -/
def endsOf (Q : QD) : EndsD := { nx := fun _ s' => ∃ s'', Sub s'' s' ∧ Q .non s'', rt := fun d s' => ∃ s'', Sub s'' s' ∧ Q d s'' }
theorem fnOk_of {P : Program} {w : World} {K : PySem.W.Frag} {mg : Str → Option Value} {base : Heap} {x qual : Str} {params : Arguments} {body : List Stmt} {scope : Scope} {dvs : List V} {f : Addr} {fd : FuncData} {N ps : List Str} {k : Nat} {sp : DSp}
    (F : FunD K x qual params body scope dvs [] f fd) (S : FnScope N ps scope) (len : ∀ ds s Q, sp ds s Q → ds.length = ps.length)
    (hbody : ∀ (cdv : Value) (A : Around) (outer : List PySem.Env) (s : Shared) (H : Hp) (E : XK), Room k (A.deeper (PyProof.Rows.envOfC qual scope s.heap.objs.size f cdv)) →
      ∃ t : TDS, DSs (cxOf CX0 P w K mg base N qual scope f cdv A outer s H E).nox body t ∧ ∀ ds s Q, sp ds s Q → t (endsOf Q) (startD N ds) s) : FnOk P w K mg base CX0 (k + 1) f fd ps (upSp sp) := by
  refine F.ok S (fun vs H Q E h => ?_) (fun cdv A outer s H vs Q E hr h => ?_)
  · obtain ⟨ds, s, Q', r, _, h, _⟩ := h
    rw [r.length]; exact len _ _ _ h
  · obtain ⟨ds, s', Q', r, hs, h, k⟩ := h
    obtain ⟨t, ht, q⟩ := hbody cdv A outer s H E hr
    refine ⟨_, ht.nox, startD N ds, s', endsOf Q', r.env N, hs, q ds s' Q' h, ?_⟩
    refine ⟨fun a b H1 s1 k1 E1 hs1 q1 => ?_, fun v d H1 s1 k1 r1 hs1 q1 => ?_, fun a b H1 s1 k1 E1 hs1 q1 => q1.elim, fun a b H1 s1 k1 E1 hs1 q1 => q1.elim⟩
    · obtain ⟨s2, u, q2⟩ := q1
      exact k _ _ _ _ k1 .non (hs1.sub u) q2
    · obtain ⟨s2, u, q2⟩ := q1
      exact k _ _ _ _ k1 r1 (hs1.sub u) q2
theorem known_of {P : Program} {w : World} {K : PySem.W.Frag} {mg : Str → Option Value} {base : Heap} {x qual : Str} {params : Arguments} {body : List Stmt} {scope : Scope} {f : Addr} {fd : FuncData} {N ps : List Str} {k : Nat} {sp : DSp}
    (F : FunD K x qual params body scope [] [] f fd) (gm : mg x = some (.ref f)) (S : FnScope N ps scope) (hb : Binds K fd ps []) (len : ∀ ds s Q, sp ds s Q → ds.length = ps.length)
    (hbody : ∀ (cdv : Value) (A : Around) (outer : List PySem.Env) (s : Shared) (H : Hp) (E : XK), Room k (A.deeper (PyProof.Rows.envOfC qual scope s.heap.objs.size f cdv)) →
      ∃ t : TDS, DSs (cxOf CX0 P w K mg base N qual scope f cdv A outer s H E).nox body t ∧ ∀ ds s Q, sp ds s Q → t (endsOf Q) (startD N ds) s) : Known P w K mg base (k + 1) x sp :=
  ⟨f, fd, ps, fnOk_of F S len hbody, gm, F.kp, hb⟩
/-- the law's entry: its script -/
theorem entry {K : PySem.W.Frag} {H : Hp} {a : Addr} {ns : List Int} {sp : DSp} (hO : Only H) (hS : SqL K H a (ns.map V.int)) {E : XK}
    (h : ∀ s, (s a = some (.lst (ns.map .int)) ∨ s a = some (.ro (ns.map .int)) ∨ KRo K a (ns.map .int)) → sp [.ref a] s fun d _ => d = .bl true) : upSp sp [.ref a] H (fun v _ => v = .bl true) E := by
  have fin : ∀ (v : V) (d : D) (H' : Hp) (s' : S), Kp H H' → Dat H' v d → HS H' s' → d = .bl true → v = .bl true := fun v d H' s' _ r _ e => by subst e; exact datB r
  rcases hS with (h1 | ⟨o, h1⟩) | h1
  · rcases hO a with e | ⟨o, xs, e⟩
    · rw [e] at h1; cases h1
    · rw [e] at h1; cases h1
  · refine ⟨[.ref a], fun b => if b = a then some (.ro (ns.map .int)) else none, _, .cons (.ref a) .nil, fun b c e => ?_, h _ (.inr (.inl (if_pos rfl))), fin⟩
    by_cases hb : b = a
    · subst hb
      have e : (if b = b then some (C.ro (ns.map .int)) else none) = some c := e
      rw [if_pos rfl] at e
      cases e
      exact ⟨ns.map V.int, o, h1, Dats.of_ints ns⟩
    · have e : (if b = a then some (C.ro (ns.map .int)) else none) = some c := e
      rw [if_neg hb] at e; cases e
  · refine ⟨[.ref a], fun _ => none, _, .cons (.ref a) .nil, fun b c e => (by cases e), h _ (.inr (.inr fun H' => ⟨ns.map V.int, .inr h1, Dats.of_ints ns⟩)), fin⟩

/-! ### built-ins by values -/
abbrev RC := List D → S → QD → Prop
def LiftC (r : List V → Hp → VK → Prop) (ρ : RC) : Prop := ∀ vs ds H s Q Q', Dats H vs ds → HS H s → ρ ds s Q' → (∀ v d H' s', Kp H H' → Dat H' v d → HS H' s' → Q' d s' → Q v H') → r vs H Q
def dCB (ρ : RC) (t : TDA) : TD := fun σ s Q => t σ s fun ds s1 => ρ ds s1 Q
theorem lift_cb {r : List V → Hp → VK → Prop} {ρ : RC} (l : LiftC r ρ) : ∀ σV H Q, upE (dCB ρ t) σV H Q → tCB r (upA t) σV H Q := fun σV H Q h => by
  obtain ⟨σ, s, Q', E, hs, q, k⟩ := h
  exact ⟨σ, s, _, E, hs, q, fun vs ds H1 s1 k1 r1 hs1 q1 => l _ _ _ _ _ _ r1 hs1 q1 fun v d H2 s2 k2 => k v d H2 s2 (k1.trans k2)⟩
theorem callR_or {f : Value} {r r' : List V → Hp → VK → Prop} (h : CallR X f r) (h' : CallR X f r') : CallR X f (fun xs H Q => r xs H Q ∨ r' xs H Q) := fun pins s σ H xs us Q I r q => by
  rcases q with q | q
  · exact h pins s σ H xs us Q I r q
  · exact h' pins s σ H xs us Q I r q
section
variable {x : Str} {p : Pos}
theorem de_callB {id : String} {r : List V → Hp → VK → Prop} {ρ : RC} (hc : CallR X (.builtin id) r) (l : LiftC r ρ) (hg : Gl X x) (hm : X.mg x = none) (hv : bootBuiltins x = some (.builtin id)) (ha : DA X (e :: es) t) (hn : x ≠ "__name__" := by decide) (hdb : (x == ("__debug__" : Str)) = false := by decide)
    (he : starEach (e :: es) X.env = (false, eval e X.env) :: starEach es X.env := by rfl) (hpl : (backTo pos (starEach es X.env)).any (·.1) = false := by rfl) : DE X (.Call (.Name x p) (e :: es) [] pos) (dCB ρ t) :=
  PE.weaken (pe_callB hc hg hm hv ha hn hdb he hpl) (lift_cb l)
theorem de_callTy {T : String} {r : List V → Hp → VK → Prop} {ρ : RC} (hc : CallR X (.type T) r) (l : LiftC r ρ) (hg : Gl X x) (hm : X.mg x = none) (hv : bootBuiltins x = some (.type T)) (ha : DA X (e :: es) t) (hn : x ≠ "__name__" := by decide) (hdb : (x == ("__debug__" : Str)) = false := by decide)
    (he : starEach (e :: es) X.env = (false, eval e X.env) :: starEach es X.env := by rfl) (hpl : (backTo pos (starEach es X.env)).any (·.1) = false := by rfl) : DE X (.Call (.Name x p) (e :: es) [] pos) (dCB ρ t) :=
  PE.weaken (pe_callTy hc hg hm hv ha hn hdb he hpl) (lift_cb l)
end
theorem dats1 {H : Hp} {vs : List V} {d : D} (r : Dats H vs [d]) : ∃ v, vs = [v] ∧ Dat H v d := by cases r with | cons h r => cases r; exact ⟨_, rfl, h⟩
theorem dats2 {H : Hp} {vs : List V} {d f : D} (r : Dats H vs [d, f]) : ∃ v w, vs = [v, w] ∧ Dat H v d ∧ Dat H w f := by
  cases r with | cons h r => cases r with | cons g r => cases r; exact ⟨_, _, rfl, h, g⟩
def lenOf : Option C → Option Nat
  | some (.lst ds) => some ds.length
  | some (.dic kvs) => some kvs.length
  | _ => none
def rLenD : RC
  | [.str z], s, Q => z.length ≤ sizeLine ∧ Q (.int z.length) s
  | [.tup ds], s, Q => Q (.int ds.length) s
  | [.ref p], s, Q => ∃ n, lenOf (s p) = some n ∧ Q (.int (n : Nat)) s
  | _, _, _ => False
theorem lift_len (K : PySem.W.Frag) : LiftC (fun xs H Q => (∃ x n, xs = [x] ∧ LenV K x H n ∧ Q (.int n) H) ∨ ∃ a kvs, xs = [V.ref a] ∧ H a = some (.dK kvs) ∧ Q (.int kvs.length) H) rLenD := fun vs ds H s Q Q' r hs q k => by
  have fin : ∀ c, Q' (.int c) s → Q (.int c) H := fun c q => k _ _ _ _ (Kp.refl H) (.int _) hs q
  match ds, q with
  | [.str z], q => obtain ⟨v, rfl, r'⟩ := dats1 r; cases datS r'; exact .inl ⟨.str z, _, rfl, ⟨q.1, rfl⟩, fin _ q.2⟩
  | [.tup ds], q =>
    obtain ⟨v, rfl, r'⟩ := dats1 r
    obtain ⟨p, vs, rfl, e, t⟩ := datT r'
    exact .inl ⟨.ref p, _, rfl, Or.inr ⟨vs, SqT.of e, rfl⟩, by rw [t.length]; exact fin _ q⟩
  | [.ref p], q =>
    obtain ⟨v, rfl, r'⟩ := dats1 r
    cases datR r'
    obtain ⟨n, e, q⟩ := q
    cases e3 : s p with
    | none => rw [e3] at e; cases e
    | some c =>
      rw [e3] at e
      cases c with
      | lst ds =>
        cases e
        obtain ⟨vs, e1, t⟩ := hs _ _ e3
        exact .inl ⟨.ref p, _, rfl, Or.inl ⟨vs, SqL.of e1, rfl⟩, by rw [t.length]; exact fin _ q⟩
      | dic kvs =>
        cases e
        obtain ⟨ws, e1, t⟩ := hs _ _ e3
        exact .inr ⟨_, _, rfl, e1, by rw [KD.length t]; exact fin _ q⟩
      | ro ds => cases e
theorem de_len {p : Pos} (hg : Gl X "len") (hm : X.mg "len" = none) (ha : DA X (e :: es) t) (he : starEach (e :: es) X.env = (false, eval e X.env) :: starEach es X.env := by rfl) (hpl : (backTo pos (starEach es X.env)).any (·.1) = false := by rfl) :
    DE X (.Call (.Name "len" p) (e :: es) [] pos) (dCB rLenD t) := de_callB (callR_or call_len call_lenD) (lift_len X.K) hg hm PySem.boot_len ha (by decide) (by decide) he hpl
def rAbs : RC
  | [.int i], s, Q => Q (.int (if i < 0 then -i else i)) s
  | _, _, _ => False
theorem de_abs {p : Pos} (hg : Gl X "abs") (hm : X.mg "abs" = none) (ha : DA X (e :: es) t) (he : starEach (e :: es) X.env = (false, eval e X.env) :: starEach es X.env := by rfl) (hpl : (backTo pos (starEach es X.env)).any (·.1) = false := by rfl) :
    DE X (.Call (.Name "abs" p) (e :: es) [] pos) (dCB rAbs t) := de_callB call_abs (fun vs ds H s Q Q' r hs q k => by
      match ds, q with
      | [.int i], q => obtain ⟨v, rfl, r'⟩ := dats1 r; cases datI r'; exact ⟨i, rfl, k _ _ _ _ (Kp.refl H) (.int _) hs q⟩) hg hm (by decide +kernel) ha (by decide) (by decide) he hpl
def rIntOf : RC
  | [.int i], s, Q => Q (.int i) s
  | [.bl b], s, Q => Q (.int (if b then 1 else 0)) s
  | _, _, _ => False
theorem de_intOf {p : Pos} (hg : Gl X "int") (hm : X.mg "int" = none) (ha : DA X (e :: es) t) (he : starEach (e :: es) X.env = (false, eval e X.env) :: starEach es X.env := by rfl) (hpl : (backTo pos (starEach es X.env)).any (·.1) = false := by rfl) :
    DE X (.Call (.Name "int" p) (e :: es) [] pos) (dCB rIntOf t) := de_callTy call_int1 (fun vs ds H s Q Q' r hs q k => by
      match ds, q with
      | [.int i], q => obtain ⟨v, rfl, r'⟩ := dats1 r; cases datI r'; exact .inl ⟨i, rfl, k _ _ _ _ (Kp.refl H) (.int _) hs q⟩
      | [.bl i], q => obtain ⟨v, rfl, r'⟩ := dats1 r; cases datB r'; exact .inr ⟨i, rfl, k _ _ _ _ (Kp.refl H) (.int _) hs q⟩) hg hm PyProof.Rows.boot_int ha (by decide) (by decide) he hpl
def rStrOf : RC
  | [.int i], s, Q => i.natAbs.log2 < 1920 ∧ Q (.str (toString i)) s
  | _, _, _ => False
theorem de_strOf {p : Pos} (hg : Gl X "str") (hm : X.mg "str" = none) (ha : DA X (e :: es) t) (he : starEach (e :: es) X.env = (false, eval e X.env) :: starEach es X.env := by rfl) (hpl : (backTo pos (starEach es X.env)).any (·.1) = false := by rfl) :
    DE X (.Call (.Name "str" p) (e :: es) [] pos) (dCB rStrOf t) := de_callTy call_str_int (fun vs ds H s Q Q' r hs q k => by
      match ds, q with
      | [.int i], q => obtain ⟨v, rfl, r'⟩ := dats1 r; cases datI r'; exact ⟨i, rfl, q.1, k _ _ _ _ (Kp.refl H) (.str _) hs q.2⟩) hg hm PyProof.Rows.boot_str ha (by decide) (by decide) he hpl
def rMax : RC
  | [.int i, .int j], s, Q => Q (.int (if j > i then j else i)) s
  | _, _, _ => False
def rMin : RC
  | [.int i, .int j], s, Q => Q (.int (if j < i then j else i)) s
  | _, _, _ => False
theorem de_max2 {p : Pos} (hc : X.calm = true) (hg : Gl X "max") (hm : X.mg "max" = none) (ha : DA X (e :: es) t) (he : starEach (e :: es) X.env = (false, eval e X.env) :: starEach es X.env := by rfl) (hpl : (backTo pos (starEach es X.env)).any (·.1) = false := by rfl) :
    DE X (.Call (.Name "max" p) (e :: es) [] pos) (dCB rMax t) := de_callB (call_max2 hc) (fun vs ds H s Q Q' r hs q k => by
      match ds, q with
      | [.int i, .int j], q => obtain ⟨v, w, rfl, r', r2⟩ := dats2 r; cases datI r'; cases datI r2; exact ⟨i, j, rfl, k _ _ _ _ (Kp.refl H) (.int _) hs q⟩) hg hm PyProof.Rows.boot_max ha (by decide) (by decide) he hpl
theorem de_min2 {p : Pos} (hc : X.calm = true) (hg : Gl X "min") (hm : X.mg "min" = none) (ha : DA X (e :: es) t) (he : starEach (e :: es) X.env = (false, eval e X.env) :: starEach es X.env := by rfl) (hpl : (backTo pos (starEach es X.env)).any (·.1) = false := by rfl) :
    DE X (.Call (.Name "min" p) (e :: es) [] pos) (dCB rMin t) := de_callB (call_min2 hc) (fun vs ds H s Q Q' r hs q k => by
      match ds, q with
      | [.int i, .int j], q => obtain ⟨v, w, rfl, r', r2⟩ := dats2 r; cases datI r'; cases datI r2; exact ⟨i, j, rfl, k _ _ _ _ (Kp.refl H) (.int _) hs q⟩) hg hm PyProof.Rows.boot_min ha (by decide) (by decide) he hpl
/-- sum, all, any of a list -/
def rSumD : RC
  | [.ref p], s, Q => ∃ ns : List Int, s p = some (.lst (ns.map D.int)) ∧ Q (.int ns.sum) s
  | _, _, _ => False
def rAllD : RC
  | [.ref p], s, Q => ∃ bs : List Bool, s p = some (.lst (bs.map D.bl)) ∧ Q (.bl (bs.all id)) s
  | _, _, _ => False
def rAnyD : RC
  | [.ref p], s, Q => ∃ bs : List Bool, s p = some (.lst (bs.map D.bl)) ∧ Q (.bl (bs.any id)) s
  | _, _, _ => False
theorem de_sum {p : Pos} (hc : X.calm = true) (hg : Gl X "sum") (hm : X.mg "sum" = none) (ha : DA X (e :: es) t) (he : starEach (e :: es) X.env = (false, eval e X.env) :: starEach es X.env := by rfl) (hpl : (backTo pos (starEach es X.env)).any (·.1) = false := by rfl) :
    DE X (.Call (.Name "sum" p) (e :: es) [] pos) (dCB rSumD t) := de_callB (cr_sum hc) (fun vs ds H s Q Q' r hs q k => by
      match ds, q with
      | [.ref p], ⟨ns, e, q⟩ =>
        obtain ⟨v, rfl, r'⟩ := dats1 r; cases datR r'
        obtain ⟨vs, e1, t⟩ := hs _ _ e
        cases t.ints
        exact ⟨p, ns, rfl, SqL.of e1, k _ _ _ _ (Kp.refl H) (.int _) hs q⟩) hg hm PyProof.Rows.boot_sum ha (by decide) (by decide) he hpl
theorem de_all {p : Pos} (hc : X.calm = true) (hg : Gl X "all") (hm : X.mg "all" = none) (ha : DA X (e :: es) t) (he : starEach (e :: es) X.env = (false, eval e X.env) :: starEach es X.env := by rfl) (hpl : (backTo pos (starEach es X.env)).any (·.1) = false := by rfl) :
    DE X (.Call (.Name "all" p) (e :: es) [] pos) (dCB rAllD t) := de_callB (cr_all hc) (fun vs ds H s Q Q' r hs q k => by
      match ds, q with
      | [.ref p], ⟨ns, e, q⟩ =>
        obtain ⟨v, rfl, r'⟩ := dats1 r; cases datR r'
        obtain ⟨vs, e1, t⟩ := hs _ _ e
        cases t.bls
        exact ⟨p, ns, rfl, SqL.of e1, k _ _ _ _ (Kp.refl H) (.bl _) hs q⟩) hg hm (by decide +kernel) ha (by decide) (by decide) he hpl
theorem de_any {p : Pos} (hc : X.calm = true) (hg : Gl X "any") (hm : X.mg "any" = none) (ha : DA X (e :: es) t) (he : starEach (e :: es) X.env = (false, eval e X.env) :: starEach es X.env := by rfl) (hpl : (backTo pos (starEach es X.env)).any (·.1) = false := by rfl) :
    DE X (.Call (.Name "any" p) (e :: es) [] pos) (dCB rAnyD t) := de_callB (cr_any hc) (fun vs ds H s Q Q' r hs q k => by
      match ds, q with
      | [.ref p], ⟨ns, e, q⟩ =>
        obtain ⟨v, rfl, r'⟩ := dats1 r; cases datR r'
        obtain ⟨vs, e1, t⟩ := hs _ _ e
        cases t.bls
        exact ⟨p, ns, rfl, SqL.of e1, k _ _ _ _ (Kp.refl H) (.bl _) hs q⟩) hg hm (by decide +kernel) ha (by decide) (by decide) he hpl
/-- tuple(x), list(x) -/
def rTupOf : RC
  | [.ref p], s, Q => ∃ ds, s p = some (.lst ds) ∧ Q (.tup ds) s
  | [.tup ds], s, Q => Q (.tup ds) s
  | _, _, _ => False
theorem de_tupOf {p : Pos} (hg : Gl X "tuple") (hm : X.mg "tuple" = none) (ha : DA X (e :: es) t) (he : starEach (e :: es) X.env = (false, eval e X.env) :: starEach es X.env := by rfl) (hpl : (backTo pos (starEach es X.env)).any (·.1) = false := by rfl) :
    DE X (.Call (.Name "tuple" p) (e :: es) [] pos) (dCB rTupOf t) := de_callTy call_tuple_of (fun vs ds H s Q Q' r hs q k => by
      match ds, q with
      | [.ref p], ⟨ds, e, q⟩ =>
        obtain ⟨v, rfl, r'⟩ := dats1 r; cases datR r'
        obtain ⟨vs, e1, t⟩ := hs _ _ e
        refine ⟨p, vs, rfl, .inl ⟨SqL.of e1, fun l hl => ?_⟩⟩
        have kp : Kp H (upd H l (.tup vs)) := Kp.alloc hl
        exact k _ _ _ _ kp (.tup upd_same (t.mono kp)) (hs.alloc hl) q
      | [.tup ds], q =>
        obtain ⟨v, rfl, r'⟩ := dats1 r
        obtain ⟨p, vs, rfl, e, t⟩ := datT r'
        exact ⟨p, vs, rfl, .inr ⟨SqT.of e, k _ _ _ _ (Kp.refl H) r' hs q⟩⟩) hg hm PyProof.Rows.boot_tuple ha (by decide) (by decide) he hpl
def rListOf : RC
  | [.ref p], s, Q => ∃ ds, s p = some (.lst ds) ∧ ∀ l, s l = none → Q (.ref l) (s.set l (.lst ds))
  | [.tup ds], s, Q => ∀ l, s l = none → Q (.ref l) (s.set l (.lst ds))
  | _, _, _ => False
theorem de_listOf {p : Pos} (hg : Gl X "list") (hm : X.mg "list" = none) (ha : DA X (e :: es) t) (he : starEach (e :: es) X.env = (false, eval e X.env) :: starEach es X.env := by rfl) (hpl : (backTo pos (starEach es X.env)).any (·.1) = false := by rfl) :
    DE X (.Call (.Name "list" p) (e :: es) [] pos) (dCB rListOf t) := de_callTy call_list_of (fun vs ds H s Q Q' r hs q k => by
      match ds, q with
      | [.ref p], ⟨ds, e, q⟩ =>
        obtain ⟨v, rfl, r'⟩ := dats1 r; cases datR r'
        obtain ⟨vs, e1, t⟩ := hs _ _ e
        exact ⟨p, vs, rfl, .inl (SqL.of e1), fun l hl => k _ _ _ _ (Kp.alloc hl) (.ref l) (hs.laidL hl t) (q l (hs.none hl))⟩
      | [.tup ds], q =>
        obtain ⟨v, rfl, r'⟩ := dats1 r
        obtain ⟨p, vs, rfl, e, t⟩ := datT r'
        exact ⟨p, vs, rfl, .inr (SqT.of e), fun l hl => k _ _ _ _ (Kp.alloc hl) (.ref l) (hs.laidL hl t) (q l (hs.none hl))⟩) hg hm PyProof.Rows.boot_list ha (by decide) (by decide) he hpl
/-- isinstance(e, T), T a built-in class -/
inductive Cl where
  | int | bool | str | tuple | list | dict
def Cl.nm : Cl → String
  | .int => "int" | .bool => "bool" | .str => "str" | .tuple => "tuple" | .list => "list" | .dict => "dict"
def isC : Cl → D → Bool
  | .int, .int _ => true | .int, .bl _ => true
  | .bool, .bl _ => true
  | .str, .str _ => true
  | .tuple, .tup _ => true
  | _, _ => false
def isCc : Cl → C → Bool
  | .list, .lst _ => true | .list, .ro _ => true | .dict, .dic _ => true
  | _, _ => false
def rIsi (T : Cl) : D → S → QD → Prop
  | .ref p, s, Q => ∃ c, s p = some c ∧ Q (.bl (isCc T c)) s
  | .non, s, Q => Q (.bl (isC T .non)) s
  | .bl b, s, Q => Q (.bl (isC T (.bl b))) s
  | .int b, s, Q => Q (.bl (isC T (.int b))) s
  | .str b, s, Q => Q (.bl (isC T (.str b))) s
  | .tup b, s, Q => Q (.bl (isC T (.tup b))) s
theorem de_isi (T : Cl) {tn : Str} {p p2 : Pos} (hg : Gl X "isinstance") (hm : X.mg "isinstance" = none) (hg2 : Gl X tn) (hm2 : X.mg tn = none) (he : DE X e te) (hb : bootBuiltins tn = some (.type T.nm) := by decide +kernel)
    (hn : tn ≠ "__name__" := by decide) (hd : (tn == ("__debug__" : Str)) = false := by decide)
    (h1 : starEach [e, .Name tn p2] X.env = (false, eval e X.env) :: starEach [.Name tn p2] X.env := by rfl) (h2 : starEach [.Name tn p2] X.env = (false, eval (.Name tn p2) X.env) :: starEach [] X.env := by rfl) (hpl : (backTo pos (starEach [.Name tn p2] X.env)).any (·.1) = false := by rfl) :
    DE X (.Call (.Name "isinstance" p) [e, .Name tn p2] [] pos) (dUn (rIsi T) te) :=
  PE.weaken (pe_callB call_isi hg hm (by decide +kernel) (pa_cons he (pa_cons (pe_bltn (v := .ty T.nm) hg2 hm2 hb rfl hn hd) pa_nil h2) h1) (by decide) (by decide) h1 hpl) fun σV H Q h => by
    obtain ⟨σ, s, Q', E, hs, q, k⟩ := h
    refine ⟨σ, s, _, E, hs, q, fun v d H1 s1 kk r1 hs1 q1 => ?_⟩
    have fin : ∀ c, Q' (.bl c) s1 → Q (.bl c) H1 := fun c q => k _ _ _ _ kk (.bl _) hs1 q
    cases d with
    | non => cases datN r1; exact ⟨_, _, _, _, _, rfl, .ty T.nm, .base .non, kit_ty (r := isC T .non) (by cases T <;> decide +kernel), fin _ q1⟩
    | bl b => cases datB r1; exact ⟨_, _, _, _, _, rfl, .ty T.nm, .base (.bl b), kit_ty (r := isC T (.bl b)) (by cases T <;> cases b <;> decide +kernel), fin _ q1⟩
    | int b =>
      cases datI r1
      have e : isC T (.int b) = isC T (.int 0) := by cases T <;> rfl
      have q2 : Q' (.bl (isC T (.int b))) s1 := q1
      rw [e] at q2
      exact ⟨_, _, _, _, _, rfl, .ty T.nm, .base (.int b), kit_ty (r := isC T (.int 0)) (by cases T <;> decide +kernel), fin _ q2⟩
    | str b =>
      cases datS r1
      have e : isC T (.str b) = isC T (.str "") := by cases T <;> rfl
      have q2 : Q' (.bl (isC T (.str b))) s1 := q1
      rw [e] at q2
      exact ⟨_, _, _, _, _, rfl, .ty T.nm, .base (.str b), kit_ty (r := isC T (.str "")) (by cases T <;> decide +kernel), fin _ q2⟩
    | tup ds =>
      obtain ⟨p, vs, rfl, e, t⟩ := datT r1
      have e0 : isC T (.tup ds) = isC T (.tup []) := by cases T <;> rfl
      have q2 : Q' (.bl (isC T (.tup ds))) s1 := q1
      rw [e0] at q2
      exact ⟨_, _, _, _, _, rfl, .ty T.nm, .base (.tup e), kit_ty (r := isC T (.tup [])) (by cases T <;> decide +kernel), fin _ q2⟩
    | ref p =>
      cases datR r1
      obtain ⟨c, e, q1⟩ := q1
      have w := hs1 _ _ e
      cases c with
      | lst ds =>
        obtain ⟨vs, e1, _⟩ := w
        have e0 : isCc T (.lst ds) = isCc T (.lst []) := by cases T <;> rfl
        rw [e0] at q1
        exact ⟨_, _, _, _, _, rfl, .ty T.nm, .base (.lst e1), kit_ty (r := isCc T (.lst [])) (by cases T <;> decide +kernel), fin _ q1⟩
      | ro ds =>
        obtain ⟨vs, o, e1, _⟩ := w
        have e0 : isCc T (.ro ds) = isCc T (.lst []) := by cases T <;> rfl
        rw [e0] at q1
        exact ⟨_, _, _, _, _, rfl, .ty T.nm, .base (.frz e1), kit_ty (r := isCc T (.lst [])) (by cases T <;> decide +kernel), fin _ q1⟩
      | dic ds =>
        obtain ⟨vs, e1, _⟩ := w
        have e0 : isCc T (.dic ds) = isCc T (.dic []) := by cases T <;> rfl
        rw [e0] at q1
        exact ⟨_, _, _, _, _, rfl, .ty T.nm, .base (.dK e1), kit_ty (r := isCc T (.dic [])) (by cases T <;> decide +kernel), fin _ q1⟩

/-! ### methods of lists -/
def dAppend (tl te : TD) : TD := fun σ s Q => tl σ s fun x s1 => (∃ p ds, x = .ref p ∧ s1 p = some (.lst ds)) ∧ te σ s1 fun y s2 => ∃ p ds, x = .ref p ∧ s2 p = some (.lst ds) ∧ ds.length < sizeLine ∧ Q .non (s2.set p (.lst (ds ++ [y])))
theorem de_append {apos cpos : Pos} (ha : DE X a ta) (hb : DE X b tb) (hbase : attributeBase a "append" X.env (eval a X.env) = eval a X.env := by rfl) (hline : (apos.endLine == cpos.line) = true := by rfl)
    (hs : starEach [b] X.env = (false, eval b X.env) :: starEach [] X.env := by rfl)
    (hfew : ((backTo cpos (starEach [b] X.env)).all (fun x => !x.1) && (backToKw cpos (keywordEach [] X.env)).all (fun x => x.1.isSome)
      && decide (([b] : List Expr).length + ([] : List Keyword).length + (if ([] : List Keyword).isEmpty then 0 else 1) < 30)) = true := by rfl) : DE X (.Call (.Attribute a "append" apos) [b] [] cpos) (dAppend ta tb) :=
  PE.weaken (pe_bm PySem.F.plainAttrs_list PySem.F.slot_list_append PySem.F.type_list_append mt_append ha (pa_cons hb pa_nil hs) hbase hfew hline hs) fun σV H Q h => by
    obtain ⟨σ, s, Q', E, hs, q, k⟩ := h
    refine ⟨σ, s, _, E, hs, q, fun v d H1 s1 k1 r1 hs1 q1 => ?_⟩
    obtain ⟨⟨p, ds, rfl, e⟩, q1⟩ := q1
    cases datR r1
    obtain ⟨vs, e1, t⟩ := hs1 _ _ e
    refine ⟨.inl ⟨rfl, vs, SqL.of e1⟩, σ, s1, _, E.mono k1, hs1, q1, fun w f H2 s2 k2 r2 hs2 q2 => ?_⟩
    obtain ⟨p, ds, e0, e2, hl, q2⟩ := q2
    cases e0
    obtain ⟨us, e3, t3⟩ := hs2 _ _ e2
    obtain ⟨w1, w2⟩ := hs2.writeL e3 (t3.append (.cons r2 .nil))
    exact ⟨_, us, w, rfl, rfl, e3, by rw [t3.length]; exact hl, k _ _ _ _ ((k1.trans k2).trans w2) .non w1 q2⟩
end DL

set_option maxHeartbeats 4000000
namespace DL
open PySem PySem.Spec L2
variable {X : Cx} {a b c e tg : Expr} {es : List Expr} {ta tb tc te : TD} {t : TDA} {pos : Pos}

/-! ### what a for walks -/
/-- the items, what of the store must stand -/
structure ItD where
  ds : List D
  G : S → Prop
def RelIt (J : It) (J' : ItD) (H1 : Hp) : Prop := Walk J J'.ds.length (fun H => Kp H1 H ∧ ∃ s, HS H s ∧ J'.G s) (fun i H v H' => Kp H H' ∧ (∀ s, HS H s → HS H' s) ∧ ∃ d, J'.ds[i]? = some d ∧ Dat H' v d)
abbrev TDI := DS → S → (ItD → S → Prop) → Prop
def upI (ti : TDI) : TI := fun σV H R => ∃ (σ : DS) (s : S) (R' : ItD → S → Prop), EnvD H σV σ ∧ HS H s ∧ ti σ s R' ∧ ∀ J J' s' H', Kp H H' → HS H' s' → R' J' s' → RelIt J J' H' → R J H'
theorem PI.weaken {X : Cx} {tg e : Expr} {t t' : TI} (h : PI X tg e t) (w : ∀ σ H Q, t' σ H Q → t σ H Q) : PI X tg e t' := ⟨fun pins s σ H Q I q => h.run pins s σ H Q I (w _ _ _ q)⟩
abbrev DI (X : Cx) (tg e : Expr) (ti : TDI) : Prop := PI X tg e (upI ti)
/-- a list, a tuple, a text -/
def iAny (K : PySem.W.Frag) (tl : TE) : TI := fun σ H R => tl σ H fun x H1 => (∃ a, x = .ref a ∧ (∃ xs, SqL K H1 a xs) ∧ R (Itl K a) H1) ∨ (∃ a, x = .ref a ∧ (∃ xs, SqT K H1 a xs) ∧ R (Itt K a) H1) ∨ ∃ z, x = .str z ∧ R (Its z) H1
theorem pi_any {l : Expr} {tl : TE} (hl : PE X l tl) : PI X tg l (iAny X.K tl) := by
  refine ⟨fun pins s σ H R I h => ?_⟩
  refine thn (hl.run pins s σ H _ I h) fun v s1 ⟨x, H1, I1, r1, q1⟩ => ?_
  rcases q1 with ⟨a, e, ⟨xs, hq⟩, q⟩ | ⟨a, e, ⟨xs, hq⟩, q⟩ | ⟨z, e, q⟩
  · subst e
    cases r1
    obtain ⟨its, rv, p, hz⟩ := I1.list hq
    refine wpAny_pyIter_list p.isList ?_
    refine ⟨s1.heap.objs.size, [s1.heap.objs.size], _, _, H1, rfl, I1.kept (t' := s1.toks) fun b o e => Heap.get?_push_of_some _ e, turn_list a _, ⟨_, Heap.get?_push_size _ rfl, rfl, rfl⟩, fun b hb => ?_, q⟩
    have e : b = s1.heap.objs.size := by simpa using hb
    subst e
    exact I1.fpOk (Nat.le_refl _) (I1.hok.fresh (Nat.le_refl _))
  · subst e
    cases r1
    obtain ⟨its, rv, p, hz⟩ := I1.tuple hq
    refine wpAny_pyIter_tuple (show s1.heap.IsTuple a its.toArray from p) ?_
    refine ⟨s1.heap.objs.size, [s1.heap.objs.size], _, _, H1, rfl, I1.kept (t' := s1.toks) fun b o e => Heap.get?_push_of_some _ e, turn_tuple a _, ⟨_, Heap.get?_push_size _ rfl, rfl, rfl⟩, fun b hb => ?_, q⟩
    have e : b = s1.heap.objs.size := by simpa using hb
    subst e
    exact I1.fpOk (Nat.le_refl _) (I1.hok.fresh (Nat.le_refl _))
  · subst e
    obtain ⟨t, rfl⟩ := r1
    cases ha : z.cps.all (· < 128)
    · exact wpAny_pyIter_wide ha (pi_one (tk := s1.toks) I1 _ (turn_str _ z t "str_iterator" (.inr rfl)) ⟨_, Heap.get?_push_size _ rfl, rfl, rfl⟩ q)
    · exact wpAny_pyIter_ascii ha (pi_one (tk := s1.toks) I1 _ (turn_str _ z t "str_ascii_iterator" (.inl rfl)) ⟨_, Heap.get?_push_size _ rfl, rfl, rfl⟩ q)
def signs (z : Str) : List D := z.cps.toList.map fun c => .str ⟨#[c]⟩
def iD (R : ItD → S → Prop) : D → S → Prop
  | .tup ds, s => R ⟨ds, fun _ => True⟩ s
  | .str z, s => R ⟨signs z, fun _ => True⟩ s
  | .ref p, s => ∃ ds, s p = some (.lst ds) ∧ R ⟨ds, fun s' => s' p = some (.lst ds)⟩ s
  | _, _ => False
def dIter (te : TD) : TDI := fun σ s R => te σ s fun x s1 => iD R x s1
theorem rel_list {K : PySem.W.Frag} {p : Addr} {ds : List D} {H1 : Hp} : RelIt (Itl K p) ⟨ds, fun s => s p = some (.lst ds)⟩ H1 :=
  ⟨fun i H hi ⟨_, s, hs, g⟩ => by
    obtain ⟨vs, e, t⟩ := hs _ _ g
    obtain ⟨v, h1, _⟩ := t.get (i := i) (d := ds[i]) (by simp [show i < ds.length from hi])
    exact ⟨vs, v, SqL.of e, h1⟩,
   fun H ⟨_, s, hs, g⟩ => by
    obtain ⟨vs, e, t⟩ := hs _ _ g
    exact ⟨vs, SqL.of e, by rw [t.length]; exact Nat.le_refl _⟩,
   fun i H x H' hi ⟨_, s, hs, g⟩ y => by
    obtain ⟨vs, e, t⟩ := hs _ _ g
    obtain ⟨rfl, y⟩ := y
    obtain ⟨d, h1, h2⟩ := t.getV (y vs (SqL.of e))
    exact ⟨Kp.refl _, fun _ h => h, d, h1, h2⟩⟩
theorem rel_tup {K : PySem.W.Frag} {p : Addr} {ds : List D} {vs : List V} {H1 : Hp} (e : H1 p = some (.tup vs)) (t : Dats H1 vs ds) : RelIt (Itt K p) ⟨ds, fun _ => True⟩ H1 :=
  ⟨fun i H hi ⟨k, _⟩ => by
    obtain ⟨v, h1, _⟩ := t.get (i := i) (d := ds[i]) (by simp [show i < ds.length from hi])
    exact ⟨vs, v, SqT.of (k _ _ trivial e), h1⟩,
   fun H ⟨k, _⟩ => ⟨vs, SqT.of (k _ _ trivial e), by rw [t.length]; exact Nat.le_refl _⟩,
   fun i H x H' hi ⟨k, _⟩ y => by
    obtain ⟨rfl, y⟩ := y
    obtain ⟨d, h1, h2⟩ := t.getV (y vs (SqT.of (k _ _ trivial e)))
    exact ⟨Kp.refl _, fun _ h => h, d, h1, h2.mono k⟩⟩
theorem rel_str {z : Str} {H1 : Hp} : RelIt (Its z) ⟨signs z, fun _ => True⟩ H1 := by
  have hl : (signs z).length = z.cps.size := by simp [signs]
  refine ⟨fun i H hi _ => by show i < z.cps.size; rw [← hl]; exact hi, fun H _ => by show z.cps.size ≤ (signs z).length; rw [hl]; exact Nat.le_refl _, fun i H x H' hi _ y => ?_⟩
  obtain ⟨rfl, c, h1, rfl⟩ := y
  refine ⟨Kp.refl _, fun _ h => h, .str ⟨#[c]⟩, ?_, .str _⟩
  simp [signs, h1]
theorem di_any (he : DE X e te) : DI X tg e (dIter te) := PI.weaken (pi_any he) fun σV H R h => by
  obtain ⟨σ, s, R', E, hs, q, k⟩ := h
  refine ⟨σ, s, _, E, hs, q, fun v d H1 s1 k1 r1 hs1 q1 => ?_⟩
  cases d with
  | tup ds =>
    obtain ⟨p, vs, rfl, e, t⟩ := datT r1
    exact .inr (.inl ⟨p, rfl, ⟨vs, SqT.of e⟩, k _ _ _ _ k1 hs1 q1 (rel_tup e t)⟩)
  | str z => cases datS r1; exact .inr (.inr ⟨z, rfl, k _ _ _ _ k1 hs1 q1 rel_str⟩)
  | ref p =>
    cases datR r1
    obtain ⟨ds, e, q1⟩ := q1
    obtain ⟨vs, e1, t⟩ := hs1 _ _ e
    exact .inl ⟨p, rfl, ⟨vs, SqL.of e1⟩, k _ _ _ _ k1 hs1 q1 rel_list⟩
  | _ => exact q1.elim
def rngD (lo : Int) (n : Nat) : List D := (List.range n).map fun i => D.int (lo + (i : Nat))
theorem rel_rng {lo : Int} {n : Nat} {H1 : Hp} : RelIt (Itr lo n) ⟨rngD lo n, fun _ => True⟩ H1 := by
  have hl : (rngD lo n).length = n := by simp [rngD]
  refine ⟨fun i H hi _ => by show i < n; rw [← hl]; exact hi, fun H _ => by show n ≤ (rngD lo n).length; rw [hl]; exact Nat.le_refl _, fun i H x H' hi _ y => ?_⟩
  obtain ⟨rfl, rfl⟩ := y
  have hi' : i < n := by rw [← hl]; exact hi
  exact ⟨Kp.refl _, fun _ h => h, .int (lo + (i : Nat)), by simp [rngD, hi'], .int _⟩
def iRng1D (R : ItD → S → Prop) : List D → S → Prop
  | [.int j], s => -(2 ^ 62) ≤ j ∧ j < 2 ^ 62 ∧ R ⟨rngD 0 j.toNat, fun _ => True⟩ s
  | _, _ => False
theorem di_range1 {p : Pos} (hg : Gl X "range") (hm : X.mg "range" = none) (ha : DA X [a] t) (hs : starEach [a] X.env = [(false, eval a X.env)] := by rfl) : DI X tg (.Call (.Name "range" p) [a] [] pos) (fun σ s R => t σ s fun ds s1 => iRng1D R ds s1) :=
  PI.weaken (pi_range1 hg hm ha hs) fun σV H R h => by
    obtain ⟨σ, s, R', E, hs, q, k⟩ := h
    refine ⟨σ, s, _, E, hs, q, fun vs ds H1 s1 k1 r1 hs1 q1 => ?_⟩
    match ds, q1 with
    | [.int j], ⟨h1, h2, q1⟩ =>
      obtain ⟨v, rfl, r'⟩ := dats1 r1; cases datI r'
      exact ⟨j, rfl, h1, h2, k _ _ _ _ k1 hs1 q1 rel_rng⟩
def iRng2D (R : ItD → S → Prop) : List D → S → Prop
  | [.int i, .int j], s => (-(2 ^ 62) ≤ i ∧ i < 2 ^ 62 ∧ -(2 ^ 62) ≤ j ∧ j < 2 ^ 62) ∧ R ⟨rngD i (j - i).toNat, fun _ => True⟩ s
  | _, _ => False
theorem di_range2 {p : Pos} (hg : Gl X "range") (hm : X.mg "range" = none) (ha : DA X [a, b] t) (hs : starEach [a, b] X.env = [(false, eval a X.env), (false, eval b X.env)] := by rfl) (hs2 : starEach [b] X.env = [(false, eval b X.env)] := by rfl) :
    DI X tg (.Call (.Name "range" p) [a, b] [] pos) (fun σ s R => t σ s fun ds s1 => iRng2D R ds s1) :=
  PI.weaken (pi_range2 hg hm ha hs hs2) fun σV H R h => by
    obtain ⟨σ, s, R', E, hs, q, k⟩ := h
    refine ⟨σ, s, _, E, hs, q, fun vs ds H1 s1 k1 r1 hs1 q1 => ?_⟩
    match ds, q1 with
    | [.int i, .int j], ⟨h1, q1⟩ =>
      obtain ⟨v, w, rfl, r', r2⟩ := dats2 r1; cases datI r'; cases datI r2
      exact ⟨i, j, rfl, h1, k _ _ _ _ k1 hs1 q1 rel_rng⟩

/-! ### for, while -/
def forD (g : TDG) (tb : TDS) (G : S → Prop) (D : EndsD) : List DL.D → DS → S → Prop
  | [], σ, s => G s ∧ D.nx σ s
  | d :: r, σ, s => G s ∧ g d σ s fun σ1 s1 => tb { D with nx := forD g tb G D r, ct := forD g tb G D r, bk := D.nx } σ1 s1
def dFor (ti : TDI) (g : TDG) (tb : TDS) : TDS := fun D σ s => ti σ s fun J s1 => forD g tb J.G D J.ds σ s1
theorem forD_G {g : TDG} {tb : TDS} {G : S → Prop} {D : EndsD} {ds : List DL.D} {σ : DS} {s : S} (h : forD g tb G D ds σ s) : G s := by
  cases ds <;> exact h.1
theorem ds_for {iter : Expr} {body : List Stmt} {ti : TDI} {g : TDG} {sl : List Nat} {tS : TDS} (hp : PassesOwn (model X.prog X.w) X.A X.env X.xe) (hc : X.calm = true) (hi : DI X tg iter ti) (hg : DG X tg sl g) (hb : DSs X body tS)
    (hs : ∀ x, foldedSetIterable iter X.env x = pure x := by intro _; rfl) : DSt X (.For tg iter body [] pos) (dFor ti g tS) :=
  PS.weaken (ps_for hp hc hi hg hb hs) fun D σV H h => by
    obtain ⟨σ, s, D', E, hs, q, R⟩ := h
    refine ⟨σ, s, _, E, hs, q, fun J J' s1 H1 k1 hs1 q1 rel => ?_⟩
    refine for_it rel (fun i σV' H' => Kp H1 H' ∧ ∃ σ' s', EnvD H' σV' σ' ∧ HS H' s' ∧ forD g tS J'.G D' (J'.ds.drop i) σ' s') ?_ ?_ ?_ ?_
    · exact ⟨Kp.refl _, σ, s1, E.mono k1, hs1, by simpa using q1⟩
    · rintro i σV' H' _ ⟨kk, σ', s', E', hs', q'⟩
      exact ⟨kk, s', hs', forD_G q'⟩
    · rintro i x σV' H' H'' hi ⟨kk, σ', s', E', hs', q'⟩ ⟨ky, hy, d, hd, rd⟩
      have ed : J'.ds.drop i = d :: J'.ds.drop (i + 1) := by
        rw [List.drop_eq_getElem_cons hi]
        have : J'.ds[i] = d := by
          have := List.getElem?_eq_getElem hi
          rw [hd] at this
          exact (Option.some.inj this).symm
        rw [this]
      rw [ed] at q'
      refine ⟨d, σ', s', _, rd, E'.mono ky, hy s' hs', q'.2, fun σV2 σ2 H2 s2 k2 _ E2 hs2 q2 => ?_⟩
      have k3 := (k1.trans kk).trans (ky.trans k2)
      refine ⟨σ2, s2, _, E2, hs2, q2, ⟨fun a b H3 s3 k4 E3 hs3 q3 => ?_, fun v d H3 s3 k4 => R.rt v d H3 s3 (k3.trans k4), fun a b H3 s3 k4 => R.nx a b H3 s3 (k3.trans k4), fun a b H3 s3 k4 E3 hs3 q3 => ?_⟩⟩
      · exact ⟨((kk.trans (ky.trans k2)).trans k4), b, s3, E3, hs3, q3⟩
      · exact ⟨((kk.trans (ky.trans k2)).trans k4), b, s3, E3, hs3, q3⟩
    · rintro σV' H' ⟨kk, σ', s', E', hs', q'⟩
      rw [List.drop_length] at q'
      exact R.nx _ _ _ _ (k1.trans kk) E' hs' q'.2
def whileN (c : TDT) (tb : TDS) (D : EndsD) : Nat → DS → S → Prop
  | 0, _, _ => False
  | n + 1, σ, s => c σ s fun b s1 => if b = true then tb { D with nx := whileN c tb D n, ct := whileN c tb D n, bk := D.nx } σ s1 else D.nx σ s1
def dWhile (c : TDT) (tb : TDS) : TDS := fun D σ s => ∃ n, whileN c tb D n σ s
theorem ds_while {body : List Stmt} {tc : TDT} {tS : TDS} (hp : PassesOwn (model X.prog X.w) X.A X.env X.xe) (hc : DT X c tc) (hb : DSs X body tS) : DSt X (.While c body [] pos) (dWhile tc tS) :=
  PS.weaken (ps_while hp hc hb) fun D σV H h => by
    obtain ⟨σ, s, D', E, hs, ⟨n, q⟩, R⟩ := h
    refine ⟨fun m σV' H' => Kp H H' ∧ ∃ σ' s', EnvD H' σV' σ' ∧ HS H' s' ∧ whileN tc tS D' m σ' s', ⟨n, Kp.refl _, σ, s, E, hs, q⟩, ?_⟩
    rintro m σV' H' ⟨kk, σ', s', E', hs', q'⟩
    cases m with
    | zero => exact q'.elim
    | succ m =>
      refine ⟨σ', s', _, E', hs', q', fun b H1 s1 k1 hs1 q1 => ?_⟩
      cases b with
      | false => exact R.nx _ _ _ _ (kk.trans k1) (E'.mono k1) hs1 q1
      | true =>
        refine ⟨fun σV2 H2 => Kp H H2 ∧ ∃ σ2 s2, EnvD H2 σV2 σ2 ∧ HS H2 s2 ∧ whileN tc tS D' m σ2 s2, fun σV2 H2 w => ⟨m, Nat.lt_succ_self m, w⟩, ?_⟩
        refine ⟨σ', s1, _, E'.mono k1, hs1, q1, ⟨fun a b H3 s3 k4 E3 hs3 q3 => ⟨(kk.trans k1).trans k4, b, s3, E3, hs3, q3⟩, fun v d H3 s3 k4 => R.rt v d H3 s3 ((kk.trans k1).trans k4), fun a b H3 s3 k4 => R.nx a b H3 s3 ((kk.trans k1).trans k4),
          fun a b H3 s3 k4 E3 hs3 q3 => ⟨(kk.trans k1).trans k4, b, s3, E3, hs3, q3⟩⟩⟩

/-! ### list comprehensions -/
def wipeD (σ : DS) : List Nat → DS
  | [] => σ
  | v :: vs => (wipeD σ vs).set v none
theorem EnvD.wipe {H : Hp} {σV : L2.St} {σ : DS} (E : EnvD H σV σ) : ∀ vs, EnvD H (L2.wipe σV vs) (wipeD σ vs)
  | [] => E
  | v :: vs => (EnvD.wipe E vs).forget v
theorem wipe_get (σ : L2.St) : ∀ (vs : List Nat) (i : Nat), (L2.wipe σ vs)[i]? = if i ∈ vs then (σ[i]?).map (fun _ => none) else σ[i]?
  | [], i => by simp [L2.wipe]
  | v :: vs, i => by
    show ((L2.wipe σ vs).set v none)[i]? = _
    by_cases h : v = i
    · subst h
      rw [if_pos List.mem_cons_self]
      by_cases hv : v < σ.length
      · rw [List.getElem?_set_self (by rw [wipe_length]; exact hv), List.getElem?_eq_getElem hv]; rfl
      · rw [List.getElem?_eq_none (by rw [List.length_set, wipe_length]; omega), List.getElem?_eq_none (by omega)]; rfl
    · rw [List.getElem?_set_ne h, wipe_get σ vs i]
      by_cases h2 : i ∈ vs
      · rw [if_pos h2, if_pos (List.mem_cons_of_mem _ h2)]
      · rw [if_neg h2, if_neg (by simp only [List.mem_cons, not_or]; exact ⟨fun z => h z.symm, h2⟩)]
theorem wipe_off {σ σ2 : L2.St} {sl vs : List Nat} (o : Off sl (L2.wipe σ vs) σ2) (hsub : ∀ i ∈ sl, i ∈ vs) : L2.wipe σ2 vs = L2.wipe σ vs := by
  apply List.ext_getElem?
  intro i
  rw [wipe_get σ2]
  by_cases h : i ∈ vs
  · rw [if_pos h, wipe_get σ, if_pos h]
    have hl : σ2.length = σ.length := by rw [o.1, wipe_length]
    by_cases hi : i < σ.length
    · rw [List.getElem?_eq_getElem (by omega), List.getElem?_eq_getElem hi]; rfl
    · rw [List.getElem?_eq_none (by omega), List.getElem?_eq_none (by omega)]
  · rw [if_neg h, o.2 i fun z => h (hsub i z)]
abbrev DTs (X : Cx) (ifs : List Expr) (t : TDT) : Prop := PTs X ifs (upT t)
theorem PTs.weaken {X : Cx} {e : List Expr} {t t' : TT} (h : PTs X e t) (w : ∀ σ H Q, t' σ H Q → t σ H Q) : PTs X e t' := ⟨fun pins s σ H Q I q => h.run pins s σ H Q I (w _ _ _ q)⟩
def dYes : TDT := fun _ s Q => Q true s
theorem dts_nil : DTs X [] dYes := PTs.weaken pts_nil fun σV H Q h => by
  obtain ⟨σ, s, Q', E, hs, q, k⟩ := h
  exact k _ _ _ (Kp.refl H) hs q
theorem dts_one {tT : TDT} (h : DT X c tT) : DTs X [c] tT := pts_one h
def lcD (g : TDG) (tt : TDT) (te : TD) (G : S → Prop) (σ : DS) (p : Addr) (Q : S → Prop) : List D → S → Prop
  | [], s => G s ∧ Q s
  | d :: r, s => G s ∧ g d σ s fun σ1 s1 => tt σ1 s1 fun b s2 => if b = true then te σ1 s2 fun y s3 => ∃ acc, s3 p = some (.lst acc) ∧ acc.length < sizeLine ∧ lcD g tt te G σ p Q r (s3.set p (.lst (acc ++ [y]))) else lcD g tt te G σ p Q r s2
def dLc (ti : TDI) (g : TDG) (tt : TDT) (te : TD) (vs : List Nat) : TD := fun σ s Q => ti σ s fun J s1 => ∀ p, s1 p = none → lcD g tt te J.G (wipeD σ vs) p (Q (.ref p)) J.ds (s1.set p (.lst []))
theorem lcD_G {g : TDG} {tt : TDT} {te : TD} {G : S → Prop} {σ : DS} {p : Addr} {Q : S → Prop} {ds : List D} {s : S} (h : lcD g tt te G σ p Q ds s) : G s := by
  cases ds <;> exact h.1
theorem lift_lc {ti : TDI} {g : TDG} {tt : TDT} {vs sl : List Nat} (hsub : ∀ i ∈ sl, i ∈ vs) : ∀ σV H Q, upE (dLc ti g tt te vs) σV H Q → tLc (upI ti) (upG sl g) (upT tt) (upE te) vs σV H Q := fun σV H Q h => by
  obtain ⟨σ, s, Q', E, hs, q, k⟩ := h
  refine ⟨σ, s, _, E, hs, q, fun J J' s1 H1 k1 hs1 q1 rel => fun D hD => ?_⟩
  have q2 := q1 D (hs1.none hD)
  have kd : Kp H1 (upd H1 D (.lst [])) := Kp.alloc hD
  refine lc_it rel (fun i H' => Kp H1 H' ∧ ∃ s', HS H' s' ∧ lcD g tt te J'.G (wipeD σ vs) D (Q' (.ref D)) (J'.ds.drop i) s') ?_ ?_ ?_ ?_
  · exact ⟨kd, _, hs1.laidL hD .nil, by simpa using q2⟩
  · rintro i H' _ ⟨kk, s', hs', q'⟩
    exact ⟨kk, s', hs', lcD_G q'⟩
  · rintro i x H' H'' hi ⟨kk, s', hs', q'⟩ ⟨ky, hy, d, hd, rd⟩
    have ed : J'.ds.drop i = d :: J'.ds.drop (i + 1) := by
      rw [List.drop_eq_getElem_cons hi]
      have : J'.ds[i] = d := by
        have := List.getElem?_eq_getElem hi
        rw [hd] at this
        exact (Option.some.inj this).symm
      rw [this]
    rw [ed] at q'
    have E0 : EnvD H'' (L2.wipe σV vs) (wipeD σ vs) := ((E.mono k1).wipe vs).mono (kk.trans ky)
    refine ⟨d, wipeD σ vs, s', _, rd, E0, hy s' hs', q'.2, fun σV2 σ2 H2 s2 k2 o2 E2 hs2 q2 => ⟨wipe_off o2 hsub, ?_⟩⟩
    refine ⟨σ2, s2, _, E2, hs2, q2, fun b H3 s3 k3 hs3 q3 => ?_⟩
    have k4 := (kk.trans ky).trans (k2.trans k3)
    cases b with
    | false => exact ⟨k4, s3, hs3, q3⟩
    | true =>
      refine ⟨σ2, s3, _, E2.mono k3, hs3, q3, fun y f H5 s5 k5 r5 hs5 q5 => ?_⟩
      obtain ⟨acc, ea, hl, q5⟩ := q5
      obtain ⟨us, e5, t5⟩ := hs5 _ _ ea
      obtain ⟨w1, w2⟩ := hs5.writeL e5 (t5.append (.cons r5 .nil))
      exact ⟨us, e5, by rw [t5.length]; exact hl, (k4.trans k5).trans w2, _, w1, q5⟩
  · rintro H' ⟨kk, s', hs', q'⟩
    rw [List.drop_length] at q'
    exact k _ _ _ _ (k1.trans kk) (.ref D) hs' q'.2
theorem de_lc {iter : Expr} {ifs : List Expr} {scope : Scope} {own : List (Str × Nat)} {ti : TDI} {g : TDG} {sl : List Nat} {tt : TDT} (hc : X.calm = true) (hN : X.N.Nodup) (hi : DI X tg iter ti) (ok : BlkOk X.N X.env.scope scope own)
    (hg : ∀ (s : Shared) (H : Hp) (C : Addr) (cl : List (Str × Addr)) (fp : List Addr), DG (X.blk s H scope (compEnvC scope cl C X.env) fp) tg sl g) (ht : ∀ (s : Shared) (H : Hp) (C : Addr) (cl : List (Str × Addr)) (fp : List Addr), DTs (X.blk s H scope (compEnvC scope cl C X.env) fp) ifs tt)
    (he : ∀ (s : Shared) (H : Hp) (C : Addr) (cl : List (Str × Addr)) (fp : List Addr), DE (X.blk s H scope (compEnvC scope cl C X.env) fp) e te) (hsub : ∀ i ∈ sl, i ∈ own.map (·.2) := by decide) (hs : ∀ x, foldedSetIterable iter X.env x = pure x := by intro _; rfl) :
    DE X (.ListComp e [⟨tg, iter, ifs, 0⟩] scope pos) (dLc ti g tt te (own.map (·.2))) :=
  PE.weaken (pe_lc hc hN hi ok hg ht he hs) (lift_lc hsub)
theorem ds_setLc {i : Nat} {y : Str} {py : Pos} {iter : Expr} {ifs : List Expr} {scope : Scope} {own : List (Str × Nat)} {spos : Pos} {ti : TDI} {g : TDG} {sl : List Nat} {tt : TDT} (hc : X.calm = true) (hN : X.N.Nodup) (hy : X.N[i]? = some y) (hyl : X.env.scope.names.lookup y = some .local)
    (hsw : swapsWith (.ListComp e [⟨tg, iter, ifs, 0⟩] scope pos) (some (.Name y py)) spos.line X.env = pure true) (hi : DI X tg iter ti) (ok : BlkOk X.N X.env.scope scope own)
    (hg : ∀ (s : Shared) (H : Hp) (C : Addr) (cl : List (Str × Addr)) (fp : List Addr), DG (X.blk s H scope (compEnvC scope cl C X.env) fp) tg sl g) (ht : ∀ (s : Shared) (H : Hp) (C : Addr) (cl : List (Str × Addr)) (fp : List Addr), DTs (X.blk s H scope (compEnvC scope cl C X.env) fp) ifs tt)
    (he : ∀ (s : Shared) (H : Hp) (C : Addr) (cl : List (Str × Addr)) (fp : List Addr), DE (X.blk s H scope (compEnvC scope cl C X.env) fp) e te) (hsub : ∀ i ∈ sl, i ∈ own.map (·.2) := by decide) (hs : ∀ x, foldedSetIterable iter X.env x = pure x := by intro _; rfl) :
    DSt X (.Assign [.Name y py] (.ListComp e [⟨tg, iter, ifs, 0⟩] scope pos) spos) (dAsg (dLc ti g tt te (own.map (·.2))) (dgName i)) :=
  PS.weaken (ps_setLc hc hN hy hyl hsw hi ok hg ht he hs) fun D σV H h => by
    obtain ⟨σ, s, D', E, hs, q, R⟩ := h
    refine lift_lc hsub σV H _ ⟨σ, s, _, E, hs, q, fun v d H1 s1 k1 r1 hs1 q1 => ?_⟩
    exact R.nx _ _ _ _ k1 ((E.mono k1).set i r1) hs1 q1
/-- a, b = x, y -/
def dPar (i j : Nat) (t : TDA) : TDS := fun D σ s => t σ s fun ds s1 => ∃ d f, ds = [d, f] ∧ D.nx ((σ.set i (some d)).set j (some f)) s1
theorem ds_par {i j : Nat} {x y : Str} {px py pt pt2 : Pos} {kt k2 : Nat} (hc : X.calm = true) (hN : X.N.Nodup) (hi : X.N[i]? = some x) (hj : X.N[j]? = some y) (hij : i ≠ j)
    (hx : X.env.scope.names.lookup x = some .local) (hy : X.env.scope.names.lookup y = some .local) (ha : DA X [a, b] t)
    (hw : swappedStores [.Tuple [.Name x px, .Name y py] kt pt] (.Tuple [a, b] k2 pt2) X.env = pure (some [x, y]))
    (hs : swapsWithSole [.Tuple [.Name x px, .Name y py] kt pt] (.Tuple [a, b] k2 pt2) pos.line X.env = pure false := by rfl) : DSt X (.Assign [.Tuple [.Name x px, .Name y py] kt pt] (.Tuple [a, b] k2 pt2) pos) (dPar i j t) :=
  PS.weaken (ps_par hc hN hi hj hij hx hy ha hw hs) fun D σV H h => by
    obtain ⟨σ, s, D', E, hs, q, R⟩ := h
    refine ⟨σ, s, _, E, hs, q, fun vs ds H1 s1 k1 r1 hs1 q1 => ?_⟩
    obtain ⟨d, f, rfl, q1⟩ := q1
    obtain ⟨v, w, rfl, r', r2⟩ := dats2 r1
    exact ⟨v, w, rfl, R.nx _ _ _ _ k1 (((E.mono k1).set i r').set j r2) hs1 q1⟩
end DL

set_option maxHeartbeats 4000000
namespace DL
open PySem PySem.Spec L2
/-- what is known of the top -/
structure Top (fa : List He.Fa) (fn : List He.DefD) (K : PySem.W.Frag) (mg : Str → Option Value) : Prop where
  ex : ∃ h : Heap, K.In h ∧ h.Ns mainGlobals mg ∧ He.SaysD fa fn K
section
variable {fa : List He.Fa} {fn : List He.DefD} {K : PySem.W.Frag} {mg : Str → Option Value}
theorem Top.def_ (T : Top fa fn K mg) (i j : Nat) {d : He.DefD} (h : fn[i]? = some d) (h' : fa[j]? = some (.glo d.name)) (e : d.at_ = (d.name, none)) :
    ∃ f fd, FunD K d.name d.qual d.params d.body d.scope (d.dvs K) (d.kws K) f fd ∧ mg d.name = some (.ref f) := by
  obtain ⟨hp, X, G, c⟩ := T.ex
  obtain ⟨fd, F⟩ := c.def_ i h
  have g := He.glo_ok X G (c.fact j h')
  have e2 : He.fAd K d.at_ = He.ga K d.name := by rw [e]; rfl
  rw [e2] at F
  exact ⟨_, fd, F, g⟩
theorem Top.free (T : Top fa fn K mg) (j : Nat) {x : Str} (h' : fa[j]? = some (.free x)) : mg x = none := by
  obtain ⟨hp, X, G, c⟩ := T.ex
  exact He.free_ok X G (c.fact j h')
theorem Top.int (T : Top fa fn K mg) (j : Nat) {x : Str} {i : Int} (h' : fa[j]? = some (.int x i)) : ∃ t, mg x = some (.int i t) := by
  obtain ⟨hp, X, G, c⟩ := T.ex
  exact He.int_ok X G (c.fact j h')
theorem Top.str (T : Top fa fn K mg) (j : Nat) {x z : Str} (h' : fa[j]? = some (.str x z)) : ∃ t, mg x = some (.str z t) := by
  obtain ⟨hp, X, G, c⟩ := T.ex
  exact He.str_ok X G (c.fact j h')
end
end DL

set_option maxHeartbeats 4000000
namespace DL
open PySem PySem.Spec L2
/-- a def that changes nothing and hands back f of its arguments, where pre holds -/
def spP (pre : List D → Prop) (f : List D → D) : DSp := fun ds s Q => pre ds ∧ Q (f ds) s
theorem size_small {n : Nat} (h : n ≤ 1000000) : n ≤ sizeLine := Nat.le_trans h (by decide)
theorem size_small' {n : Nat} (h : n ≤ 1000000) : n < sizeLine := Nat.lt_of_le_of_lt h (by decide)
@[simp] theorem size0 : (0 ≤ sizeLine) = True := by simp
@[simp] theorem size1 : (1 ≤ sizeLine) = True := by simp; decide
@[simp] theorem size2 : (2 ≤ sizeLine) = True := by simp; decide
@[simp] theorem size3 : (3 ≤ sizeLine) = True := by simp; decide
@[simp] theorem size4 : (4 ≤ sizeLine) = True := by simp; decide
@[simp] theorem size5 : (5 ≤ sizeLine) = True := by simp; decide
theorem sizel0 : (0 < sizeLine) = True := eq_true (by decide)
theorem sizel1 : (1 < sizeLine) = True := eq_true (by decide)
theorem sizel2 : (2 < sizeLine) = True := eq_true (by decide)
theorem sizel3 : (3 < sizeLine) = True := eq_true (by decide)
theorem sizel4 : (4 < sizeLine) = True := eq_true (by decide)
theorem sizel5 : (5 < sizeLine) = True := eq_true (by decide)
theorem sizel6 : (6 < sizeLine) = True := eq_true (by decide)
theorem sizel7 : (7 < sizeLine) = True := eq_true (by decide)
theorem size6 : (6 ≤ sizeLine) = True := eq_true (by decide)
theorem size7 : (7 ≤ sizeLine) = True := eq_true (by decide)
theorem size8 : (8 ≤ sizeLine) = True := eq_true (by decide)
@[simp] theorem atI_0 {α : Type} {x : α} {xs : List α} : L2.atI (x :: xs) 0 = some x := by simp [L2.atI, L2.ixN]
@[simp] theorem atI_1 {α : Type} {x y : α} {xs : List α} : L2.atI (x :: y :: xs) 1 = some y := by
  have h : L2.ixN (x :: y :: xs).length 1 = some 1 := by
    unfold L2.ixN; rw [if_pos (by decide), if_pos (by simp only [List.length_cons]; omega)]; rfl
  unfold L2.atI; rw [h]; rfl
theorem atI_nat' {α : Type} {xs : List α} {i : Nat} {x : α} (h : xs[i]? = some x) : L2.atI xs (i : Int) = some x := by
  have hi : i < xs.length := by
    rcases Nat.lt_or_ge i xs.length with q | q
    · exact q
    · rw [List.getElem?_eq_none q] at h; cases h
  have e : L2.ixN xs.length (i : Int) = some i := by
    unfold L2.ixN; rw [if_pos (by omega), if_pos (by omega)]; simp
  unfold L2.atI; rw [e]; exact h
theorem mul_ok {i j : Int} {n : Nat} (h1 : i.natAbs < 2 ^ n) (h2 : j.natAbs < 2 ^ n) (hn : 0 < n) (h : n ≤ 1000000) : CMulD i j := by
  have x := PySem.Flt.log2_lt_of hn h1
  have y := PySem.Flt.log2_lt_of hn h2
  exact .inr (by omega)
theorem mul_okl {i j : Int} (h : i.natAbs < 2 ^ 64) : CMulD i j := .inl (.inl h)
theorem mul_okr {i j : Int} (h : j.natAbs < 2 ^ 64) : CMulD i j := .inl (.inr h)
theorem div_ok {i j : Int} {n : Nat} (h0 : j ≠ 0) (h : j.natAbs < 2 ^ n) (hn : 0 < n) (h9 : n ≤ 9000) : CDivD i j := ⟨h0, Nat.lt_of_lt_of_le (PySem.Flt.log2_lt_of hn h) h9⟩
theorem div_okc {i j : Int} (h0 : 0 < j) (h : j < 2 ^ 64) : CDivD i j := div_ok (n := 64) (by omega) (by omega) (by decide) (by decide)
theorem fin {Q : QD} {d : D} {s : S} (q : Q d s) : ∃ s'', Sub s'' s ∧ Q d s'' := ⟨s, Sub.refl s, q⟩
theorem finS {Q : QD} {d : D} {s s' : S} (u : Sub s' s) (q : Q d s') : ∃ s'', Sub s'' s ∧ Q d s'' := ⟨s', u, q⟩

/-! ### the jar of draws -/
def Fr (j : Addr) (s s' : S) : Prop := ∀ b, b ≠ j → s' b = s b
theorem Fr.refl (j : Addr) (s : S) : Fr j s s := fun _ _ => rfl
theorem Fr.trans {j : Addr} {s s1 s2 : S} (a : Fr j s s1) (b : Fr j s1 s2) : Fr j s s2 := fun p h => (b p h).trans (a p h)
theorem Fr.set {j : Addr} {s : S} {c : C} : Fr j s (s.set j c) := fun p h => S.set_ne h
/-- a jar: its dict at j, its list of cells at c, n more draws -/
structure Jar (s : S) (j c : Addr) (n : Nat) : Prop where
  ex : ∃ (a t k : Int) (ns : List Int), s j = some (.dic [(.inr "cells", .ref c), (.inr "at", .int a), (.inr "turn", .int t), (.inr "stock", .int k)]) ∧ 0 ≤ a ∧ 0 ≤ t ∧ t + (n : Int) ≤ 1000000000000 ∧ 0 ≤ k ∧ s c = some (.lst (ns.map .int)) ∧ ns.length ≤ 63
  ne : c ≠ j
theorem Jar.mono {s : S} {j c : Addr} {m n : Nat} (h : Jar s j c n) (l : m ≤ n) : Jar s j c m := by
  obtain ⟨⟨a, t, k, ns, h1, h2, h3, h4, h5⟩, h6⟩ := h
  exact ⟨⟨a, t, k, ns, h1, h2, h3, by omega, h5⟩, h6⟩
theorem Jar.fresh {s : S} {j c p : Addr} {n : Nat} (h : Jar s j c n) (e : s p = none) : p ≠ j ∧ p ≠ c := by
  obtain ⟨⟨a, t, k, ns, h1, _, _, _, _, h2, _⟩, _⟩ := h
  exact ⟨(fun z => by rw [z, h1] at e; cases e), (fun z => by rw [z, h2] at e; cases e)⟩
theorem Jar.set {s : S} {j c p : Addr} {n : Nat} {x : C} (h : Jar s j c n) (h1 : p ≠ j) (h2 : p ≠ c) : Jar (s.set p x) j c n := by
  obtain ⟨⟨a, t, k, ns, e1, b1, b2, b3, b4, e2, b5⟩, ne⟩ := h
  exact ⟨⟨a, t, k, ns, by rw [S.set_ne h1.symm]; exact e1, b1, b2, b3, b4, by rw [S.set_ne h2.symm]; exact e2, b5⟩, ne⟩
theorem Jar.del {s : S} {j c p : Addr} {n : Nat} (h : Jar s j c n) (h1 : p ≠ j) (h2 : p ≠ c) : Jar (s.del p) j c n := by
  obtain ⟨⟨a, t, k, ns, e1, b1, b2, b3, b4, e2, b5⟩, ne⟩ := h
  exact ⟨⟨a, t, k, ns, (if_neg h1.symm).trans e1, b1, b2, b3, b4, (if_neg h2.symm).trans e2, b5⟩, ne⟩
def sp_draw : DSp := fun ds s Q => ∃ j c n m, ds = [.ref j, .int m] ∧ 0 < m ∧ m < 2 ^ 64 ∧ Jar s j c (n + 1) ∧ ∀ r s', 0 ≤ r → r < m → Fr j s s' → Jar s' j c n → Q (.int r) s'
end DL

set_option maxHeartbeats 4000000
namespace DL
open PySem
/-- the jar's dict -/
abbrev jd (c : Addr) (a t k : Int) : List (L2.Key × D) := [(.inr "cells", .ref c), (.inr "at", .int a), (.inr "turn", .int t), (.inr "stock", .int k)]
section
variable {c : Addr} {a t k : Int} {d : D}
theorem ca_ : ¬ (("cells" : Str) = "at") := by decide +kernel
theorem ct_ : ¬ (("cells" : Str) = "turn") := by decide +kernel
theorem ck_ : ¬ (("cells" : Str) = "stock") := by decide +kernel
theorem at_ : ¬ (("at" : Str) = "turn") := by decide +kernel
theorem ak_ : ¬ (("at" : Str) = "stock") := by decide +kernel
theorem tk_ : ¬ (("turn" : Str) = "stock") := by decide +kernel
theorem jd_cells : valD (jd c a t k) (.inr "cells") = some (.ref c) := by simp [valD, jd, List.find?_cons]
theorem jd_at : valD (jd c a t k) (.inr "at") = some (.int a) := by simp [valD, jd, List.find?_cons, ca_]
theorem jd_turn : valD (jd c a t k) (.inr "turn") = some (.int t) := by simp [valD, jd, List.find?_cons, ct_, at_]
theorem jd_stock : valD (jd c a t k) (.inr "stock") = some (.int k) := by simp [valD, jd, List.find?_cons, ck_, ak_, tk_]
theorem jp_at {v : Int} : putD (jd c a t k) (.inr "at") (.int v) = jd c v t k := by simp [putD, jd, ca_, Ne.symm at_, Ne.symm ak_]
theorem jp_turn {v : Int} : putD (jd c a t k) (.inr "turn") (.int v) = jd c a v k := by simp [putD, jd, ct_, at_, Ne.symm tk_]
theorem jp_stock {v : Int} : putD (jd c a t k) (.inr "stock") (.int v) = jd c a t v := by simp [putD, jd, ck_, ak_, tk_]
theorem jd_fold {x : D} {a t k : Int} : List.foldl (fun acc (kv : L2.Key × D) => putD acc kv.1 kv.2) [] [(.inr "cells", x), (.inr "at", .int a), (.inr "turn", .int t), (.inr "stock", .int k)] = [(.inr "cells", x), (.inr "at", .int a), (.inr "turn", .int t), (.inr "stock", .int k)] := by
  simp [putD, ca_, ct_, ck_, at_, ak_, tk_]
theorem jd_len : ((jd c a t k).length < PySem.sizeLine) = True := eq_true (show 4 < PySem.sizeLine by decide)
end
end DL

set_option maxHeartbeats 4000000
namespace DL
open PySem
section
variable {i j : Int} {x y : Str} {b b2 : Bool} {xs ys : List D} {l m p : Addr} {s : S} {Q : QD} {k : Bool → Bool} {T : Cl} {R : ItD → S → Prop} {QB : Bool → S → Prop}
theorem rAdd_i : rAdd (.int i) (.int j) s Q = Q (.int (i + j)) s := rfl
theorem rAdd_s : rAdd (.str x) (.str y) s Q = (x.length + y.length ≤ sizeLine ∧ Q (.str (x ++ y)) s) := rfl
theorem rAdd_t : rAdd (.tup xs) (.tup ys) s Q = (xs.length + ys.length ≤ sizeLine ∧ Q (.tup (xs ++ ys)) s) := rfl
theorem rAdd_l : rAdd (.ref l) (.ref m) s Q = ∃ xs ys, s l = some (.lst xs) ∧ s m = some (.lst ys) ∧ xs.length + ys.length ≤ sizeLine ∧ ∀ p, s p = none → Q (.ref p) (s.set p (.lst (xs ++ ys))) := rfl
theorem rIAdd_i : rIAdd (.int i) (.int j) s Q = Q (.int (i + j)) s := rfl
theorem rIAdd_s : rIAdd (.str x) (.str y) s Q = (x.length + y.length ≤ sizeLine ∧ Q (.str (x ++ y)) s) := rfl
theorem rIAdd_l : rIAdd (.ref l) (.ref m) s Q = ∃ xs ys, s l = some (.lst xs) ∧ s m = some (.lst ys) ∧ xs.length + ys.length ≤ sizeLine ∧ Q (.ref l) (s.set l (.lst (xs ++ ys))) := rfl
theorem rSub_i : rSub (.int i) (.int j) s Q = Q (.int (i - j)) s := rfl
theorem rMul_i : rMul (.int i) (.int j) s Q = (CMulD i j ∧ Q (.int (i * j)) s) := rfl
theorem rMul_l : rMul (.ref l) (.int j) s Q = ∃ xs, s l = some (.lst xs) ∧ -(2 ^ 63) ≤ j ∧ j < 2 ^ 63 ∧ xs.length * j.toNat ≤ sizeLine ∧ ∀ p, s p = none → Q (.ref p) (s.set p (.lst (List.replicate j.toNat xs).flatten)) := rfl
theorem rFdiv_i : rFdiv (.int i) (.int j) s Q = (CDivD i j ∧ Q (.int (i.fdiv j)) s) := rfl
theorem rMod_i : rMod (.int i) (.int j) s Q = (j ≠ 0 ∧ Q (.int (i.fmod j)) s) := rfl
theorem rPow_i : rPow (.int i) (.int j) s Q = (L2.CPow i j ∧ Q (.int (i ^ j.toNat)) s) := rfl
theorem rNeg_i : rNeg (.int i) s Q = Q (.int (-i)) s := rfl
theorem rEq_ii : rEqD k (.int i) (.int j) s Q = Q (.bl (k (decide (i = j)))) s := rfl
theorem rEq_ss : rEqD k (.str x) (.str y) s Q = Q (.bl (k (decide (x = y)))) s := rfl
theorem rEq_ns : rEqD k .non (.str y) s Q = Q (.bl (k false)) s := rfl
theorem rEq_sn : rEqD k (.str x) .non s Q = Q (.bl (k false)) s := rfl
theorem rEq_is : rEqD k (.int i) (.str y) s Q = Q (.bl (k false)) s := rfl
theorem rEq_si : rEqD k (.str x) (.int j) s Q = Q (.bl (k false)) s := rfl
theorem rEq_bs : rEqD k (.bl b) (.str y) s Q = Q (.bl (k false)) s := rfl
theorem rEq_sb : rEqD k (.str x) (.bl b) s Q = Q (.bl (k false)) s := rfl
theorem rEq_bb : rEqD k (.bl b) (.bl b2) s Q = Q (.bl (k (b == b2))) s := by
  show (D.fine (.bl b) = true ∧ D.fine (.bl b2) = true ∧ Q (.bl (k (D.eqv (.bl b) (.bl b2)))) s) = _
  simp [D.fine, D.ok, D.dep, D.eqv]
theorem rEq_nn : rEqD k .non .non s Q = Q (.bl (k true)) s := by
  show (D.fine .non = true ∧ D.fine .non = true ∧ Q (.bl (k (D.eqv .non .non))) s) = _
  simp [D.fine, D.ok, D.dep, D.eqv]
theorem rEq_tt : rEqD k (.tup xs) (.tup ys) s Q = (D.fine (.tup xs) = true ∧ D.fine (.tup ys) = true ∧ Q (.bl (k (D.eqv (.tup xs) (.tup ys)))) s) := rfl
theorem rEq_nt : rEqD k .non (.tup ys) s Q = (D.fine (.tup ys) = true ∧ Q (.bl (k false)) s) := by
  show (D.fine .non = true ∧ D.fine (.tup ys) = true ∧ Q (.bl (k (D.eqv .non (.tup ys)))) s) = _
  simp [D.fine, D.ok, D.dep, D.eqv]
theorem rEq_tn : rEqD k (.tup xs) .non s Q = (D.fine (.tup xs) = true ∧ Q (.bl (k false)) s) := by
  show (D.fine (.tup xs) = true ∧ D.fine .non = true ∧ Q (.bl (k (D.eqv (.tup xs) .non))) s) = _
  simp [D.fine, D.ok, D.dep, D.eqv]
theorem rLt_i : rLt (.int i) (.int j) s Q = Q (.bl (decide (i < j))) s := rfl
theorem rGt_i : rGt (.int i) (.int j) s Q = Q (.bl (decide (j < i))) s := rfl
theorem rLe_i : rLe (.int i) (.int j) s Q = Q (.bl (decide (i ≤ j))) s := rfl
theorem rGe_i : rGe (.int i) (.int j) s Q = Q (.bl (decide (j ≤ i))) s := rfl
theorem rLe_s : rLe (.str x) (.str y) s Q = Q (.bl (!decide (y.cps.toList < x.cps.toList))) s := rfl
theorem rLt_s : rLt (.str x) (.str y) s Q = Q (.bl (decide (x.cps.toList < y.cps.toList))) s := rfl
theorem rIs_nn : rIs k .non .non s Q = Q (.bl (k true)) s := rfl
theorem rIs_bb : rIs k (.bl b) (.bl b2) s Q = Q (.bl (k (decide (b = b2)))) s := rfl
theorem rIs_in : rIs k (.int i) .non s Q = Q (.bl (k false)) s := rfl
theorem rIs_sn : rIs k (.str x) .non s Q = Q (.bl (k false)) s := rfl
theorem rIs_bn : rIs k (.bl b) .non s Q = Q (.bl (k false)) s := rfl
theorem rIs_rn : rIs k (.ref p) .non s Q = Q (.bl (k false)) s := rfl
theorem rIs_tn : rIs k (.tup xs) .non s Q = Q (.bl (k false)) s := rfl
theorem rTru_n : rTru .non s QB = QB false s := rfl
theorem rTru_b : rTru (.bl b) s QB = QB b s := rfl
theorem rTru_i : rTru (.int i) s QB = QB (i != 0) s := rfl
theorem rTru_s : rTru (.str x) s QB = (x.length ≤ sizeLine ∧ QB ((x.length : Int) != 0) s) := rfl
theorem rTru_t : rTru (.tup xs) s QB = QB (!xs.isEmpty) s := rfl
theorem rTru_l : rTru (.ref p) s QB = ∃ ds, s p = some (.lst ds) ∧ QB (!ds.isEmpty) s := rfl
theorem rIx_t : rIxD (.tup xs) (.int i) s Q = ∃ d, L2.atI xs i = some d ∧ Q d s := rfl
theorem rIx_l : rIxD (.ref p) (.int i) s Q = ∃ ds d, s p = some (.lst ds) ∧ L2.atI ds i = some d ∧ Q d s := rfl
theorem rIx_s : rIxD (.str x) (.int i) s Q = (x.length ≤ sizeLine ∧ ∃ c, L2.atI x.cps.toList i = some c ∧ Q (.str ⟨#[c]⟩) s) := rfl
theorem rLen_s : rLenD [.str x] s Q = (x.length ≤ sizeLine ∧ Q (.int x.length) s) := rfl
theorem rLen_t : rLenD [.tup xs] s Q = Q (.int xs.length) s := rfl
theorem rLen_l : rLenD [.ref p] s Q = ∃ n, lenOf (s p) = some n ∧ Q (.int (n : Nat)) s := rfl
theorem lenOf_l : lenOf (some (.lst xs)) = some xs.length := rfl
theorem lenOf_d {kvs : List (L2.Key × D)} : lenOf (some (.dic kvs)) = some kvs.length := rfl
theorem rAbs_i : rAbs [.int i] s Q = Q (.int (i.natAbs : Int)) s := by
  have e : (if i < 0 then -i else i) = (i.natAbs : Int) := by split <;> omega
  show Q (.int (if i < 0 then -i else i)) s = _
  rw [e]
theorem rInt_i : rIntOf [.int i] s Q = Q (.int i) s := rfl
theorem rStr_i : rStrOf [.int i] s Q = (i.natAbs.log2 < 1920 ∧ Q (.str (toString i)) s) := rfl
theorem rMax_i : rMax [.int i, .int j] s Q = Q (.int (if j > i then j else i)) s := rfl
theorem rMin_i : rMin [.int i, .int j] s Q = Q (.int (if j < i then j else i)) s := rfl
theorem rTupOf_l : rTupOf [.ref p] s Q = ∃ ds, s p = some (.lst ds) ∧ Q (.tup ds) s := rfl
theorem rTupOf_t : rTupOf [.tup xs] s Q = Q (.tup xs) s := rfl
theorem rListOf_l : rListOf [.ref p] s Q = ∃ ds, s p = some (.lst ds) ∧ ∀ l, s l = none → Q (.ref l) (s.set l (.lst ds)) := rfl
theorem rListOf_t : rListOf [.tup xs] s Q = ∀ l, s l = none → Q (.ref l) (s.set l (.lst xs)) := rfl
theorem rAll_l : rAllD [.ref p] s Q = ∃ bs : List Bool, s p = some (.lst (bs.map D.bl)) ∧ Q (.bl (bs.all id)) s := rfl
theorem rAny_l : rAnyD [.ref p] s Q = ∃ bs : List Bool, s p = some (.lst (bs.map D.bl)) ∧ Q (.bl (bs.any id)) s := rfl
theorem rSum_l : rSumD [.ref p] s Q = ∃ ns : List Int, s p = some (.lst (ns.map D.int)) ∧ Q (.int ns.sum) s := rfl
theorem rIsi_r : rIsi T (.ref p) s Q = ∃ c, s p = some c ∧ Q (.bl (isCc T c)) s := rfl
theorem rIsi_n : rIsi T .non s Q = Q (.bl (isC T .non)) s := rfl
theorem rIsi_b : rIsi T (.bl b) s Q = Q (.bl (isC T (.bl b))) s := rfl
theorem rIsi_i : rIsi T (.int i) s Q = Q (.bl (isC T (.int i))) s := rfl
theorem rIsi_s : rIsi T (.str x) s Q = Q (.bl (isC T (.str x))) s := rfl
theorem rIsi_t : rIsi T (.tup xs) s Q = Q (.bl (isC T (.tup xs))) s := rfl
theorem iD_t : iD R (.tup xs) s = R ⟨xs, fun _ => True⟩ s := rfl
theorem iD_s : iD R (.str x) s = R ⟨signs x, fun _ => True⟩ s := rfl
theorem iD_l : iD R (.ref p) s = ∃ ds, s p = some (.lst ds) ∧ R ⟨ds, fun s' => s' p = some (.lst ds)⟩ s := rfl
theorem iR1 : iRng1D R [.int j] s = (-(2 ^ 62) ≤ j ∧ j < 2 ^ 62 ∧ R ⟨rngD 0 j.toNat, fun _ => True⟩ s) := rfl
theorem iR2 : iRng2D R [.int i, .int j] s = ((-(2 ^ 62) ≤ i ∧ i < 2 ^ 62 ∧ -(2 ^ 62) ≤ j ∧ j < 2 ^ 62) ∧ R ⟨rngD i (j - i).toNat, fun _ => True⟩ s) := rfl
theorem dPart_i {te : TD} {σ : DS} {Qo : Option Int → S → Prop} : dPart te σ s Qo = te σ s (fun x s1 => match x with | .int i => Qo (some i) s1 | _ => False) := rfl
theorem rSl_t {K : PySem.W.Frag} {lo hi : Option Int} : rSlD K (.tup xs) lo hi s Q = Q (.tup (cutD xs lo hi)) s := rfl
theorem rSl_s {K : PySem.W.Frag} {lo hi : Option Int} : rSlD K (.str x) lo hi s Q = (x.length ≤ sizeLine ∧ Q (.str (L2.cutS x lo hi)) s) := rfl
theorem rSl_l {K : PySem.W.Frag} {lo hi : Option Int} : rSlD K (.ref l) lo hi s Q = ∃ ds, (s l = some (.lst ds) ∨ s l = some (.ro ds) ∨ KRo K l ds) ∧ ∀ p, s p = none → Q (.ref p) (s.set p (.lst (cutD ds lo hi))) := rfl
end
/-- a comprehension whose item changes nothing -/
theorem lcD_pure {g : TDG} {te : TD} {G : S → Prop} {σ : DS} {p : Addr} {Q : S → Prop} (f : D → D) (s0 : S) : ∀ (ds acc : List D), (∀ d ∈ ds, ∀ (acc : List D) (Q' : QD), Q' (f d) (s0.set p (.lst acc)) → g d σ (s0.set p (.lst acc)) fun σ1 s1 => te σ1 s1 Q') →
    (∀ acc, G (s0.set p (.lst acc))) → acc.length + ds.length < sizeLine → Q (s0.set p (.lst (acc ++ ds.map f))) → lcD g dYes te G σ p Q ds (s0.set p (.lst acc))
  | [], acc, _, hG, _, hQ => ⟨hG acc, by simpa using hQ⟩
  | d :: ds, acc, h, hG, hl, hQ => by
    refine ⟨hG acc, ?_⟩
    refine h d List.mem_cons_self acc (fun y s3 => ∃ acc, s3 p = some (.lst acc) ∧ acc.length < sizeLine ∧ lcD g dYes te G σ p Q ds (s3.set p (.lst (acc ++ [y])))) ?_
    refine ⟨acc, S.set_same, by simp only [List.length_cons] at hl; omega, ?_⟩
    rw [S.set_set]
    refine lcD_pure f s0 ds (acc ++ [f d]) (fun d hd => h d (List.mem_cons_of_mem _ hd)) hG (by simp only [List.length_append, List.length_cons, List.length_nil] at hl ⊢; omega) ?_
    simpa using hQ
end DL

set_option maxHeartbeats 4000000
namespace Toy
open PySem PySem.Spec L2 DL
def top (i : Nat) : Stmt := PySem.Challenge.pw_paidnomore_k38_fractions.main.body.getD i (.Pass ⟨0, 0, 0, 0⟩)
abbrev s_is_tuple : Stmt := top 1
def d_is_tuple : He.DefD := ⟨("is_tuple", none), "is_tuple", "is_tuple", defArgs s_is_tuple, defBody s_is_tuple, defScope s_is_tuple, [], []⟩
abbrev s_greatest_part : Stmt := top 3
def d_greatest_part : He.DefD := ⟨("greatest_part", none), "greatest_part", "greatest_part", defArgs s_greatest_part, defBody s_greatest_part, defScope s_greatest_part, [], []⟩
abbrev s_fraction : Stmt := top 4
def d_fraction : He.DefD := ⟨("fraction", none), "fraction", "fraction", defArgs s_fraction, defBody s_fraction, defScope s_fraction, [], []⟩
abbrev s_whole : Stmt := top 5
def d_whole : He.DefD := ⟨("whole", none), "whole", "whole", defArgs s_whole, defBody s_whole, defScope s_whole, [], []⟩
abbrev s_is_fraction : Stmt := top 6
def d_is_fraction : He.DefD := ⟨("is_fraction", none), "is_fraction", "is_fraction", defArgs s_is_fraction, defBody s_is_fraction, defScope s_is_fraction, [], []⟩
abbrev s_plus : Stmt := top 7
def d_plus : He.DefD := ⟨("plus", none), "plus", "plus", defArgs s_plus, defBody s_plus, defScope s_plus, [], []⟩
abbrev s_minus : Stmt := top 8
def d_minus : He.DefD := ⟨("minus", none), "minus", "minus", defArgs s_minus, defBody s_minus, defScope s_minus, [], []⟩
abbrev s_times : Stmt := top 9
def d_times : He.DefD := ⟨("times", none), "times", "times", defArgs s_times, defBody s_times, defScope s_times, [], []⟩
abbrev s_per : Stmt := top 10
def d_per : He.DefD := ⟨("per", none), "per", "per", defArgs s_per, defBody s_per, defScope s_per, [], []⟩
abbrev s_below : Stmt := top 11
def d_below : He.DefD := ⟨("below", none), "below", "below", defArgs s_below, defBody s_below, defScope s_below, [], []⟩
abbrev s_common : Stmt := top 12
def d_common : He.DefD := ⟨("common", none), "common", "common", defArgs s_common, defBody s_common, defScope s_common, [], []⟩
abbrev s__law_is_int : Stmt := top 14
def d__law_is_int : He.DefD := ⟨("_law_is_int", none), "_law_is_int", "_law_is_int", defArgs s__law_is_int, defBody s__law_is_int, defScope s__law_is_int, [], []⟩
abbrev s__law_gcd : Stmt := top 15
def d__law_gcd : He.DefD := ⟨("_law_gcd", none), "_law_gcd", "_law_gcd", defArgs s__law_gcd, defBody s__law_gcd, defScope s__law_gcd, [], []⟩
abbrev s__law_lowest : Stmt := top 16
def d__law_lowest : He.DefD := ⟨("_law_lowest", none), "_law_lowest", "_law_lowest", defArgs s__law_lowest, defBody s__law_lowest, defScope s__law_lowest, [], []⟩
abbrev s__law_is_form : Stmt := top 17
def d__law_is_form : He.DefD := ⟨("_law_is_form", none), "_law_is_form", "_law_is_form", defArgs s__law_is_form, defBody s__law_is_form, defScope s__law_is_form, [], []⟩
abbrev s__law_size : Stmt := top 18
def d__law_size : He.DefD := ⟨("_law_size", none), "_law_size", "_law_size", defArgs s__law_size, defBody s__law_size, defScope s__law_size, [], []⟩
abbrev s__law_pair : Stmt := top 19
def d__law_pair : He.DefD := ⟨("_law_pair", none), "_law_pair", "_law_pair", defArgs s__law_pair, defBody s__law_pair, defScope s__law_pair, [], []⟩
abbrev s__law_two : Stmt := top 20
def d__law_two : He.DefD := ⟨("_law_two", none), "_law_two", "_law_two", defArgs s__law_two, defBody s__law_two, defScope s__law_two, [], []⟩
abbrev s__law_is_common : Stmt := top 21
def d__law_is_common : He.DefD := ⟨("_law_is_common", none), "_law_is_common", "_law_is_common", defArgs s__law_is_common, defBody s__law_is_common, defScope s__law_is_common, [], []⟩
abbrev s__law_changed : Stmt := top 22
def d__law_changed : He.DefD := ⟨("_law_changed", none), "_law_changed", "_law_changed", defArgs s__law_changed, defBody s__law_changed, defScope s__law_changed, [], []⟩
abbrev s__law_jar : Stmt := top 23
def d__law_jar : He.DefD := ⟨("_law_jar", none), "_law_jar", "_law_jar", defArgs s__law_jar, defBody s__law_jar, defScope s__law_jar, [], []⟩
abbrev s__law_mixed : Stmt := top 24
def d__law_mixed : He.DefD := ⟨("_law_mixed", none), "_law_mixed", "_law_mixed", defArgs s__law_mixed, defBody s__law_mixed, defScope s__law_mixed, [], []⟩
abbrev s__law_draw : Stmt := top 25
def d__law_draw : He.DefD := ⟨("_law_draw", none), "_law_draw", "_law_draw", defArgs s__law_draw, defBody s__law_draw, defScope s__law_draw, [], []⟩
abbrev s__law_of : Stmt := top 26
def d__law_of : He.DefD := ⟨("_law_of", none), "_law_of", "_law_of", defArgs s__law_of, defBody s__law_of, defScope s__law_of, [], []⟩
abbrev s_law : Stmt := top 27
def d_law : He.DefD := ⟨("law", none), "law", "law", defArgs s_law, defBody s_law, defScope s_law, [], []⟩
def fn : List He.DefD := ([d_is_tuple, d_greatest_part, d_fraction, d_whole, d_is_fraction, d_plus, d_minus, d_times, d_per, d_below, d_common, d__law_is_int, d__law_gcd, d__law_lowest, d__law_is_form, d__law_size, d__law_pair, d__law_two, d__law_is_common, d__law_changed] : List He.DefD) ++ ([d__law_jar, d__law_mixed, d__law_draw, d__law_of, d_law] : List He.DefD)
def fa : List He.Fa := ([.glo "is_tuple", .glo "greatest_part", .glo "fraction", .glo "whole", .glo "is_fraction", .glo "plus", .glo "minus", .glo "times", .glo "per", .glo "below", .glo "common", .glo "_law_is_int", .glo "_law_gcd", .glo "_law_lowest", .glo "_law_is_form", .glo "_law_size", .glo "_law_pair", .glo "_law_two", .glo "_law_is_common", .glo "_law_changed"] : List He.Fa) ++ ([.glo "_law_jar", .glo "_law_mixed", .glo "_law_draw", .glo "_law_of", .glo "law", .free "abs", .free "all", .free "bool", .free "int", .free "isinstance", .free "len", .free "range", .free "str", .free "tuple"] : List He.Fa)
def names : List Str := (["is_tuple", "greatest_part", "fraction", "whole", "is_fraction", "plus", "minus", "times", "per", "below", "common", "_law_is_int", "_law_gcd", "_law_lowest", "_law_is_form", "_law_size", "_law_pair", "_law_two", "_law_is_common", "_law_changed"] : List Str) ++ (["_law_jar", "_law_mixed", "_law_draw", "_law_of"] : List Str)
abbrev Tp (K : PySem.W.Frag) (mg : Str → Option Value) : Prop := Top fa fn K mg
end Toy

set_option maxHeartbeats 4000000
/-! readings of the defs, printed by gen.py -/
namespace Toy
open PySem DL
def N_is_tuple : List Str := ["thing", "least", "most"]
def t_is_tuple (K : PySem.W.Frag) : TDS :=
  (dRet (dAndV (dUn (rIsi .tuple) (dVar 0)) (dChain rLe rLe (dVar 1) (dCB rLenD (daCons (dVar 0) daNil)) (dVar 2))))
def N_greatest_part : List Str := ["one", "two"]
def t_greatest_part (K : PySem.W.Frag) : TDS :=
  (dSeq (dPar 0 1 (daCons (dCB rAbs (daCons (dVar 0) daNil)) (daCons (dCB rAbs (daCons (dVar 1) daNil)) daNil)))
    (dSeq (dWhile (dTest (dOp (rEqD not) (dVar 1) (dC (.int 0)))) (dPar 0 1 (daCons (dVar 1) (daCons (dOp rMod (dVar 0) (dVar 1)) daNil))))
    (dRet (dVar 0))))
def N_fraction : List Str := ["top", "bottom", "part"]
def t_fraction (K : PySem.W.Frag) (sp_greatest_part : DSp) : TDS :=
  (dSeq (dAsg (dCall sp_greatest_part (daCons (dVar 0) (daCons (dVar 1) daNil))) (dgName 2))
    (dSeq (dIfS (dTest (dOp rLt (dVar 1) (dC (.int 0)))) (dAsg (dUn rNeg (dVar 2)) (dgName 2)) dNext)
    (dRet (dTup (daCons (dOp rFdiv (dVar 0) (dVar 2)) (daCons (dOp rFdiv (dVar 1) (dVar 2)) daNil))))))
def N_whole : List Str := ["n"]
def t_whole (K : PySem.W.Frag) : TDS :=
  (dRet (dTup (daCons (dVar 0) (daCons (dC (.int 1)) daNil))))
def N_is_fraction : List Str := ["thing", "part"]
def t_is_fraction (K : PySem.W.Frag) (sp_is_tuple sp_greatest_part : DSp) : TDS :=
  (dSeq (dIfS (dNot (dTru (dCall sp_is_tuple (daCons (dVar 0) (daCons (dC (.int 2)) (daCons (dC (.int 2)) daNil)))))) (dRet (dC (.bl false))) dNext)
    (dSeq (dFor (dIter (dVar 0)) (dgName 1) (dIfS (dOr (dNot (dTru (dUn (rIsi .int) (dVar 1)))) (dTru (dUn (rIsi .bool) (dVar 1)))) (dRet (dC (.bl false))) dNext))
    (dRet (dAndV (dOp rGe (dOp rIxD (dVar 0) (dC (.int 1))) (dC (.int 1))) (dOp (rEqD id) (dCall sp_greatest_part (daCons (dOp rIxD (dVar 0) (dC (.int 0))) (daCons (dOp rIxD (dVar 0) (dC (.int 1))) daNil))) (dC (.int 1)))))))
def N_plus : List Str := ["a", "b"]
def t_plus (K : PySem.W.Frag) (sp_fraction : DSp) : TDS :=
  (dRet (dCall sp_fraction (daCons (dOp rAdd (dOp rMul (dOp rIxD (dVar 0) (dC (.int 0))) (dOp rIxD (dVar 1) (dC (.int 1)))) (dOp rMul (dOp rIxD (dVar 1) (dC (.int 0))) (dOp rIxD (dVar 0) (dC (.int 1))))) (daCons (dOp rMul (dOp rIxD (dVar 0) (dC (.int 1))) (dOp rIxD (dVar 1) (dC (.int 1)))) daNil))))
def N_minus : List Str := ["a", "b"]
def t_minus (K : PySem.W.Frag) (sp_fraction : DSp) : TDS :=
  (dRet (dCall sp_fraction (daCons (dOp rSub (dOp rMul (dOp rIxD (dVar 0) (dC (.int 0))) (dOp rIxD (dVar 1) (dC (.int 1)))) (dOp rMul (dOp rIxD (dVar 1) (dC (.int 0))) (dOp rIxD (dVar 0) (dC (.int 1))))) (daCons (dOp rMul (dOp rIxD (dVar 0) (dC (.int 1))) (dOp rIxD (dVar 1) (dC (.int 1)))) daNil))))
def N_times : List Str := ["a", "b"]
def t_times (K : PySem.W.Frag) (sp_fraction : DSp) : TDS :=
  (dRet (dCall sp_fraction (daCons (dOp rMul (dOp rIxD (dVar 0) (dC (.int 0))) (dOp rIxD (dVar 1) (dC (.int 0)))) (daCons (dOp rMul (dOp rIxD (dVar 0) (dC (.int 1))) (dOp rIxD (dVar 1) (dC (.int 1)))) daNil))))
def N_per : List Str := ["a", "b"]
def t_per (K : PySem.W.Frag) (sp_fraction : DSp) : TDS :=
  (dRet (dCall sp_fraction (daCons (dOp rMul (dOp rIxD (dVar 0) (dC (.int 0))) (dOp rIxD (dVar 1) (dC (.int 1)))) (daCons (dOp rMul (dOp rIxD (dVar 0) (dC (.int 1))) (dOp rIxD (dVar 1) (dC (.int 0)))) daNil))))
def N_below : List Str := ["a", "b"]
def t_below (K : PySem.W.Frag) : TDS :=
  (dRet (dOp rLt (dOp rMul (dOp rIxD (dVar 0) (dC (.int 0))) (dOp rIxD (dVar 1) (dC (.int 1)))) (dOp rMul (dOp rIxD (dVar 1) (dC (.int 0))) (dOp rIxD (dVar 0) (dC (.int 1))))))
def N_common : List Str := ["fractions", "found", "one"]
def t_common (K : PySem.W.Frag) (sp_greatest_part : DSp) : TDS :=
  (dSeq (dAsg (dC (.int 1)) (dgName 1))
    (dSeq (dFor (dIter (dVar 0)) (dgName 2) (dAsg (dOp rFdiv (dOp rMul (dVar 1) (dOp rIxD (dVar 2) (dC (.int 1)))) (dCall sp_greatest_part (daCons (dVar 1) (daCons (dOp rIxD (dVar 2) (dC (.int 1))) daNil)))) (dgName 1)))
    (dRet (dVar 1))))
def N__law_is_int : List Str := ["thing"]
def t__law_is_int (K : PySem.W.Frag) : TDS :=
  (dRet (dAndV (dUn (rIsi .int) (dVar 0)) (dNotV (dUn (rIsi .bool) (dVar 0)))))
def N__law_gcd : List Str := ["one", "two"]
def t__law_gcd (K : PySem.W.Frag) : TDS :=
  (dSeq (dPar 0 1 (daCons (dCB rAbs (daCons (dVar 0) daNil)) (daCons (dCB rAbs (daCons (dVar 1) daNil)) daNil)))
    (dSeq (dWhile (dTest (dOp (rEqD not) (dVar 1) (dC (.int 0)))) (dPar 0 1 (daCons (dVar 1) (daCons (dOp rMod (dCB rIntOf (daCons (dVar 0) daNil)) (dVar 1)) daNil))))
    (dRet (dVar 0))))
def N__law_lowest : List Str := ["top", "bottom", "part"]
def t__law_lowest (K : PySem.W.Frag) (sp__law_gcd : DSp) : TDS :=
  (dSeq (dAsg (dCall sp__law_gcd (daCons (dVar 0) (daCons (dVar 1) daNil))) (dgName 2))
    (dSeq (dIfS (dTest (dOp rLt (dVar 1) (dC (.int 0)))) (dAsg (dUn rNeg (dVar 2)) (dgName 2)) dNext)
    (dRet (dTup (daCons (dOp rFdiv (dVar 0) (dVar 2)) (daCons (dOp rFdiv (dVar 1) (dVar 2)) daNil))))))
def N__law_is_form : List Str := ["told", "top", "bottom"]
def t__law_is_form (K : PySem.W.Frag) (sp__law_is_int sp__law_gcd : DSp) : TDS :=
  (dSeq (dIfS (dOr (dNot (dTru (dUn (rIsi .tuple) (dVar 0)))) (dTest (dOp (rEqD not) (dCB rLenD (daCons (dVar 0) daNil)) (dC (.int 2))))) (dRet (dC (.bl false))) dNext)
    (dSeq (dIfS (dOr (dNot (dTru (dCall sp__law_is_int (daCons (dOp rIxD (dVar 0) (dC (.int 0))) daNil)))) (dOr (dNot (dTru (dCall sp__law_is_int (daCons (dOp rIxD (dVar 0) (dC (.int 1))) daNil)))) (dTest (dOp rLt (dOp rIxD (dVar 0) (dC (.int 1))) (dC (.int 1)))))) (dRet (dC (.bl false))) dNext)
    (dRet (dAndV (dOp (rEqD id) (dOp rMul (dOp rIxD (dVar 0) (dC (.int 0))) (dVar 2)) (dOp rMul (dVar 1) (dOp rIxD (dVar 0) (dC (.int 1))))) (dOp (rEqD id) (dCall sp__law_gcd (daCons (dOp rIxD (dVar 0) (dC (.int 0))) (daCons (dOp rIxD (dVar 0) (dC (.int 1))) daNil))) (dC (.int 1)))))))
def N__law_size : List Str := ["jar", "number", "way", "at"]
def t__law_size (K : PySem.W.Frag) (sp__law_draw : DSp) : TDS :=
  (dSeq (dAsg (dOp rAdd (dC (.int 1)) (dCall sp__law_draw (daCons (dVar 0) (daCons (dC (.int 9)) daNil)))) (dgName 1))
    (dSeq (dAsg (dCall sp__law_draw (daCons (dVar 0) (daCons (dC (.int 4)) daNil))) (dgName 2))
    (dSeq (dIfS (dTest (dOp rGt (dVar 2) (dC (.int 0)))) (dFor (fun σ s R => (daCons (dC (.int 3)) daNil) σ s fun ds s1 => iRng1D R ds s1) (dgName 3) (dAsg (dOp rMul (dVar 1) (dOp rAdd (dC (.int 1)) (dCall sp__law_draw (daCons (dVar 0) (daCons (dC (.int 12)) daNil))))) (dgName 1))) dNext)
    (dSeq (dIfS (dTest (dOp (rEqD id) (dVar 2) (dC (.int 3)))) (dFor (fun σ s R => (daCons (dC (.int 3)) daNil) σ s fun ds s1 => iRng1D R ds s1) (dgName 3) (dAsg (dOp rAdd (dOp rMul (dVar 1) (dC (.int 1000000007))) (dCall sp__law_draw (daCons (dVar 0) (daCons (dC (.int 500000000)) daNil)))) (dgName 1))) dNext)
    (dRet (dVar 1))))))
def N__law_pair : List Str := ["jar", "pairs", "top", "bottom", "way", "many", "one", "two"]
def t__law_pair (K : PySem.W.Frag) (sp__law_draw sp__law_of sp__law_size : DSp) : TDS :=
  (dSeq (dAsg (dOp rMul (dCall sp__law_size (daCons (dVar 0) daNil)) (dOp rSub (dC (.int 1)) (dOp rMul (dC (.int 2)) (dCall sp__law_draw (daCons (dVar 0) (daCons (dC (.int 2)) daNil)))))) (dgName 2))
    (dSeq (dAsg (dOp rMul (dCall sp__law_size (daCons (dVar 0) daNil)) (dOp rSub (dC (.int 1)) (dOp rMul (dC (.int 2)) (dCall sp__law_draw (daCons (dVar 0) (daCons (dC (.int 2)) daNil)))))) (dgName 3))
    (dSeq (dAsg (dCall sp__law_draw (daCons (dVar 0) (daCons (dC (.int 9)) daNil))) (dgName 4))
    (dSeq (dIfS (dTest (dOp (rEqD id) (dVar 4) (dC (.int 0)))) (dRet (dTup (daCons (dC (.int 0)) (daCons (dVar 3) daNil)))) dNext)
    (dSeq (dIfS (dOr (dTest (dOp rLt (dVar 4) (dC (.int 5)))) (dTest (dOp (rEqD id) (dCB rLenD (daCons (dVar 1) daNil)) (dC (.int 0))))) (dRet (dTup (daCons (dVar 2) (daCons (dVar 3) daNil)))) dNext)
    (dSeq (dAsg (dCall sp__law_of (daCons (dVar 0) (daCons (dVar 1) daNil))) (dgTup 2 (dgCons (dgName 6) (dgCons (dgName 7) dgNil))))
    (dSeq (dAsg (dOp rAdd (dC (.int 1)) (dCall sp__law_draw (daCons (dVar 0) (daCons (dC (.int 50)) daNil)))) (dgName 5))
    (dSeq (dIfS (dTest (dOp (rEqD id) (dVar 4) (dC (.int 5)))) (dRet (dTup (daCons (dOp rMul (dVar 6) (dVar 5)) (daCons (dOp rMul (dVar 7) (dVar 5)) daNil)))) dNext)
    (dSeq (dIfS (dTest (dOp (rEqD id) (dVar 4) (dC (.int 6)))) (dRet (dTup (daCons (dOp rMul (dUn rNeg (dVar 6)) (dVar 5)) (daCons (dOp rMul (dVar 7) (dVar 5)) daNil)))) dNext)
    (dSeq (dIfS (dAnd (dTest (dOp (rEqD id) (dVar 4) (dC (.int 7)))) (dTest (dOp (rEqD not) (dVar 6) (dC (.int 0))))) (dRet (dTup (daCons (dOp rMul (dVar 7) (dVar 5)) (daCons (dOp rMul (dVar 6) (dVar 5)) daNil)))) dNext)
    (dRet (dTup (daCons (dOp rSub (dOp rAdd (dOp rMul (dVar 6) (dVar 5)) (dC (.int 1))) (dOp rMul (dC (.int 2)) (dCall sp__law_draw (daCons (dVar 0) (daCons (dC (.int 2)) daNil))))) (daCons (dOp rMul (dVar 7) (dVar 5)) daNil))))))))))))))
def N__law_two : List Str := ["one", "two", "told", "a", "b", "c", "d"]
def t__law_two (K : PySem.W.Frag) (sp_below sp__law_is_form sp_plus sp_minus sp_times sp_per : DSp) : TDS :=
  (dSeq (dAsg (dVar 0) (dgTup 2 (dgCons (dgName 3) (dgCons (dgName 4) dgNil))))
    (dSeq (dAsg (dVar 1) (dgTup 2 (dgCons (dgName 5) (dgCons (dgName 6) dgNil))))
    (dSeq (dIfS (dNot (dTru (dCall sp__law_is_form (daCons (dCall sp_plus (daCons (dVar 0) (daCons (dVar 1) daNil))) (daCons (dOp rAdd (dOp rMul (dVar 3) (dVar 6)) (dOp rMul (dVar 5) (dVar 4))) (daCons (dOp rMul (dVar 4) (dVar 6)) daNil)))))) (dRet (dC (.bl false))) dNext)
    (dSeq (dIfS (dNot (dTru (dCall sp__law_is_form (daCons (dCall sp_minus (daCons (dVar 0) (daCons (dVar 1) daNil))) (daCons (dOp rSub (dOp rMul (dVar 3) (dVar 6)) (dOp rMul (dVar 5) (dVar 4))) (daCons (dOp rMul (dVar 4) (dVar 6)) daNil)))))) (dRet (dC (.bl false))) dNext)
    (dSeq (dIfS (dNot (dTru (dCall sp__law_is_form (daCons (dCall sp_times (daCons (dVar 0) (daCons (dVar 1) daNil))) (daCons (dOp rMul (dVar 3) (dVar 5)) (daCons (dOp rMul (dVar 4) (dVar 6)) daNil)))))) (dRet (dC (.bl false))) dNext)
    (dSeq (dIfS (dAnd (dTest (dOp (rEqD not) (dVar 5) (dC (.int 0)))) (dNot (dTru (dCall sp__law_is_form (daCons (dCall sp_per (daCons (dVar 0) (daCons (dVar 1) daNil))) (daCons (dOp rMul (dVar 3) (dVar 6)) (daCons (dOp rMul (dVar 4) (dVar 5)) daNil))))))) (dRet (dC (.bl false))) dNext)
    (dSeq (dAsg (dCall sp_below (daCons (dVar 0) (daCons (dVar 1) daNil))) (dgName 2))
    (dRet (dAndV (dUn (rIsi .bool) (dVar 2)) (dOp (rEqD id) (dVar 2) (dOp rLt (dOp rMul (dVar 3) (dVar 6)) (dOp rMul (dVar 5) (dVar 4)))))))))))))
def N__law_is_common : List Str := ["ratios", "due", "told", "top", "bottom"]
def t__law_is_common (K : PySem.W.Frag) (sp_common sp__law_is_int sp__law_gcd : DSp) : TDS :=
  (dSeq (dAsg (dC (.int 1)) (dgName 1))
    (dSeq (dFor (dIter (dVar 0)) (dgTup 2 (dgCons (dgName 3) (dgCons (dgName 4) dgNil))) (dAsg (dOp rMul (dOp rFdiv (dVar 1) (dCall sp__law_gcd (daCons (dVar 1) (daCons (dVar 4) daNil)))) (dVar 4)) (dgName 1)))
    (dSeq (dAsg (dCall sp_common (daCons (dCB rTupOf (daCons (dVar 0) daNil)) daNil)) (dgName 2))
    (dRet (dAndV (dCall sp__law_is_int (daCons (dVar 2) daNil)) (dOp (rEqD id) (dVar 2) (dVar 1)))))))
def N__law_changed : List Str := ["one", "more", "deep", "at", "top", "bottom"]
def t__law_changed (K : PySem.W.Frag) : TDS :=
  (dSeq (dAsg (dVar 0) (dgTup 2 (dgCons (dgName 4) (dgCons (dgName 5) dgNil))))
    (dSeq (dAsg (dVar 0) (dgName 2))
    (dSeq (dFor (fun σ s R => (daCons (dC (.int 26)) daNil) σ s fun ds s1 => iRng1D R ds s1) (dgName 3) (dAsg (dTup (daCons (dVar 2) daNil)) (dgName 2)))
    (dRet (dLst (daCons (dTup (daCons (dOp rMul (dVar 4) (dVar 1)) (daCons (dOp rMul (dVar 5) (dVar 1)) daNil))) (daCons (dTup (daCons (dVar 4) (daCons (dC (.int 0)) daNil))) (daCons (dTup (daCons (dVar 4) (daCons (dUn rNeg (dVar 5)) daNil))) (daCons (dTup (daCons (dUn rNeg (dVar 4)) (daCons (dUn rNeg (dVar 5)) daNil))) (daCons (dTup (daCons (dVar 4) daNil)) (daCons (dTup (daCons (dVar 4) (daCons (dVar 5) (daCons (dC (.int 1)) daNil)))) (daCons (dTup (daCons (dVar 4) (daCons (dVar 5) (daCons (dVar 5) daNil)))) (daCons (dTup daNil) (daCons (dVar 4) (daCons (dC .non) (daCons (dC (.bl true)) (daCons (dC (.bl false)) (daCons (dC (.str "1")) (daCons (dC (.str "")) (daCons (dTup (daCons (dCB rStrOf (daCons (dVar 4) daNil)) (daCons (dVar 5) daNil))) (daCons (dTup (daCons (dVar 4) (daCons (dCB rStrOf (daCons (dVar 5) daNil)) daNil))) (daCons (dTup (daCons (dC .non) (daCons (dVar 5) daNil))) (daCons (dTup (daCons (dVar 4) (daCons (dC .non) daNil))) (daCons (dTup (daCons (dC (.bl true)) (daCons (dVar 5) daNil))) (daCons (dTup (daCons (dC (.bl false)) (daCons (dC (.int 1)) daNil))) (daCons (dTup (daCons (dVar 4) (daCons (dC (.bl true)) daNil))) (daCons (dTup (daCons (dVar 4) (daCons (dC (.bl false)) daNil))) (daCons (dTup (daCons (dVar 0) (daCons (dVar 5) daNil))) (daCons (dTup (daCons (dVar 4) (daCons (dVar 0) daNil))) (daCons (dTup (daCons (dVar 0) (daCons (dVar 0) daNil))) (daCons (dTup (daCons (dVar 0) daNil)) (daCons (dVar 2) (daCons (dTup (daCons (dVar 2) (daCons (dC (.int 1)) daNil))) (daCons (dTup (daCons (dC (.int 1)) (daCons (dVar 2) daNil))) daNil))))))))))))))))))))))))))))))))))
def N__law_jar : List Str := ["script", "salt", "cells", "cell"]
def t__law_jar (K : PySem.W.Frag) : TDS :=
  (dSeq (dAsg (dLc (dIter (dSl (rSlD K) (dVar 0) dNoPart (dPart (dC (.int 63))))) (dgName 3) dYes (dCB rIntOf (daCons (dVar 3) daNil)) [3]) (dgName 2))
    (dRet (dDisp ((.inr "cells", (dVar 2)) :: ((.inr "at", (dC (.int 0))) :: ((.inr "turn", (dOp rAdd (dVar 1) (dOp rMul (dC (.int 7)) (dCB rLenD (daCons (dVar 2) daNil))))) :: ((.inr "stock", (dC (.int 0))) :: [])))))))
def N__law_mixed : List Str := ["cell", "turn", "one", "two"]
def t__law_mixed (K : PySem.W.Frag) : TDS :=
  (dSeq (dAsg (dOp rMod (dCB rIntOf (daCons (dOp rAdd (dOp rAdd (dOp rAdd (dOp rMul (dCB rAbs (daCons (dVar 0) daNil)) (dC (.int 2))) (dIf (dTest (dOp rLt (dVar 0) (dC (.int 0)))) (dC (.int 1)) (dC (.int 0)))) (dOp rMul (dVar 1) (dC (.int 69621)))) (dC (.int 12345))) daNil)) (dC (.int 2147483647))) (dgName 2))
    (dSeq (dAsg (dOp rMod (dCB rIntOf (daCons (dOp rAdd (dOp rAdd (dOp rMul (dVar 2) (dC (.int 48271))) (dOp rMul (dOp rMul (dVar 1) (dVar 1)) (dC (.int 16807)))) (dC (.int 11))) daNil)) (dC (.int 2147483629))) (dgName 3))
    (dRet (dOp rMod (dCB rIntOf (daCons (dOp rAdd (dOp rAdd (dOp rMul (dVar 3) (dVar 3)) (dOp rMul (dVar 2) (dC (.int 7)))) (dVar 1)) daNil)) (dC (.int 2147483587))))))
def N__law_draw : List Str := ["jar", "many", "stock", "cells", "cell"]
def t__law_draw (K : PySem.W.Frag) (sp__law_mixed : DSp) : TDS :=
  (dSeq (dDPut (dVar 0) (dC (.str "turn")) (dOp rAdd (dDGet (dVar 0) (dC (.str "turn"))) (dC (.int 1))))
    (dSeq (dAsg (dDGet (dVar 0) (dC (.str "stock"))) (dgName 2))
    (dSeq (dIfS (dTest (dOp rGe (dVar 2) (dVar 1))) (dSeq (dDPut (dVar 0) (dC (.str "stock")) (dOp rFdiv (dVar 2) (dVar 1)))
    (dRet (dOp rMod (dCB rIntOf (daCons (dVar 2) daNil)) (dVar 1)))) dNext)
    (dSeq (dAsg (dDGet (dVar 0) (dC (.str "cells"))) (dgName 3))
    (dSeq (dAsg (dIf (dTest (dOp rGt (dCB rLenD (daCons (dVar 3) daNil)) (dC (.int 0)))) (dOp rIxD (dVar 3) (dOp rMod (dCB rIntOf (daCons (dDGet (dVar 0) (dC (.str "at"))) daNil)) (dCB rLenD (daCons (dVar 3) daNil)))) (dC (.int 0))) (dgName 4))
    (dSeq (dDPut (dVar 0) (dC (.str "at")) (dOp rAdd (dDGet (dVar 0) (dC (.str "at"))) (dC (.int 1))))
    (dSeq (dIfS (dAnd (dTest (dOp rGe (dCB rAbs (daCons (dVar 4) daNil)) (dOp rPow (dC (.int 10)) (dC (.int 18))))) (dTest (dOp rLe (dDGet (dVar 0) (dC (.str "at"))) (dCB rLenD (daCons (dVar 3) daNil))))) (dSeq (dDPut (dVar 0) (dC (.str "stock")) (dOp rFdiv (dCB rAbs (daCons (dVar 4) daNil)) (dVar 1)))
    (dRet (dOp rMod (dCB rIntOf (daCons (dCB rAbs (daCons (dVar 4) daNil)) daNil)) (dVar 1)))) dNext)
    (dRet (dOp rMod (dOp rFdiv (dCB rIntOf (daCons (dCall sp__law_mixed (daCons (dVar 4) (daCons (dDGet (dVar 0) (dC (.str "turn"))) daNil))) daNil)) (dC (.int 3))) (dVar 1))))))))))
def N__law_of : List Str := ["jar", "row"]
def t__law_of (K : PySem.W.Frag) (sp__law_draw : DSp) : TDS :=
  (dRet (dOp rIxD (dVar 1) (dCall sp__law_draw (daCons (dVar 0) (daCons (dCB rLenD (daCons (dVar 1) daNil)) daNil)))))
def N_law : List Str := ["script", "jar", "pairs", "at", "own", "one", "more", "top", "bottom", "two", "thing"]
def t_law (K : PySem.W.Frag) (sp__law_jar sp__law_draw sp__law_changed sp__law_pair sp__law_lowest sp_is_fraction sp__law_is_form sp__law_two sp__law_is_common sp_fraction sp_whole : DSp) : TDS :=
  (dSeq (dAsg (dCall sp__law_jar (daCons (dVar 0) (daCons (dC (.int 38)) daNil))) (dgName 1))
    (dSeq (dAsg (dLst daNil) (dgName 2))
    (dSeq (dFor (fun σ s R => (daCons (dOp rAdd (dC (.int 3)) (dCall sp__law_draw (daCons (dVar 1) (daCons (dC (.int 3)) daNil)))) daNil) σ s fun ds s1 => iRng1D R ds s1) (dgName 3) (dDrop (dAppend (dVar 2) (dCall sp__law_pair (daCons (dVar 1) (daCons (dVar 2) daNil))))))
    (dSeq (dAsg (dLst daNil) (dgName 4))
    (dSeq (dFor (dIter (dVar 2)) (dgTup 2 (dgCons (dgName 7) (dgCons (dgName 8) dgNil))) (dSeq (dIfS (dOr (dNot (dTru (dCall sp__law_is_form (daCons (dCall sp_fraction (daCons (dVar 7) (daCons (dVar 8) daNil))) (daCons (dVar 7) (daCons (dVar 8) daNil)))))) (dNot (dTru (dCall sp__law_is_form (daCons (dCall sp_whole (daCons (dVar 7) daNil)) (daCons (dVar 7) (daCons (dC (.int 1)) daNil))))))) (dRet (dC (.bl false))) dNext)
    (dDrop (dAppend (dVar 4) (dCall sp__law_lowest (daCons (dVar 7) (daCons (dVar 8) daNil)))))))
    (dSeq (dFor (dIter (dVar 4)) (dgName 5) (dFor (dIter (dVar 4)) (dgName 9) (dIfS (dNot (dTru (dCall sp__law_two (daCons (dVar 5) (daCons (dVar 9) daNil))))) (dRet (dC (.bl false))) dNext)))
    (dSeq (dFor (fun σ s R => (daCons (dOp rAdd (dCB rLenD (daCons (dVar 4) daNil)) (dC (.int 1))) daNil) σ s fun ds s1 => iRng1D R ds s1) (dgName 3) (dIfS (dOr (dNot (dTru (dCall sp__law_is_common (daCons (dSl (rSlD K) (dVar 4) (dPart (dVar 3)) dNoPart) daNil)))) (dNot (dTru (dCall sp__law_is_common (daCons (dOp rAdd (dSl (rSlD K) (dVar 4) dNoPart (dPart (dVar 3))) (dVar 4)) daNil))))) (dRet (dC (.bl false))) dNext))
    (dSeq (dAsg (dOp rAdd (dC (.int 2)) (dCall sp__law_draw (daCons (dVar 1) (daCons (dC (.int 9)) daNil)))) (dgName 6))
    (dSeq (dFor (dIter (dOp rAdd (dVar 4) (dLst (daCons (dTup (daCons (dC (.int 0)) (daCons (dC (.int 1)) daNil))) (daCons (dTup (daCons (dC (.int 1)) (daCons (dC (.int 1)) daNil))) daNil))))) (dgName 5) (dSeq (dIfS (dTest (dOp (rIs not) (dCall sp_is_fraction (daCons (dVar 5) daNil)) (dC (.bl true)))) (dRet (dC (.bl false))) dNext)
    (dFor (dIter (dCall sp__law_changed (daCons (dVar 5) (daCons (dVar 6) daNil)))) (dgName 10) (dIfS (dTest (dOp (rIs not) (dCall sp_is_fraction (daCons (dVar 10) daNil)) (dC (.bl false)))) (dRet (dC (.bl false))) dNext))))
    (dRet (dCB rAllD (daCons (dLc (dIter (dVar 2)) (dgTup 2 (dgCons (dgName 7) (dgCons (dgName 8) dgNil))) dYes (dCall sp__law_is_form (daCons (dCall sp_fraction (daCons (dVar 7) (daCons (dVar 8) daNil))) (daCons (dVar 7) (daCons (dVar 8) daNil)))) [7, 8]) daNil))))))))))))
end Toy

set_option maxHeartbeats 1000000
namespace Toy
/-- n / d is the one form of t / b -/
structure Low (t b n d : Int) : Prop where
  pos : 1 ≤ d
  eq : n * b = t * d
  gcd : Int.gcd n d = 1
  ln : n.natAbs ≤ t.natAbs
  ld : d.natAbs ≤ b.natAbs
def sg (t b : Int) : Int := if b < 0 then -(Int.gcd t b : Int) else Int.gcd t b
theorem sg_ne {t b : Int} (h : b ≠ 0) : sg t b ≠ 0 := by
  have : Int.gcd t b ≠ 0 := fun z => h (Int.gcd_eq_zero_iff.mp z).2
  unfold sg; split <;> omega
theorem sg_abs (t b : Int) : (sg t b).natAbs = Int.gcd t b := by unfold sg; split <;> omega
theorem sg_dvd1 (t b : Int) : sg t b ∣ t := by
  unfold sg; split
  · exact Int.neg_dvd.mpr (Int.gcd_dvd_left ..)
  · exact Int.gcd_dvd_left ..
theorem sg_dvd2 (t b : Int) : sg t b ∣ b := by
  unfold sg; split
  · exact Int.neg_dvd.mpr (Int.gcd_dvd_right ..)
  · exact Int.gcd_dvd_right ..
theorem sg_le {t b : Int} (h : b ≠ 0) : (sg t b).natAbs ≤ b.natAbs := by
  rw [sg_abs]
  exact Nat.le_of_dvd (by omega) (Int.natAbs_dvd_natAbs.mpr (Int.gcd_dvd_right t b) |> fun z => by simpa using z)
theorem low_sg {t b : Int} (h : b ≠ 0) : Low t b (t.fdiv (sg t b)) (b.fdiv (sg t b)) := by
  obtain ⟨x, hx⟩ := sg_dvd1 t b
  obtain ⟨y, hy⟩ := sg_dvd2 t b
  have ne := sg_ne (t := t) h
  have ex : t.fdiv (sg t b) = x := by
    conv => lhs; arg 1; rw [hx]
    exact Int.mul_fdiv_cancel_left x ne
  have ey : b.fdiv (sg t b) = y := by
    conv => lhs; arg 1; rw [hy]
    exact Int.mul_fdiv_cancel_left y ne
  rw [ex, ey]
  have hg : 0 < Int.gcd t b := Nat.pos_of_ne_zero fun z => h (Int.gcd_eq_zero_iff.mp z).2
  have hyp : 1 ≤ y := by
    have e := hy
    unfold sg at e
    split at e
    · rename_i hb
      rcases Int.lt_or_le y 1 with q | q
      · have h1 : 0 ≤ -(y) := by omega
        have h2 : 0 ≤ (Int.gcd t b : Int) * -y := Int.mul_nonneg (by omega) h1
        rw [Int.neg_mul, ← Int.mul_neg] at e
        omega
      · exact q
    · rename_i hb
      rcases Int.lt_or_le y 1 with q | q
      · have h2 : 0 ≤ (Int.gcd t b : Int) * -y := Int.mul_nonneg (by omega) (by omega)
        rw [Int.mul_neg] at h2
        omega
      · exact q
  have hgc : Int.gcd x y = 1 := by
    have e1 : Int.gcd t b = (sg t b).natAbs * Int.gcd x y := by
      conv => lhs; rw [hx]; arg 2; rw [hy]
      exact Int.gcd_mul_left ..
    rw [sg_abs] at e1
    have : Int.gcd t b * 1 = Int.gcd t b * Int.gcd x y := by omega
    exact (Nat.eq_of_mul_eq_mul_left hg this).symm
  refine ⟨hyp, ?_, hgc, ?_, ?_⟩
  · conv => lhs; rw [hy]
    conv => rhs; rw [hx]
    rw [← Int.mul_assoc, Int.mul_comm x]
  · have : t.natAbs = (sg t b).natAbs * x.natAbs := (congrArg Int.natAbs hx).trans (Int.natAbs_mul ..)
    rw [this, sg_abs]; exact Nat.le_mul_of_pos_left _ hg
  · have : b.natAbs = (sg t b).natAbs * y.natAbs := (congrArg Int.natAbs hy).trans (Int.natAbs_mul ..)
    rw [this, sg_abs]; exact Nat.le_mul_of_pos_left _ hg
/-- below 2 ^ k -/
abbrev Sm (k : Nat) (x : Int) : Prop := x.natAbs < 2 ^ k
theorem Sm.mul {a b : Nat} {x y : Int} (h : Sm a x) (g : Sm b y) : Sm (a + b) (x * y) := by
  unfold Sm at *
  rw [Int.natAbs_mul, Nat.pow_add]
  exact Nat.mul_lt_mul'' h g
theorem Sm.mono {a b : Nat} {x : Int} (h : Sm a x) (l : a ≤ b) : Sm b x := Nat.lt_of_lt_of_le h (Nat.pow_le_pow_right (by decide) l)
theorem Sm.add {a : Nat} {x y : Int} (h : Sm a x) (g : Sm a y) : Sm (a + 1) (x + y) := by
  unfold Sm at *; rw [Nat.pow_succ]; omega
theorem Sm.sub {a : Nat} {x y : Int} (h : Sm a x) (g : Sm a y) : Sm (a + 1) (x - y) := by
  unfold Sm at *; rw [Nat.pow_succ]; omega
theorem Sm.le {a : Nat} {x y : Int} (h : Sm a x) (g : y.natAbs ≤ x.natAbs) : Sm a y := Nat.lt_of_le_of_lt g h
theorem Sm.neg {a : Nat} {x : Int} (h : Sm a x) : Sm a (-x) := by unfold Sm at *; omega
theorem Sm.mulok {a b : Nat} {x y : Int} (h : Sm a x) (g : Sm b y) (l : a + b ≤ 1000000) (l0 : 0 < a + b) : DL.CMulD x y :=
  DL.mul_ok (h.mono (Nat.le_add_right a b)) (g.mono (Nat.le_add_left b a)) l0 l
/-- found * b // gcd and found // gcd * b -/
theorem lcm_same {f b : Int} (h : b ≠ 0) : (f * b).fdiv (Int.gcd f b) = f.fdiv (Int.gcd f b) * b := by
  have hg : (Int.gcd f b : Int) ≠ 0 := by
    have : Int.gcd f b ≠ 0 := fun z => h (Int.gcd_eq_zero_iff.mp z).2
    omega
  obtain ⟨x, hx⟩ := Int.gcd_dvd_left f b
  generalize e : (Int.gcd f b : Int) = g at *
  rw [hx, Int.mul_assoc, Int.mul_fdiv_cancel_left _ hg, Int.mul_fdiv_cancel_left _ hg]
end Toy

set_option maxHeartbeats 2000000
namespace Toy
open PySem DL
local macro_rules | `(tactic| walk_at "rd") => `(tactic| simp only [dSeq, dAsg, dRet, dRetN, dIfS, dNext, dDrop, dPar, dVar, dC, dOp, dUn, dAndV, dOrV, dNotV, dIf, dTest, dTru, dAnd, dOr, dNot, dTup, dLst, daNil, daCons, dCall, dCB, dChain, dSl, dPart_i, dNoPart,
  dDGet, dDPut, dAppend, dgName, dgTup, dgNil, dgCons, dFor, dIter, dAug, dLc, dYes, dDisp, dPairs, isC, isCc,
  rAdd_i, rAdd_s, rAdd_t, rAdd_l, rIAdd_i, rIAdd_s, rIAdd_l, rSub_i, rMul_i, rMul_l, rFdiv_i, rMod_i, rPow_i, rNeg_i, rEq_ii, rEq_ss, rEq_ns, rEq_sn, rEq_is, rEq_si, rEq_bs, rEq_sb, rEq_bb, rEq_nn, rEq_tt, rEq_nt, rEq_tn, rLt_i, rGt_i, rLe_i, rGe_i, rLe_s, rLt_s,
  rIs_nn, rIs_bb, rIs_in, rIs_sn, rIs_bn, rIs_rn, rIs_tn, rTru_n, rTru_b, rTru_i, rTru_s, rTru_t, rTru_l, rIx_t, rIx_l, rIx_s, rLen_s, rLen_t, rLen_l, rAbs_i, rInt_i, rStr_i, rMax_i, rMin_i, rTupOf_l, rTupOf_t, rListOf_l, rListOf_t, rAll_l, rAny_l, rSum_l,
  rIsi_r, rIsi_n, rIsi_b, rIsi_i, rIsi_s, rIsi_t, iD_t, iD_s, iD_l, iR1, iR2, rSl_t, rSl_s, rSl_l,
  endsOf, startD, List.map_cons, List.map_nil, List.length_cons, List.length_nil, Nat.reduceAdd, Nat.reduceSub, List.replicate, List.cons_append, List.nil_append, List.getElem?_cons_zero, List.getElem?_cons_succ, List.set_cons_zero, List.set_cons_succ,
  Option.some.injEq, exists_eq_left', exists_eq_left, List.cons.injEq, D.int.injEq, D.tup.injEq, D.bl.injEq, D.str.injEq, D.ref.injEq, and_true, true_and, and_self, id_eq, size0, size1, size2, size3, size4, size5, size6, size7, size8, sizel0, sizel1, sizel2, sizel3, sizel4, sizel5, sizel6, sizel7, lenOf_l, lenOf_d, List.length_map, Int.reduceToNat, Int.reducePow, Int.reduceNeg, Int.reduceLT, Int.reduceLE, atI_0, atI_1, reduceCtorEq, false_and, or_false, false_or, exists_const, exists_false, ite_true, ite_false,
  Bool.false_eq_true, if_true, if_false, decide_eq_true_eq, Bool.not_eq_true', decide_eq_false_iff_not, Bool.not_true, Bool.not_false, and_assoc, exists_and_left, D.key, S.set_same, S.set_set, C.lst.injEq, C.dic.injEq, jd_cells, jd_at, jd_turn, jd_stock, jp_at, jp_turn, jp_stock, jd_len, wipeD])
def sp_mixed : DSp := fun ds s Q => ∃ a b, ds = [.int a, .int b] ∧ 0 ≤ b ∧ b < 10000000000000 ∧ ∀ r, 0 ≤ r → Q (.int r) s
theorem emod_nn (a b : Int) (h : 0 < b) : 0 ≤ a.fmod b := by rw [Int.fmod_eq_emod_of_nonneg _ (by omega)]; exact Int.emod_nonneg _ (by omega)
theorem emod_lt (a b : Int) (h : 0 < b) : a.fmod b < b := by rw [Int.fmod_eq_emod_of_nonneg _ (by omega)]; exact Int.emod_lt_of_pos _ h
theorem rd_mixed (K : PySem.W.Frag) : ∀ ds s Q, sp_mixed ds s Q → t__law_mixed K (endsOf Q) (startD N__law_mixed ds) s := by
  rintro ds s Q ⟨a, b, rfl, h0, h1, q⟩
  unfold t__law_mixed N__law_mixed
  walk_at "rd"
  have sm : ∀ x b : Int, 0 < b → b < 2 ^ 63 → (x.fmod b).natAbs < 2 ^ 64 := fun x b h1 h2 => by
    have := emod_nn x b h1; have := emod_lt x b h1; omega
  refine ⟨mul_okr (by decide), ?_⟩
  split <;> exact ⟨mul_okr (by decide), by decide, mul_okr (by decide), mul_okl (by omega), mul_okr (by decide), by decide, mul_okl (sm _ _ (by decide) (by decide)), mul_okr (by decide), by decide, fin (q _ (emod_nn _ _ (by decide)))⟩
theorem rd_draw (K : PySem.W.Frag) : ∀ ds s Q, sp_draw ds s Q → t__law_draw K sp_mixed (endsOf Q) (startD N__law_draw ds) s := by
  rintro ds s Q ⟨j, c, n, m, rfl, hm0, hm, ⟨⟨a, t, k, ns, e1, ha, ht, htn, hk, e2, hl⟩, ne⟩, q⟩
  have cj : DL.S.set (s) j = DL.S.set s j := rfl
  have nx : ∀ (a t k : Int) (s' : S), s' = s.set j (.dic (jd c a t k)) → 0 ≤ a → 0 ≤ t → t + (n : Int) ≤ 1000000000000 → 0 ≤ k → Fr j s s' ∧ Jar s' j c n := by
    rintro a t k _ rfl h1 h2 h3 h4
    exact ⟨Fr.set, ⟨⟨a, t, k, ns, S.set_same, h1, h2, h3, h4, by rw [S.set_ne ne]; exact e2, hl⟩, ne⟩⟩
  have fd : ∀ x : Int, 0 ≤ x → 0 ≤ x.fdiv m := fun x h => by rw [Int.fdiv_eq_ediv_of_nonneg _ (by omega)]; exact Int.ediv_nonneg h (by omega)
  unfold t__law_draw N__law_draw
  simp only [dSeq, dDPut, dOp, dDGet, dVar, dC, dAsg, startD, List.map_cons, List.map_nil, List.length_cons, List.length_nil, Nat.reduceAdd, Nat.reduceSub, List.replicate, List.cons_append, List.nil_append, List.getElem?_cons_zero, Option.some.injEq, exists_eq_left']
  walk_at "rd"
  refine ⟨_, e1, ?_⟩
  walk_at "rd"
  refine ⟨_, e1, ?_⟩
  walk_at "rd"
  split <;> rename_i h1
  · obtain ⟨f, J⟩ := nx _ (t + 1) _ _ rfl ha (by omega) (by omega) (fd k hk)
    exact ⟨div_okc hm0 hm, by omega, fin (q _ _ (emod_nn _ _ hm0) (emod_lt _ _ hm0) f J)⟩
  simp only [S.set_ne ne, e2, lenOf_l, Option.some.injEq, exists_eq_left', List.length_map]
  split <;> rename_i h2
  · refine ⟨by omega, ?_⟩
    walk_at "rd"
    have i0 := emod_nn a ns.length h2
    have i1 := emod_lt a ns.length h2
    have hi : (a.fmod ns.length).toNat < ns.length := by omega
    refine ⟨.int ns[(a.fmod ns.length).toNat], ?_, ?_⟩
    · have e3 : a.fmod ns.length = (((a.fmod ns.length).toNat : Nat) : Int) := by omega
      conv => lhs; arg 2; rw [e3]
      exact atI_nat' (by simp [hi])
    generalize ns[(a.fmod ns.length).toNat] = x
    walk_at "rd"
    simp only [S.set_ne ne, e2, lenOf_l, Option.some.injEq, exists_eq_left', List.length_map]
    refine ⟨⟨by decide, by decide, by decide⟩, ?_⟩
    split <;> rename_i h3
    · split <;> rename_i h4
      · obtain ⟨f, J⟩ := nx _ (t + 1) _ _ rfl (show 0 ≤ a + 1 by omega) (by omega) (by omega) (fd (x.natAbs : Int) (by omega))
        exact ⟨div_okc hm0 hm, by omega, fin (q _ _ (emod_nn _ _ hm0) (emod_lt _ _ hm0) f J)⟩
      · refine ⟨_, _, rfl, by omega, by omega, fun r hr => ?_⟩
        walk_at "rd"
        obtain ⟨f, J⟩ := nx _ (t + 1) _ _ rfl (show 0 ≤ a + 1 by omega) (by omega) (by omega) hk
        exact ⟨div_okc (by decide) (by decide), by omega, fin (q _ _ (emod_nn _ _ hm0) (emod_lt _ _ hm0) f J)⟩
    · refine ⟨_, _, rfl, by omega, by omega, fun r hr => ?_⟩
      walk_at "rd"
      obtain ⟨f, J⟩ := nx _ (t + 1) _ _ rfl (show 0 ≤ a + 1 by omega) (by omega) (by omega) hk
      exact ⟨div_okc (by decide) (by decide), by omega, fin (q _ _ (emod_nn _ _ hm0) (emod_lt _ _ hm0) f J)⟩
  · refine ⟨⟨by decide, by decide, by decide⟩, ?_⟩
    rw [if_neg (by decide)]
    refine ⟨_, _, rfl, by omega, by omega, fun r hr => ?_⟩
    walk_at "rd"
    obtain ⟨f, J⟩ := nx _ (t + 1) _ _ rfl (show 0 ≤ a + 1 by omega) (by omega) (by omega) hk
    exact ⟨div_okc (by decide) (by decide), by omega, fin (q _ _ (emod_nn _ _ hm0) (emod_lt _ _ hm0) f J)⟩
/-- one of a list's, a tuple's things -/
def sp_of : DSp := fun ds s Q => ∃ j c n r xs, ds = [.ref j, r] ∧ Jar s j c (n + 1) ∧ ((∃ p, r = .ref p ∧ s p = some (.lst xs) ∧ p ≠ j) ∨ r = .tup xs) ∧ xs ≠ [] ∧ xs.length < 2 ^ 63 ∧ ∀ x s', x ∈ xs → Fr j s s' → Jar s' j c n → Q x s'
theorem rd_of (K : PySem.W.Frag) : ∀ ds s Q, sp_of ds s Q → t__law_of K sp_draw (endsOf Q) (startD N__law_of ds) s := by
  rintro ds s Q ⟨j, c, n, r, xs, rfl, J, hr, hne, hlen, q⟩
  have hpos : 0 < xs.length := List.length_pos_iff.mpr hne
  unfold t__law_of N__law_of
  rcases hr with ⟨p, rfl, e, hp⟩ | rfl
  · walk_at "rd"
    simp only [e, lenOf_l, Option.some.injEq, exists_eq_left']
    refine ⟨_, c, n, _, rfl, by omega, by omega, J, fun r s' h0 h1 f J' => ?_⟩
    walk_at "rd"
    have hi : r.toNat < xs.length := by omega
    refine ⟨xs, by rw [f p hp]; exact e, xs[r.toNat], ?_, fin (q _ _ (List.getElem_mem hi) f J')⟩
    have e3 : r = ((r.toNat : Nat) : Int) := by omega
    conv => lhs; arg 2; rw [e3]
    exact atI_nat' (by simp [hi])
  · walk_at "rd"
    refine ⟨_, c, n, _, rfl, by omega, by omega, J, fun r s' h0 h1 f J' => ?_⟩
    walk_at "rd"
    have hi : r.toNat < xs.length := by omega
    refine ⟨xs[r.toNat], ?_, fin (q _ _ (List.getElem_mem hi) f J')⟩
    have e3 : r = ((r.toNat : Nat) : Int) := by omega
    conv => lhs; arg 2; rw [e3]
    exact atI_nat' (by simp [hi])
/-- the jar is made -/
def sp_jar (K : PySem.W.Frag) : DSp := fun ds s Q => ∃ a k ns, ds = [.ref a, .int k] ∧ (s a = some (.lst ((ns : List Int).map .int)) ∨ s a = some (.ro (ns.map .int)) ∨ KRo K a (ns.map .int)) ∧ ns.length ≤ 63 ∧ 0 ≤ k ∧ k ≤ 1000 ∧
  ∀ j c s', s j = none → s c = none → (∀ b, b ≠ j → b ≠ c → s b ≠ none → s' b = s b) → Jar s' j c 900000000000 → Q (.ref j) s'
theorem rd_jar (K : PySem.W.Frag) : ∀ ds s Q, sp_jar K ds s Q → t__law_jar K (endsOf Q) (startD N__law_jar ds) s := by
  rintro ds s Q ⟨a, k, ns, rfl, hs, hl, hk0, hk1, q⟩
  unfold t__law_jar N__law_jar
  walk_at "rd"
  refine ⟨ns.map .int, hs, fun p hp => ?_⟩
  have hc : cutD (ns.map .int) none (some 63) = ns.map D.int := by
    refine cut_all ⟨rfl, ?_⟩
    rw [List.length_map]
    show HT.sIx ns.length ns.length (some ((63 : Nat) : Int)) = ns.length
    rw [HT.sIx_nat]; omega
  rw [hc]
  intro c hc1
  have hcp : c ≠ p := fun z => by rw [z, S.set_same] at hc1; cases hc1
  have hc0 : s c = none := by rw [S.set_ne hcp] at hc1; exact hc1
  refine lcD_pure (fun d => d) (s.set p (.lst (ns.map .int))) (ns.map .int) [] ?_ ?_ ?_ ?_
  · intro d hd acc Q' hq
    obtain ⟨n, _, rfl⟩ := List.mem_map.mp hd
    walk_at "rd"
    exact hq
  · intro acc
    rw [S.set_ne hcp.symm, S.set_same]
  · simp only [List.length_nil, List.length_map]
    exact size_small' (by omega)
  · rw [List.map_id', List.nil_append]
    intro j hj
    have hjc : j ≠ c := fun z => by rw [z, S.set_same] at hj; cases hj
    have hjp : j ≠ p := fun z => by rw [z, S.set_ne hcp.symm, S.set_same] at hj; cases hj
    have hj0 : s j = none := by rw [S.set_ne hjc, S.set_ne hjp] at hj; exact hj
    rw [S.set_ne hjc.symm, S.set_same]
    refine ⟨_, rfl, mul_okl (by decide), ?_⟩
    rw [jd_fold]
    refine ⟨(s.set c (.lst (ns.map .int))).set j (.dic (jd c 0 (k + 7 * (ns.map D.int).length) 0)), ?_, ?_⟩
    · intro b x e
      by_cases h1 : b = j
      · subst h1; rw [S.set_same] at e ⊢; exact e
      · rw [S.set_ne h1] at e ⊢
        by_cases h2 : b = c
        · subst h2; rw [S.set_same] at e ⊢; exact e
        · rw [S.set_ne h2] at e ⊢
          rw [S.set_ne (fun z => by rw [z, hp] at e; cases e)]; exact e
    · refine q j c _ hj0 hc0 (fun b h1 h2 _ => by rw [S.set_ne h1, S.set_ne h2]) ⟨⟨0, _, 0, ns, S.set_same, Int.le_refl _, ?_, ?_, Int.le_refl _, ?_, hl⟩, hjc.symm⟩
      · rw [List.length_map]; omega
      · rw [List.length_map]; omega
      · rw [S.set_ne hjc.symm, S.set_same]
end Toy

set_option maxHeartbeats 1000000
namespace Toy
open PySem DL
local macro_rules | `(tactic| walk_at "rd") => `(tactic| simp only [dSeq, dAsg, dRet, dRetN, dIfS, dNext, dDrop, dPar, dVar, dC, dOp, dUn, dAndV, dOrV, dNotV, dIf, dTest, dTru, dAnd, dOr, dNot, dTup, dLst, daNil, daCons, dCall, dCB, dChain, dSl, dPart_i, dNoPart,
  dDGet, dDPut, dAppend, dgName, dgTup, dgNil, dgCons, dFor, dIter, dAug, dLc, dYes, dDisp, dPairs, isC, isCc,
  rAdd_i, rAdd_s, rAdd_t, rAdd_l, rIAdd_i, rIAdd_s, rIAdd_l, rSub_i, rMul_i, rMul_l, rFdiv_i, rMod_i, rPow_i, rNeg_i, rEq_ii, rEq_ss, rEq_ns, rEq_sn, rEq_is, rEq_si, rEq_bs, rEq_sb, rEq_bb, rEq_nn, rEq_tt, rEq_nt, rEq_tn, rLt_i, rGt_i, rLe_i, rGe_i, rLe_s, rLt_s,
  rIs_nn, rIs_bb, rIs_in, rIs_sn, rIs_bn, rIs_rn, rIs_tn, rTru_n, rTru_b, rTru_i, rTru_s, rTru_t, rTru_l, rIx_t, rIx_l, rIx_s, rLen_s, rLen_t, rLen_l, rAbs_i, rInt_i, rStr_i, rMax_i, rMin_i, rTupOf_l, rTupOf_t, rListOf_l, rListOf_t, rAll_l, rAny_l, rSum_l,
  rIsi_r, rIsi_n, rIsi_b, rIsi_i, rIsi_s, rIsi_t, iD_t, iD_s, iD_l, iR1, iR2, rSl_t, rSl_s, rSl_l,
  endsOf, startD, List.map_cons, List.map_nil, List.length_cons, List.length_nil, Nat.reduceAdd, Nat.reduceSub, List.replicate, List.cons_append, List.nil_append, List.getElem?_cons_zero, List.getElem?_cons_succ, List.set_cons_zero, List.set_cons_succ,
  Option.some.injEq, exists_eq_left', exists_eq_left, List.cons.injEq, D.int.injEq, D.tup.injEq, D.bl.injEq, D.str.injEq, D.ref.injEq, and_true, true_and, and_self, id_eq, size0, size1, size2, size3, size4, size5, size6, size7, size8, sizel0, sizel1, sizel2, sizel3, sizel4, sizel5, sizel6, sizel7, lenOf_l, lenOf_d, List.length_map, Int.reduceToNat, Int.reducePow, Int.reduceNeg, Int.reduceLT, Int.reduceLE, atI_0, atI_1, reduceCtorEq, false_and, or_false, false_or, exists_const, exists_false, ite_true, ite_false,
  Bool.false_eq_true, if_true, if_false, decide_eq_true_eq, Bool.not_eq_true', decide_eq_false_iff_not, Bool.not_true, Bool.not_false, and_assoc, exists_and_left, D.key, S.set_same, S.set_set, C.lst.injEq, C.dic.injEq, jd_cells, jd_at, jd_turn, jd_stock, jp_at, jp_turn, jp_stock, jd_len, wipeD])
def plain : D → Prop | .ref _ => False | _ => True
def isTup (d : D) (lo hi : Int) : Bool := match d with | .tup xs => decide (lo ≤ xs.length) && decide ((xs.length : Int) ≤ hi) | _ => false
def sp_is_tuple : DSp := fun ds s Q => ∃ d lo hi, ds = [d, .int lo, .int hi] ∧ plain d ∧ Q (.bl (isTup d lo hi)) s
theorem rd_is_tuple (K : PySem.W.Frag) : ∀ ds s Q, sp_is_tuple ds s Q → t_is_tuple K (endsOf Q) (startD N_is_tuple ds) s := by
  rintro ds s Q ⟨d, lo, hi, rfl, hp, q⟩
  unfold t_is_tuple N_is_tuple
  cases d with
  | ref a => exact hp.elim
  | tup xs =>
    walk_at "rd"
    unfold isTup at q
    split <;> rename_i h
    · simp only [h, decide_true, Bool.true_and] at q; exact fin q
    · simp only [h, decide_false, Bool.false_and] at q; exact fin q
  | _ => walk_at "rd"; exact fin q
def sp_gcd : DSp := fun ds s Q => ∃ a b, ds = [.int a, .int b] ∧ Q (.int (Int.gcd a b)) s
theorem fmod_nat (a b : Nat) : Int.fmod (a : Int) (b : Int) = ((a % b : Nat) : Int) := by
  rw [Int.fmod_eq_emod_of_nonneg _ (by omega)]; rfl
theorem rd_greatest_part (K : PySem.W.Frag) : ∀ ds s Q, sp_gcd ds s Q → t_greatest_part K (endsOf Q) (startD N_greatest_part ds) s := by
  rintro ds s Q ⟨a, b, rfl, q⟩
  unfold t_greatest_part N_greatest_part
  walk_at "rd"
  have go : ∀ n (x y : Nat), y < n → Nat.gcd x y = Int.gcd a b → whileN (dTest (dOp (rEqD not) (dVar 1) (dC (.int 0)))) (dPar 0 1 (daCons (dVar 1) (daCons (dOp rMod (dVar 0) (dVar 1)) daNil)))
      { nx := dRet (dVar 0) (endsOf Q), rt := (endsOf Q).rt } n [some (.int x), some (.int y)] s := by
    intro n
    induction n with
    | zero => intro x y h; omega
    | succ n ih =>
      intro x y h e
      unfold whileN
      walk_at "rd"
      split <;> rename_i hy
      · refine ⟨by simpa using hy, ?_⟩
        rw [fmod_nat]
        have hy' : 0 < y := by simp at hy; omega
        exact ih y (x % y) (by have := Nat.mod_lt x hy'; omega) (by rw [Nat.gcd_comm, ← Nat.gcd_rec, Nat.gcd_comm]; exact e)
      · have : y = 0 := by simpa using hy
        subst this
        rw [Nat.gcd_zero_right] at e
        rw [e]; exact fin q
  exact ⟨_, go _ a.natAbs b.natAbs (Nat.lt_succ_self _) rfl⟩
theorem rd__law_gcd (K : PySem.W.Frag) : ∀ ds s Q, sp_gcd ds s Q → t__law_gcd K (endsOf Q) (startD N__law_gcd ds) s := by
  rintro ds s Q ⟨a, b, rfl, q⟩
  unfold t__law_gcd N__law_gcd
  walk_at "rd"
  have go : ∀ n (x y : Nat), y < n → Nat.gcd x y = Int.gcd a b → whileN (dTest (dOp (rEqD not) (dVar 1) (dC (.int 0)))) (dPar 0 1 (daCons (dVar 1) (daCons (dOp rMod (dCB rIntOf (daCons (dVar 0) daNil)) (dVar 1)) daNil)))
      { nx := dRet (dVar 0) (endsOf Q), rt := (endsOf Q).rt } n [some (.int x), some (.int y)] s := by
    intro n
    induction n with
    | zero => intro x y h; omega
    | succ n ih =>
      intro x y h e
      unfold whileN
      walk_at "rd"
      split <;> rename_i hy
      · refine ⟨by simpa using hy, ?_⟩
        rw [fmod_nat]
        have hy' : 0 < y := by simp at hy; omega
        exact ih y (x % y) (by have := Nat.mod_lt x hy'; omega) (by rw [Nat.gcd_comm, ← Nat.gcd_rec, Nat.gcd_comm]; exact e)
      · have : y = 0 := by simpa using hy
        subst this
        rw [Nat.gcd_zero_right] at e
        rw [e]; exact fin q
  exact ⟨_, go _ a.natAbs b.natAbs (Nat.lt_succ_self _) rfl⟩
def sp_fraction : DSp := fun ds s Q => ∃ t b, ds = [.int t, .int b] ∧ b ≠ 0 ∧ Sm 8000 b ∧ ∀ n d, Low t b n d → Q (.tup [.int n, .int d]) s
theorem frac_ok {t b : Int} (h : b ≠ 0) (hs : Sm 8000 b) (k : sg t b = if b < 0 then -(Int.gcd t b : Int) else Int.gcd t b) : CDivD t (sg t b) :=
  div_ok (n := 8000) (sg_ne h) (Nat.lt_of_le_of_lt (sg_le h) hs) (by decide) (by decide)
theorem rd_fraction (K : PySem.W.Frag) : ∀ ds s Q, sp_fraction ds s Q → t_fraction K sp_gcd (endsOf Q) (startD N_fraction ds) s := by
  rintro ds s Q ⟨t, b, rfl, hb, hs, q⟩
  unfold t_fraction N_fraction
  walk_at "rd"
  refine ⟨t, b, rfl, ?_⟩
  walk_at "rd"
  have l := low_sg (t := t) hb
  have dv : ∀ x : Int, CDivD x (sg t b) := fun x => div_ok (n := 8000) (sg_ne hb) (Nat.lt_of_le_of_lt (sg_le hb) hs) (by decide) (by decide)
  split <;> rename_i h
  · have e : sg t b = -(Int.gcd t b : Int) := by unfold sg; rw [if_pos h]
    rw [e] at l dv
    exact ⟨dv t, dv b, fin (q _ _ l)⟩
  · have e : sg t b = (Int.gcd t b : Int) := by unfold sg; rw [if_neg h]
    rw [e] at l dv
    exact ⟨dv t, dv b, fin (q _ _ l)⟩
theorem rd__law_lowest (K : PySem.W.Frag) : ∀ ds s Q, sp_fraction ds s Q → t__law_lowest K sp_gcd (endsOf Q) (startD N__law_lowest ds) s := rd_fraction K
def sp_whole : DSp := fun ds s Q => ∃ n, ds = [.int n] ∧ Q (.tup [.int n, .int 1]) s
theorem rd_whole (K : PySem.W.Frag) : ∀ ds s Q, sp_whole ds s Q → t_whole K (endsOf Q) (startD N_whole ds) s := by
  rintro ds s Q ⟨n, rfl, q⟩
  unfold t_whole N_whole
  walk_at "rd"
  exact fin q
/-- two fractions, and what is told of them: one fraction -/
def sp_bin (T B : Int → Int → Int → Int → Int) (pre : Int → Int → Int → Int → Prop) : DSp := fun ds s Q => ∃ a b c d, ds = [.tup [.int a, .int b], .tup [.int c, .int d]] ∧ (Sm 200 a ∧ Sm 200 b ∧ Sm 200 c ∧ Sm 200 d) ∧ pre a b c d ∧ ∀ n e, Low (T a b c d) (B a b c d) n e → Q (.tup [.int n, .int e]) s
theorem mz {x y : Int} (h : x ≠ 0) (g : y ≠ 0) : x * y ≠ 0 := Int.mul_ne_zero h g
theorem mk {x y : Int} (h : Sm 200 x) (g : Sm 200 y) : CMulD x y := h.mulok g (by decide) (by decide)
theorem s8 {x y : Int} (h : Sm 200 x) (g : Sm 200 y) : Sm 8000 (x * y) := (h.mul g).mono (by decide)
def sp_plus : DSp := sp_bin (fun a b c d => a * d + c * b) (fun _ b _ d => b * d) (fun _ b _ d => b ≠ 0 ∧ d ≠ 0)
theorem rd_plus (K : PySem.W.Frag) : ∀ ds s Q, sp_plus ds s Q → t_plus K sp_fraction (endsOf Q) (startD N_plus ds) s := by
  rintro ds s Q ⟨a, b, c, d, rfl, ⟨h1, h2, h3, h4⟩, ⟨hb, hd⟩, q⟩
  unfold t_plus N_plus
  walk_at "rd"
  exact ⟨mk h1 h4, mk h3 h2, mk h2 h4, _, _, rfl, mz hb hd, s8 h2 h4, fun n e l => fin (q n e l)⟩
def sp_minus : DSp := sp_bin (fun a b c d => a * d - c * b) (fun _ b _ d => b * d) (fun _ b _ d => b ≠ 0 ∧ d ≠ 0)
theorem rd_minus (K : PySem.W.Frag) : ∀ ds s Q, sp_minus ds s Q → t_minus K sp_fraction (endsOf Q) (startD N_minus ds) s := by
  rintro ds s Q ⟨a, b, c, d, rfl, ⟨h1, h2, h3, h4⟩, ⟨hb, hd⟩, q⟩
  unfold t_minus N_minus
  walk_at "rd"
  exact ⟨mk h1 h4, mk h3 h2, mk h2 h4, _, _, rfl, mz hb hd, s8 h2 h4, fun n e l => fin (q n e l)⟩
def sp_times : DSp := sp_bin (fun a _ c _ => a * c) (fun _ b _ d => b * d) (fun _ b _ d => b ≠ 0 ∧ d ≠ 0)
theorem rd_times (K : PySem.W.Frag) : ∀ ds s Q, sp_times ds s Q → t_times K sp_fraction (endsOf Q) (startD N_times ds) s := by
  rintro ds s Q ⟨a, b, c, d, rfl, ⟨h1, h2, h3, h4⟩, ⟨hb, hd⟩, q⟩
  unfold t_times N_times
  walk_at "rd"
  exact ⟨mk h1 h3, mk h2 h4, _, _, rfl, mz hb hd, s8 h2 h4, fun n e l => fin (q n e l)⟩
def sp_per : DSp := sp_bin (fun a _ _ d => a * d) (fun _ b c _ => b * c) (fun _ b c _ => b ≠ 0 ∧ c ≠ 0)
theorem rd_per (K : PySem.W.Frag) : ∀ ds s Q, sp_per ds s Q → t_per K sp_fraction (endsOf Q) (startD N_per ds) s := by
  rintro ds s Q ⟨a, b, c, d, rfl, ⟨h1, h2, h3, h4⟩, ⟨hb, hd⟩, q⟩
  unfold t_per N_per
  walk_at "rd"
  exact ⟨mk h1 h4, mk h2 h3, _, _, rfl, mz hb hd, s8 h2 h3, fun n e l => fin (q n e l)⟩
def sp_below : DSp := fun ds s Q => ∃ a b c d, ds = [.tup [.int a, .int b], .tup [.int c, .int d]] ∧ (Sm 200 a ∧ Sm 200 b ∧ Sm 200 c ∧ Sm 200 d) ∧ Q (.bl (decide (a * d < c * b))) s
theorem rd_below (K : PySem.W.Frag) : ∀ ds s Q, sp_below ds s Q → t_below K (endsOf Q) (startD N_below ds) s := by
  rintro ds s Q ⟨a, b, c, d, rfl, ⟨h1, h2, h3, h4⟩, q⟩
  unfold t_below N_below
  walk_at "rd"
  exact ⟨mk h1 h4, mk h3 h2, fin q⟩
/-- is_fraction's answer -/
def isFrac (d : D) : Bool := match d with
  | .tup [.int a, .int b] => decide (1 ≤ b) && decide (Int.gcd a b = 1)
  | _ => false
def parts : D → Prop
  | .ref _ => False
  | .tup xs => ∀ x ∈ xs, plain x
  | _ => True
def sp_is_fraction : DSp := fun ds s Q => ∃ d, ds = [d] ∧ parts d ∧ Q (.bl (isFrac d)) s
theorem rd_is_fraction (K : PySem.W.Frag) : ∀ ds s Q, sp_is_fraction ds s Q → t_is_fraction K sp_is_tuple sp_gcd (endsOf Q) (startD N_is_fraction ds) s := by
  rintro ds s Q ⟨d, rfl, hp, q⟩
  unfold t_is_fraction N_is_fraction
  walk_at "rd"
  refine ⟨d, 2, 2, rfl, by cases d <;> first | trivial | exact hp.elim, ?_⟩
  walk_at "rd"
  match d, hp, q with
  | .ref _, hp, _ => exact hp.elim
  | .non, _, q => simp only [isTup, if_true]; exact fin q
  | .bl _, _, q => simp only [isTup, if_true]; exact fin q
  | .int _, _, q => simp only [isTup, if_true]; exact fin q
  | .str _, _, q => simp only [isTup, if_true]; exact fin q
  | .tup [], _, q => exact fin q
  | .tup [x], _, q =>
    have e : isFrac (.tup [x]) = false := by cases x <;> rfl
    rw [e] at q; exact fin q
  | .tup (x :: y :: z :: r), hp, q =>
    rw [if_pos (by simp [isTup]; omega)]
    have e : isFrac (.tup (x :: y :: z :: r)) = false := by cases x <;> cases y <;> rfl
    rw [e] at q; exact fin q
  | .tup [x, y], hp, q =>
    rw [if_neg (by simp [isTup])]
    walk_at "rd"
    have px := hp x (by simp)
    have py := hp y (by simp)
    simp only [forD]
    cases x with
    | ref _ => exact px.elim
    | int i =>
      cases y with
      | ref _ => exact py.elim
      | int j =>
        walk_at "rd"
        have e : isFrac (.tup [.int i, .int j]) = (decide (1 ≤ j) && decide (Int.gcd i j = 1)) := rfl
        rw [e] at q
        split <;> rename_i h
        · refine ⟨i, j, rfl, ?_⟩
          walk_at "rd"
          rw [decide_eq_true h, Bool.true_and] at q
          have e2 : decide ((Int.gcd i j : Int) = 1) = decide (Int.gcd i j = 1) := decide_eq_decide.mpr (by omega)
          rw [e2]; exact fin q
        · rw [decide_eq_false h, Bool.false_and] at q
          rw [decide_eq_false h]; exact fin q
      | _ => walk_at "rd"; exact fin q
    | _ =>
      walk_at "rd"
      first
      | exact fin q
      | (cases y <;> first | exact fin q | exact py.elim)

/-! ### the law's own defs -/
def sp_is_int : DSp := fun ds s Q => ∃ i, ds = [.int i] ∧ Q (.bl true) s
theorem rd__law_is_int (K : PySem.W.Frag) : ∀ ds s Q, sp_is_int ds s Q → t__law_is_int K (endsOf Q) (startD N__law_is_int ds) s := by
  rintro ds s Q ⟨i, rfl, q⟩
  unfold t__law_is_int N__law_is_int
  walk_at "rd"
  exact fin q
def sp_is_form : DSp := fun ds s Q => ∃ n d t b, ds = [.tup [.int n, .int d], .int t, .int b] ∧ Low t b n d ∧ Sm 10000 t ∧ Sm 10000 b ∧ Q (.bl true) s
theorem rd__law_is_form (K : PySem.W.Frag) : ∀ ds s Q, sp_is_form ds s Q → t__law_is_form K sp_is_int sp_gcd (endsOf Q) (startD N__law_is_form ds) s := by
  rintro ds s Q ⟨n, d, t, b, rfl, l, ht, hb, q⟩
  unfold t__law_is_form N__law_is_form
  walk_at "rd"
  rw [if_neg (by decide)]
  refine ⟨n, rfl, ?_⟩
  walk_at "rd"
  refine ⟨d, rfl, ?_⟩
  walk_at "rd"
  rw [if_neg (by have := l.pos; omega)]
  refine ⟨(ht.le l.ln).mulok hb (by decide) (by decide), ht.mulok (hb.le l.ld) (by decide) (by decide), ?_⟩
  rw [if_pos l.eq]
  refine ⟨n, d, rfl, ?_⟩
  walk_at "rd"
  rw [l.gcd]; exact fin q
/-- a positive number below 2 ^ 110 -/
def sp_size : DSp := fun ds s Q => ∃ j c n, ds = [.ref j] ∧ Jar s j c (n + 8) ∧ ∀ r s', 1 ≤ r → Sm 110 r → Fr j s s' → Jar s' j c n → Q (.int r) s'
theorem size_step {x r : Int} {k : Nat} (h1 : 1 ≤ x) (hk : Sm k x) (h0 : 0 ≤ r) (h : r < 12) : 1 ≤ x * (1 + r) ∧ Sm (k + 4) (x * (1 + r)) := by
  have e : x * (1 + r) = x + x * r := by rw [Int.mul_add, Int.mul_one]
  have h2 : 0 ≤ x * r := Int.mul_nonneg (by omega) h0
  exact ⟨by omega, hk.mul (by unfold Sm; omega)⟩
theorem size_step2 {x r : Int} {k : Nat} (h1 : 1 ≤ x) (hk : Sm k x) (h0 : 0 ≤ r) (h : r < 500000000) : 1 ≤ x * 1000000007 + r ∧ Sm (k + 31) (x * 1000000007 + r) := by
  refine ⟨by omega, ?_⟩
  unfold Sm at *
  have : 2 ^ (k + 31) = 2 ^ k * 2147483648 := by rw [Nat.pow_add]
  omega
theorem rd__law_size (K : PySem.W.Frag) : ∀ ds s Q, sp_size ds s Q → t__law_size K sp_draw (endsOf Q) (startD N__law_size ds) s := by
  rintro ds s Q ⟨j, c, n, rfl, J, q⟩
  unfold t__law_size N__law_size
  walk_at "rd"
  refine ⟨j, c, n + 7, _, rfl, by decide, by decide, J, fun r0 s0 a0 b0 f0 J0 => ?_⟩
  walk_at "rd"
  refine ⟨j, c, n + 6, _, rfl, by decide, by decide, J0, fun w s1 a1 b1 f1 J1 => ?_⟩
  walk_at "rd"
  have h0 : 1 ≤ 1 + r0 := by omega
  have g0 : Sm 4 (1 + r0) := by unfold Sm; omega
  split <;> rename_i hw
  · show forD _ _ _ _ [.int 0, .int 1, .int 2] _ _
    simp only [forD]
    walk_at "rd"
    refine ⟨j, c, n + 5, _, rfl, by decide, by decide, J1, fun r2 s2 a2 b2 f2 J2 => ?_⟩
    walk_at "rd"
    obtain ⟨h2, g2⟩ := size_step h0 g0 a2 b2
    refine ⟨mul_okr (by omega), j, c, n + 4, _, rfl, by decide, by decide, J2, fun r3 s3 a3 b3 f3 J3 => ?_⟩
    walk_at "rd"
    obtain ⟨h3, g3⟩ := size_step h2 g2 a3 b3
    refine ⟨mul_okr (by omega), j, c, n + 3, _, rfl, by decide, by decide, J3, fun r4 s4 a4 b4 f4 J4 => ?_⟩
    walk_at "rd"
    obtain ⟨h4, g4⟩ := size_step h3 g3 a4 b4
    refine ⟨mul_okr (by omega), ?_⟩
    have fr := f0.trans (f1.trans (f2.trans (f3.trans f4)))
    split <;> rename_i hw3
    · show forD _ _ _ _ [.int 0, .int 1, .int 2] _ _
      simp only [forD]
      walk_at "rd"
      refine ⟨mul_okr (by decide), j, c, n + 2, _, rfl, by decide, by decide, J4, fun r5 s5 a5 b5 f5 J5 => ?_⟩
      walk_at "rd"
      obtain ⟨h5, g5⟩ := size_step2 h4 g4 a5 b5
      refine ⟨mul_okr (by decide), j, c, n + 1, _, rfl, by decide, by decide, J5, fun r6 s6 a6 b6 f6 J6 => ?_⟩
      walk_at "rd"
      obtain ⟨h6, g6⟩ := size_step2 h5 g5 a6 b6
      refine ⟨mul_okr (by decide), j, c, n, _, rfl, by decide, by decide, J6, fun r7 s7 a7 b7 f7 J7 => ?_⟩
      walk_at "rd"
      obtain ⟨h7, g7⟩ := size_step2 h6 g6 a7 b7
      exact fin (q _ _ h7 (g7.mono (by decide)) (fr.trans (f5.trans (f6.trans f7))) J7)
    · exact fin (q _ _ h4 (g4.mono (by decide)) fr (J4.mono (by omega)))
  · rw [if_neg (by omega)]
    exact fin (q _ _ h0 (g0.mono (by decide)) (f0.trans f1) (J1.mono (by omega)))
end Toy

set_option maxHeartbeats 2000000
namespace Toy
open PySem DL
local macro_rules | `(tactic| walk_at "rd") => `(tactic| simp only [dSeq, dAsg, dRet, dRetN, dIfS, dNext, dDrop, dPar, dVar, dC, dOp, dUn, dAndV, dOrV, dNotV, dIf, dTest, dTru, dAnd, dOr, dNot, dTup, dLst, daNil, daCons, dCall, dCB, dChain, dSl, dPart_i, dNoPart,
  dDGet, dDPut, dAppend, dgName, dgTup, dgNil, dgCons, dFor, dIter, dAug, dLc, dYes, dDisp, dPairs, isC, isCc,
  rAdd_i, rAdd_s, rAdd_t, rAdd_l, rIAdd_i, rIAdd_s, rIAdd_l, rSub_i, rMul_i, rMul_l, rFdiv_i, rMod_i, rPow_i, rNeg_i, rEq_ii, rEq_ss, rEq_ns, rEq_sn, rEq_is, rEq_si, rEq_bs, rEq_sb, rEq_bb, rEq_nn, rEq_tt, rEq_nt, rEq_tn, rLt_i, rGt_i, rLe_i, rGe_i, rLe_s, rLt_s,
  rIs_nn, rIs_bb, rIs_in, rIs_sn, rIs_bn, rIs_rn, rIs_tn, rTru_n, rTru_b, rTru_i, rTru_s, rTru_t, rTru_l, rIx_t, rIx_l, rIx_s, rLen_s, rLen_t, rLen_l, rAbs_i, rInt_i, rStr_i, rMax_i, rMin_i, rTupOf_l, rTupOf_t, rListOf_l, rListOf_t, rAll_l, rAny_l, rSum_l,
  rIsi_r, rIsi_n, rIsi_b, rIsi_i, rIsi_s, rIsi_t, iD_t, iD_s, iD_l, iR1, iR2, rSl_t, rSl_s, rSl_l,
  endsOf, startD, List.map_cons, List.map_nil, List.length_cons, List.length_nil, Nat.reduceAdd, Nat.reduceSub, List.replicate, List.cons_append, List.nil_append, List.getElem?_cons_zero, List.getElem?_cons_succ, List.set_cons_zero, List.set_cons_succ,
  Option.some.injEq, exists_eq_left', exists_eq_left, List.cons.injEq, D.int.injEq, D.tup.injEq, D.bl.injEq, D.str.injEq, D.ref.injEq, and_true, true_and, and_self, id_eq, size0, size1, size2, size3, size4, size5, size6, size7, size8, sizel0, sizel1, sizel2, sizel3, sizel4, sizel5, sizel6, sizel7, lenOf_l, lenOf_d, List.length_map, Int.reduceToNat, Int.reducePow, Int.reduceNeg, Int.reduceLT, Int.reduceLE, atI_0, atI_1, reduceCtorEq, false_and, or_false, false_or, exists_const, exists_false, ite_true, ite_false,
  Bool.false_eq_true, if_true, if_false, decide_eq_true_eq, Bool.not_eq_true', decide_eq_false_iff_not, Bool.not_true, Bool.not_false, and_assoc, exists_and_left, D.key, S.set_same, S.set_set, C.lst.injEq, C.dic.injEq, jd_cells, jd_at, jd_turn, jd_stock, jp_at, jp_turn, jp_stock, jd_len, wipeD])
/-- a pair of a top and a bottom that is not 0 -/
def Pr (k : Nat) (d : D) : Prop := ∃ t b, d = .tup [.int t, .int b] ∧ b ≠ 0 ∧ Sm k t ∧ Sm k b
theorem Pr.mono {k l : Nat} {d : D} (h : Pr k d) (hl : k ≤ l) : Pr l d := by
  obtain ⟨t, b, rfl, hb, h1, h2⟩ := h
  exact ⟨t, b, rfl, hb, h1.mono hl, h2.mono hl⟩
def sp_pair : DSp := fun ds s Q => ∃ j c n p xs k, ds = [.ref j, .ref p] ∧ Jar s j c (n + 40) ∧ s p = some (.lst xs) ∧ p ≠ j ∧ (∀ x ∈ xs, Pr k x) ∧ 120 ≤ k ∧ xs.length < 1000 ∧ ∀ d s', Pr (k + 8) d → Fr j s s' → Jar s' j c n → Q d s'
theorem sgn {r : Int} (h0 : 0 ≤ r) (h : r < 2) : (1 - 2 * r).natAbs = 1 := by omega
theorem sm_sgn {x r : Int} {k : Nat} (hk : Sm k x) (h0 : 0 ≤ r) (h : r < 2) : Sm k (x * (1 - 2 * r)) := by
  unfold Sm; rw [Int.natAbs_mul, sgn h0 h, Nat.mul_one]; exact hk
theorem ne_sgn {x r : Int} (hk : x ≠ 0) (h0 : 0 ≤ r) (h : r < 2) : x * (1 - 2 * r) ≠ 0 := Int.mul_ne_zero hk (by omega)
theorem rd__law_pair (K : PySem.W.Frag) : ∀ ds s Q, sp_pair ds s Q → t__law_pair K sp_draw sp_of sp_size (endsOf Q) (startD N__law_pair ds) s := by
  rintro ds s Q ⟨j, c, n, p, xs, k, rfl, J, hp, hpj, hxs, hk, hlen, q⟩
  unfold t__law_pair N__law_pair
  walk_at "rd"
  refine ⟨j, c, n + 32, rfl, J, fun t1 s1 a1 b1 f1 J1 => ?_⟩
  walk_at "rd"
  refine ⟨j, c, n + 31, _, rfl, by decide, by decide, J1, fun r1 s2 c1 d1 f2 J2 => ?_⟩
  walk_at "rd"
  refine ⟨mul_okr (by omega), mul_okr (by omega), j, c, n + 23, rfl, J2, fun t2 s3 a2 b2 f3 J3 => ?_⟩
  walk_at "rd"
  refine ⟨j, c, n + 22, _, rfl, by decide, by decide, J3, fun r2 s4 c2 d2 f4 J4 => ?_⟩
  walk_at "rd"
  refine ⟨mul_okr (by omega), mul_okr (by omega), j, c, n + 21, _, rfl, by decide, by decide, J4, fun w s5 c3 d3 f5 J5 => ?_⟩
  walk_at "rd"
  have fr := f1.trans (f2.trans (f3.trans (f4.trans f5)))
  have Sb : Sm (k + 8) (t2 * (1 - 2 * r2)) := (sm_sgn b2 c2 d2).mono (by omega)
  have Nb : t2 * (1 - 2 * r2) ≠ 0 := ne_sgn (by omega) c2 d2
  have St : Sm (k + 8) (t1 * (1 - 2 * r1)) := (sm_sgn b1 c1 d1).mono (by omega)
  split <;> rename_i hw
  · exact fin (q _ _ ⟨0, _, rfl, Nb, by unfold Sm; exact Nat.two_pow_pos _, Sb⟩ fr (J5.mono (by omega)))
  have hp5 : s5 p = some (.lst xs) := by rw [fr p hpj]; exact hp
  have first : (∃ s'', Sub s'' s5 ∧ Q (.tup [.int (t1 * (1 - 2 * r1)), .int (t2 * (1 - 2 * r2))]) s'') := fin (q _ _ ⟨_, _, rfl, Nb, St, Sb⟩ fr (J5.mono (by omega)))
  split <;> rename_i hw5
  · exact first
  simp only [hp5, lenOf_l, Option.some.injEq, exists_eq_left']
  split <;> rename_i hl0
  · exact first
  have hne : xs ≠ [] := fun z => hl0 (by rw [z]; rfl)
  refine ⟨j, c, n + 20, .ref p, xs, rfl, J5, .inl ⟨p, rfl, hp5, hpj⟩, hne, by omega, fun x s6 hx f6 J6 => ?_⟩
  obtain ⟨o, t, rfl, ht0, So, St2⟩ := hxs x hx
  walk_at "rd"
  refine ⟨j, c, n + 19, _, rfl, by decide, by decide, J6, fun m s7 c4 d4 f7 J7 => ?_⟩
  walk_at "rd"
  have fr7 := fr.trans (f6.trans f7)
  have Sm6 : Sm 6 (1 + m) := by unfold Sm; omega
  have hm : 1 + m ≠ 0 := by omega
  have So' : Sm (k + 6) (o * (1 + m)) := So.mul Sm6
  have St' : Sm (k + 6) (t * (1 + m)) := St2.mul Sm6
  have J' : Jar s7 j c n := J7.mono (by omega)
  split <;> rename_i h5
  · exact ⟨mul_okr (by omega), mul_okr (by omega), fin (q _ _ ⟨_, _, rfl, Int.mul_ne_zero ht0 hm, So'.mono (by omega), St'.mono (by omega)⟩ fr7 J')⟩
  split <;> rename_i h6
  · exact ⟨mul_okr (by omega), mul_okr (by omega), fin (q _ _ ⟨_, _, rfl, Int.mul_ne_zero ht0 hm, (So.neg.mul Sm6).mono (by omega), St'.mono (by omega)⟩ fr7 J')⟩
  have last : CMulD o (1 + m) ∧ sp_draw [.ref j, .int 2] s7 fun y s2 => rMul (.int 2) y s2 fun y s2 => rSub (.int (o * (1 + m) + 1)) y s2 fun x s1 => rMul (.int t) (.int (1 + m)) s1 fun x_1 s1 => ∃ s'', Sub s'' s1 ∧ Q (.tup [x, x_1]) s'' := by
    refine ⟨mul_okr (by omega), j, c, n + 18, _, rfl, by decide, by decide, J7, fun r s8 c5 d5 f8 J8 => ?_⟩
    walk_at "rd"
    refine ⟨mul_okr (by omega), mul_okr (by omega), fin (q _ _ ⟨_, _, rfl, Int.mul_ne_zero ht0 hm, ?_, St'.mono (by omega)⟩ (fr7.trans f8) (J8.mono (by omega)))⟩
    have h8 : 2 ^ (k + 8) = 2 ^ (k + 6) * 4 := by rw [show k + 8 = (k + 6) + 2 by omega, Nat.pow_add]
    have h9 : 0 < 2 ^ (k + 6) := Nat.two_pow_pos _
    unfold Sm at So' ⊢; omega
  split <;> rename_i h7
  · split <;> rename_i ho
    · exact ⟨mul_okr (by omega), mul_okr (by omega), fin (q _ _ ⟨_, _, rfl, Int.mul_ne_zero (by simpa using ho) hm, St'.mono (by omega), So'.mono (by omega)⟩ fr7 J')⟩
    · exact last
  · exact last

/-! ### two fractions -/
def Fc (d : D) : Prop := ∃ a b, d = .tup [.int a, .int b] ∧ 1 ≤ b ∧ Int.gcd a b = 1 ∧ Sm 190 a ∧ Sm 190 b
def sp_two : DSp := fun ds s Q => ∃ x y, ds = [x, y] ∧ Fc x ∧ Fc y ∧ Q (.bl true) s
theorem rd__law_two (K : PySem.W.Frag) : ∀ ds s Q, sp_two ds s Q → t__law_two K sp_below sp_is_form sp_plus sp_minus sp_times sp_per (endsOf Q) (startD N__law_two ds) s := by
  rintro ds s Q ⟨x, y, rfl, ⟨a, b, rfl, hb, gb, sa, sb⟩, ⟨c, d, rfl, hd, gd, sc, sd⟩, q⟩
  have sa := sa.mono (show 190 ≤ 200 by decide)
  have sb := sb.mono (show 190 ≤ 200 by decide)
  have sc := sc.mono (show 190 ≤ 200 by decide)
  have sd := sd.mono (show 190 ≤ 200 by decide)
  have nb : b ≠ 0 := by omega
  have nd : d ≠ 0 := by omega
  have m4 : ∀ {x y : Int}, Sm 200 x → Sm 200 y → Sm 400 (x * y) := fun h g => h.mul g
  have big : ∀ {x : Int} {k : Nat}, Sm k x → k ≤ 10000 → Sm 10000 x := fun h g => h.mono g
  unfold t__law_two N__law_two
  walk_at "rd"
  refine ⟨a, b, c, d, rfl, ⟨sa, sb, sc, sd⟩, ⟨nb, nd⟩, fun n1 e1 l1 => ?_⟩
  walk_at "rd"
  refine ⟨mk sa sd, mk sc sb, mk sb sd, _, _, _, _, rfl, l1, big ((m4 sa sd).add (m4 sc sb)) (by decide), big (m4 sb sd) (by decide), ?_⟩
  walk_at "rd"
  refine ⟨a, b, c, d, rfl, ⟨sa, sb, sc, sd⟩, ⟨nb, nd⟩, fun n2 e2 l2 => ?_⟩
  walk_at "rd"
  refine ⟨mk sa sd, mk sc sb, mk sb sd, _, _, _, _, rfl, l2, big ((m4 sa sd).sub (m4 sc sb)) (by decide), big (m4 sb sd) (by decide), ?_⟩
  walk_at "rd"
  refine ⟨a, b, c, d, rfl, ⟨sa, sb, sc, sd⟩, ⟨nb, nd⟩, fun n3 e3 l3 => ?_⟩
  walk_at "rd"
  refine ⟨mk sa sc, mk sb sd, _, _, _, _, rfl, l3, big (m4 sa sc) (by decide), big (m4 sb sd) (by decide), ?_⟩
  walk_at "rd"
  have last : ∀ s, (Q (.bl true) s → sp_below [D.tup [D.int a, D.int b], D.tup [D.int c, D.int d]] s fun x s1 => rIsi Cl.bool x s1 fun x_1 s1 => rTru x_1 s1 fun k s2 => if k = true then CMulD a d ∧ CMulD c b ∧ rEqD id x (D.bl (decide (a * d < c * b))) s2 fun d s' => ∃ s'', Sub s'' s' ∧ Q d s'' else ∃ s'', Sub s'' s2 ∧ Q x_1 s'') := by
    intro s q
    refine ⟨a, b, c, d, rfl, ⟨sa, sb, sc, sd⟩, ?_⟩
    walk_at "rd"
    refine ⟨mk sa sd, mk sc sb, ?_⟩
    have e : ∀ z : Bool, (z == z) = true := by decide
    rw [e]; exact fin q
  split <;> rename_i hc
  · refine ⟨a, b, c, d, rfl, ⟨sa, sb, sc, sd⟩, ⟨nb, hc⟩, fun n4 e4 l4 => ?_⟩
    walk_at "rd"
    refine ⟨mk sa sd, mk sb sc, _, _, _, _, rfl, l4, big (m4 sa sd) (by decide), big (m4 sb sc) (by decide), ?_⟩
    walk_at "rd"
    exact last s q
  · exact last s q
/-! ### the least common multiple -/
def step (f b : Int) : Int := f.fdiv (Int.gcd f b) * b
def cm (xs : List Int) : Int := xs.foldl step 1
theorem step_pos {f b : Int} (hf : 1 ≤ f) (hb : 1 ≤ b) : 1 ≤ step f b := by
  obtain ⟨x, hx⟩ := Int.gcd_dvd_left f b
  have hg : 0 < (Int.gcd f b : Int) := by
    have : Int.gcd f b ≠ 0 := fun z => by have := (Int.gcd_eq_zero_iff.mp z).2; omega
    omega
  have e : f.fdiv (Int.gcd f b) = x := by
    conv => lhs; arg 1; rw [hx]
    exact Int.mul_fdiv_cancel_left x (by omega)
  unfold step; rw [e]
  have hx1 : 1 ≤ x := by
    rcases Int.lt_or_le x 1 with h | h
    · have : 0 ≤ (Int.gcd f b : Int) * -x := Int.mul_nonneg (by omega) (by omega)
      rw [Int.mul_neg] at this; omega
    · exact h
  have := Int.mul_le_mul hx1 hb (by decide) (by omega)
  omega
theorem step_sm {f b : Int} {k : Nat} (hb : 1 ≤ b) (hk : Sm k f) (h : Sm 190 b) : Sm (k + 190) (step f b) := by
  obtain ⟨x, hx⟩ := Int.gcd_dvd_left f b
  have hg : Int.gcd f b ≠ 0 := fun z => by have := (Int.gcd_eq_zero_iff.mp z).2; omega
  have e : f.fdiv (Int.gcd f b) = x := by
    conv => lhs; arg 1; rw [hx]
    exact Int.mul_fdiv_cancel_left x (by omega)
  unfold step; rw [e]
  refine Sm.mul (hk.le ?_) h
  have : f.natAbs = (Int.gcd f b) * x.natAbs := (congrArg Int.natAbs hx).trans (by rw [Int.natAbs_mul]; rfl)
  rw [this]; exact Nat.le_mul_of_pos_left _ (by omega)
theorem gcd_div {f b x : Int} (hb : 1 ≤ b) (h : Sm 190 b) : CDivD x (Int.gcd f b : Int) := by
  have hg : Int.gcd f b ≠ 0 := fun z => by have := (Int.gcd_eq_zero_iff.mp z).2; omega
  refine div_ok (n := 190) (by omega) ?_ (by decide) (by decide)
  have : Int.gcd f b ≤ b.natAbs := Nat.le_of_dvd (by omega) (Int.natAbs_dvd_natAbs.mpr (Int.gcd_dvd_right f b) |> fun z => by simpa using z)
  exact Nat.lt_of_le_of_lt this h
def bot : D → Int
  | .tup [_, .int b] => b
  | _ => 1
def sp_common : DSp := fun ds s Q => ∃ xs, ds = [.tup xs] ∧ (∀ x ∈ xs, Fc x) ∧ xs.length ≤ 100 ∧ Q (.int (cm (xs.map bot))) s
theorem rd_common (K : PySem.W.Frag) : ∀ ds s Q, sp_common ds s Q → t_common K sp_gcd (endsOf Q) (startD N_common ds) s := by
  rintro ds s Q ⟨xs, rfl, hx, hl, q⟩
  unfold t_common N_common
  walk_at "rd"
  have go : ∀ (ys : List D) (f : Int) (k : Nat) (o : Option D) (E : EndsD), (∀ x ∈ ys, Fc x) → 1 ≤ f → Sm k f → k + 190 * ys.length ≤ 100000 → (∀ o, E.nx [some (.tup xs), some (.int ((ys.map bot).foldl step f)), o] s) →
      forD (dgName 2) (dAsg (dOp rFdiv (dOp rMul (dVar 1) (dOp rIxD (dVar 2) (dC (.int 1)))) (dCall sp_gcd (daCons (dVar 1) (daCons (dOp rIxD (dVar 2) (dC (.int 1))) daNil)))) (dgName 1)) (fun _ => True) E ys [some (.tup xs), some (.int f), o] s := by
    intro ys
    induction ys with
    | nil => intro f k o E _ _ _ _ h; exact ⟨trivial, h o⟩
    | cons y ys ih =>
      intro f k o E hy hf hk hlen h
      obtain ⟨a, b, rfl, hb, _, _, sb⟩ := hy _ List.mem_cons_self
      refine ⟨trivial, ?_⟩
      simp only [List.length_cons] at hlen
      walk_at "rd"
      refine ⟨hk.mulok sb (by omega) (by omega), f, b, rfl, ?_⟩
      walk_at "rd"
      refine ⟨gcd_div hb sb, ?_⟩
      rw [lcm_same (by omega)]
      exact ih _ (k + 190) _ E (fun x hx => hy x (List.mem_cons_of_mem _ hx)) (step_pos hf hb) (step_sm hb hk sb) (by omega) (by simpa [bot, step] using h)
  exact go xs 1 1 _ _ hx (by decide) (by unfold Sm; decide) (by omega) fun o => by walk_at "rd"; exact fin q
def sp_is_common : DSp := fun ds s Q => ∃ p xs, ds = [.ref p] ∧ s p = some (.lst xs) ∧ (∀ x ∈ xs, Fc x) ∧ xs.length ≤ 100 ∧ Q (.bl true) s
theorem rd__law_is_common (K : PySem.W.Frag) : ∀ ds s Q, sp_is_common ds s Q → t__law_is_common K sp_common sp_is_int sp_gcd (endsOf Q) (startD N__law_is_common ds) s := by
  rintro ds s Q ⟨p, xs, rfl, hp, hx, hl, q⟩
  unfold t__law_is_common N__law_is_common
  walk_at "rd"
  have go : ∀ (ys : List D) (f : Int) (k : Nat) (o1 o2 : Option D) (E : EndsD), (∀ x ∈ ys, Fc x) → 1 ≤ f → Sm k f → k + 190 * ys.length ≤ 100000 → (∀ o1 o2, E.nx [some (.ref p), some (.int ((ys.map bot).foldl step f)), none, o1, o2] s) →
      forD (dgTup 2 (dgCons (dgName 3) (dgCons (dgName 4) dgNil))) (dAsg (dOp rMul (dOp rFdiv (dVar 1) (dCall sp_gcd (daCons (dVar 1) (daCons (dVar 4) daNil)))) (dVar 4)) (dgName 1)) (fun s' => s' p = some (.lst xs)) E ys [some (.ref p), some (.int f), none, o1, o2] s := by
    intro ys
    induction ys with
    | nil => intro f k o1 o2 E _ _ _ _ h; exact ⟨hp, h _ _⟩
    | cons y ys ih =>
      intro f k o1 o2 E hy hf hk hlen h
      obtain ⟨a, b, rfl, hb, _, _, sb⟩ := hy _ List.mem_cons_self
      refine ⟨hp, ?_⟩
      simp only [List.length_cons] at hlen
      walk_at "rd"
      refine ⟨f, b, rfl, ?_⟩
      walk_at "rd"
      have hd : Sm (k + 1) (f.fdiv (Int.gcd f b)) := by
        obtain ⟨x, hx⟩ := Int.gcd_dvd_left f b
        have hg : Int.gcd f b ≠ 0 := fun z => by have := (Int.gcd_eq_zero_iff.mp z).2; omega
        have e : f.fdiv (Int.gcd f b) = x := by
          conv => lhs; arg 1; rw [hx]
          exact Int.mul_fdiv_cancel_left x (by omega)
        rw [e]
        refine (hk.le ?_).mono (by omega)
        have : f.natAbs = (Int.gcd f b) * x.natAbs := (congrArg Int.natAbs hx).trans (by rw [Int.natAbs_mul]; rfl)
        rw [this]; exact Nat.le_mul_of_pos_left _ (by omega)
      refine ⟨gcd_div hb sb, hd.mulok sb (by omega) (by omega), ?_⟩
      exact ih _ (k + 190) _ _ E (fun x hx => hy x (List.mem_cons_of_mem _ hx)) (step_pos hf hb) (step_sm hb hk sb) (by omega) (by simpa [bot, step] using h)
  refine ⟨xs, hp, go xs 1 1 _ _ _ hx (by decide) (by unfold Sm; decide) (by omega) fun o1 o2 => ?_⟩
  walk_at "rd"
  refine ⟨xs, hp, xs, rfl, hx, hl, ?_⟩
  walk_at "rd"
  refine ⟨_, rfl, ?_⟩
  walk_at "rd"
  have e : decide (cm (xs.map bot) = (xs.map bot).foldl step 1) = true := decide_eq_true rfl
  rw [e]; exact fin q
end Toy

set_option maxHeartbeats 4000000
namespace Toy
open PySem DL
local macro_rules | `(tactic| walk_at "rd") => `(tactic| simp only [dSeq, dAsg, dRet, dRetN, dIfS, dNext, dDrop, dPar, dVar, dC, dOp, dUn, dAndV, dOrV, dNotV, dIf, dTest, dTru, dAnd, dOr, dNot, dTup, dLst, daNil, daCons, dCall, dCB, dChain, dSl, dPart_i, dNoPart,
  dDGet, dDPut, dAppend, dgName, dgTup, dgNil, dgCons, dFor, dIter, dAug, dLc, dYes, dDisp, dPairs, isC, isCc,
  rAdd_i, rAdd_s, rAdd_t, rAdd_l, rIAdd_i, rIAdd_s, rIAdd_l, rSub_i, rMul_i, rMul_l, rFdiv_i, rMod_i, rPow_i, rNeg_i, rEq_ii, rEq_ss, rEq_ns, rEq_sn, rEq_is, rEq_si, rEq_bs, rEq_sb, rEq_bb, rEq_nn, rEq_tt, rEq_nt, rEq_tn, rLt_i, rGt_i, rLe_i, rGe_i, rLe_s, rLt_s,
  rIs_nn, rIs_bb, rIs_in, rIs_sn, rIs_bn, rIs_rn, rIs_tn, rTru_n, rTru_b, rTru_i, rTru_s, rTru_t, rTru_l, rIx_t, rIx_l, rIx_s, rLen_s, rLen_t, rLen_l, rAbs_i, rInt_i, rStr_i, rMax_i, rMin_i, rTupOf_l, rTupOf_t, rListOf_l, rListOf_t, rAll_l, rAny_l, rSum_l,
  rIsi_r, rIsi_n, rIsi_b, rIsi_i, rIsi_s, rIsi_t, iD_t, iD_s, iD_l, iR1, iR2, rSl_t, rSl_s, rSl_l,
  endsOf, startD, List.map_cons, List.map_nil, List.length_cons, List.length_nil, Nat.reduceAdd, Nat.reduceSub, List.replicate, List.cons_append, List.nil_append, List.getElem?_cons_zero, List.getElem?_cons_succ, List.set_cons_zero, List.set_cons_succ,
  Option.some.injEq, exists_eq_left', exists_eq_left, List.cons.injEq, D.int.injEq, D.tup.injEq, D.bl.injEq, D.str.injEq, D.ref.injEq, and_true, true_and, and_self, id_eq, size0, size1, size2, size3, size4, size5, size6, size7, size8, sizel0, sizel1, sizel2, sizel3, sizel4, sizel5, sizel6, sizel7, lenOf_l, lenOf_d, List.length_map, Int.reduceToNat, Int.reducePow, Int.reduceNeg, Int.reduceLT, Int.reduceLE, atI_0, atI_1, reduceCtorEq, false_and, or_false, false_or, exists_const, exists_false, ite_true, ite_false,
  Bool.false_eq_true, if_true, if_false, decide_eq_true_eq, Bool.not_eq_true', decide_eq_false_iff_not, Bool.not_true, Bool.not_false, and_assoc, exists_and_left, D.key, S.set_same, S.set_set, C.lst.injEq, C.dic.injEq, jd_cells, jd_at, jd_turn, jd_stock, jp_at, jp_turn, jp_stock, jd_len, wipeD])
theorem Jar.alloc {s : S} {j c q : Addr} {n : Nat} {x : C} (h : Jar s j c n) (e : s q = none) : Jar (s.set q x) j c n := h.set (h.fresh e).1 (h.fresh e).2
theorem kA {s : S} {p q : Addr} {x y : C} (e : s q = none) (h : s p = some x) : (s.set q y) p = some x := by
  rw [S.set_ne (fun z => by rw [← z, h] at e; cases e)]; exact h
theorem kF {j p : Addr} {s s' : S} {x : C} (f : Fr j s s') (h : s p = some x) (hp : p ≠ j) : s' p = some x := by rw [f p hp]; exact h
theorem neA {s : S} {p q : Addr} {x : C} (e : s q = none) (h : s p = some x) : q ≠ p := fun z => by rw [z, h] at e; cases e
def sp_changed : DSp := fun ds s Q => ∃ a b m, ds = [.tup [.int a, .int b], .int m] ∧ 1 ≤ b ∧ Int.gcd a b = 1 ∧ Sm 190 a ∧ Sm 190 b ∧ 2 ≤ m ∧ m ≤ 100 ∧ ∀ p ts, s p = none → (∀ t ∈ ts, parts t ∧ isFrac t = false) → Q (.ref p) (s.set p (.lst ts))
def deepD : Nat → D → D
  | 0, d => d
  | n + 1, d => deepD n (.tup [d])
theorem deep_tup : ∀ (n : Nat) (x : D), ∃ y, deepD (n + 1) (.tup [x]) = .tup [.tup y]
  | 0, x => ⟨[x], rfl⟩
  | n + 1, x => deep_tup n (.tup [x])
theorem log_ok {i : Int} (h : Sm 190 i) : i.natAbs.log2 < 1920 := Nat.lt_of_lt_of_le (PySem.Flt.log2_lt_of (by decide) h) (by decide)
theorem frac_mul {a b m : Int} (hm : 2 ≤ m) : isFrac (.tup [.int (a * m), .int (b * m)]) = false := by
  have e : Int.gcd (a * m) (b * m) = Int.gcd a b * m.natAbs := Int.gcd_mul_right ..
  have h : ¬ Int.gcd (a * m) (b * m) = 1 := by
    rw [e]
    intro z
    have := Nat.eq_one_of_mul_eq_one_left z
    omega
  show (decide (1 ≤ b * m) && decide (Int.gcd (a * m) (b * m) = 1)) = false
  rw [decide_eq_false h, Bool.and_false]
theorem frac_neg {a b : Int} (h : b ≤ 0) : isFrac (.tup [.int a, .int b]) = false := by
  show (decide (1 ≤ b) && _) = false
  rw [decide_eq_false (by omega), Bool.false_and]
theorem rd__law_changed (K : PySem.W.Frag) : ∀ ds s Q, sp_changed ds s Q → t__law_changed K (endsOf Q) (startD N__law_changed ds) s := by
  rintro ds s Q ⟨a, b, m, rfl, hb, hg, sa, sb, hm, hm2, q⟩
  unfold t__law_changed N__law_changed
  walk_at "rd"
  have go : ∀ (its : List D) (d : D) (o : Option D) (E : EndsD), (∀ o, E.nx [some (.tup [.int a, .int b]), some (.int m), some (deepD its.length d), o, some (.int a), some (.int b)] s) →
      forD (dgName 3) (dAsg (dTup (daCons (dVar 2) daNil)) (dgName 2)) (fun _ => True) E its [some (.tup [.int a, .int b]), some (.int m), some d, o, some (.int a), some (.int b)] s := by
    intro its
    induction its with
    | nil => intro d o E h; exact ⟨trivial, h o⟩
    | cons x its ih =>
      intro d o E h
      refine ⟨trivial, ?_⟩
      walk_at "rd"
      exact ih _ _ E h
  refine go _ _ _ _ fun o => ?_
  rw [show (rngD 0 26).length = 26 from rfl]
  obtain ⟨y, hy⟩ := deep_tup 24 (.tup [.int a, .int b])
  have e26 : deepD 26 (.tup [.int a, .int b]) = .tup [.tup y] := hy
  rw [e26]
  walk_at "rd"
  refine ⟨mul_okr (by omega), mul_okr (by omega), log_ok sa, log_ok sb, by decide, fun p hp => fin (q p _ hp ?_)⟩
  intro t ht
  have np : ∀ x : Int, plain (.int x) := fun _ => trivial
  simp only [List.mem_cons, List.not_mem_nil, or_false] at ht
  rcases ht with rfl | rfl | rfl | rfl | rfl | rfl | rfl | rfl | rfl | rfl | rfl | rfl | rfl | rfl | rfl | rfl | rfl | rfl | rfl | rfl | rfl | rfl | rfl | rfl | rfl | rfl | rfl | rfl | rfl
  · exact ⟨by simp [parts, plain], frac_mul hm⟩
  · exact ⟨by simp [parts, plain], frac_neg (by decide)⟩
  · exact ⟨by simp [parts, plain], frac_neg (by omega)⟩
  · exact ⟨by simp [parts, plain], frac_neg (by omega)⟩
  all_goals first
    | exact ⟨by simp [parts, plain], rfl⟩
    | exact ⟨by simp [parts, plain], by simp [isFrac]⟩

theorem low_one (t : Int) : Low t 1 t 1 := ⟨by decide, by omega, by simp, Nat.le_refl _, Nat.le_refl _⟩
theorem mem_cut {xs : List D} {lo hi : Option Int} {x : D} (h : x ∈ cutD xs lo hi) : x ∈ xs := List.mem_of_mem_drop (List.mem_of_mem_take h)
theorem len_cut {xs : List D} {lo hi : Option Int} : (cutD xs lo hi).length ≤ xs.length := by
  unfold cutD; rw [List.length_take, List.length_drop]; omega
theorem fc_parts {d : D} (h : Fc d) : parts d ∧ isFrac d = true := by
  obtain ⟨a, b, rfl, hb, hg, _, _⟩ := h
  refine ⟨by simp [parts, plain], ?_⟩
  show (decide (1 ≤ b) && decide (Int.gcd a b = 1)) = true
  rw [decide_eq_true hb, decide_eq_true hg]; rfl
/-- what stands through the law -/
structure Keep (j c p o : Addr) (n : Nat) (ps os : List D) (s : S) : Prop where
  jar : Jar s j c n
  pl : s p = some (.lst ps)
  ol : s o = some (.lst os)
theorem Keep.alloc {j c p o q : Addr} {n : Nat} {ps os : List D} {s : S} {x : C} (h : Keep j c p o n ps os s) (e : s q = none) : Keep j c p o n ps os (s.set q x) :=
  ⟨Jar.alloc h.jar e, kA e h.pl, kA e h.ol⟩
def sp_law (K : PySem.W.Frag) : DSp := fun ds s Q => ∃ a ns, ds = [.ref a] ∧ (s a = some (.lst ((ns : List Int).map .int)) ∨ s a = some (.ro (ns.map .int)) ∨ KRo K a (ns.map .int)) ∧ ns.length ≤ 63 ∧ ∀ s', Q (.bl true) s'
theorem rd_law (K : PySem.W.Frag) : ∀ ds s Q, sp_law K ds s Q → t_law K (sp_jar K) sp_draw sp_changed sp_pair sp_fraction sp_is_fraction sp_is_form sp_two sp_is_common sp_fraction sp_whole (endsOf Q) (startD N_law ds) s := by
  rintro ds s Q ⟨a, ns, rfl, hs, hl, q⟩
  have fq : ∀ s' : S, ∃ s'', Sub s'' s' ∧ Q (.bl true) s'' := fun s' => fin (q s')
  unfold t_law N_law
  walk_at "rd"
  refine ⟨a, 38, ns, rfl, hs, hl, by decide, by decide, fun j c s1 hj hc hold J1 => ?_⟩
  walk_at "rd"
  intro p hp
  have hpj := (J1.fresh hp).1
  have hpc := (J1.fresh hp).2
  refine ⟨j, c, 1000000, _, rfl, by decide, by decide, (Jar.alloc J1 hp).mono (by decide), fun r s3 h0 h3 f3 J3 => ?_⟩
  walk_at "rd"
  refine ⟨by omega, by omega, ?_⟩
  -- the pairs
  have loop1 : ∀ (its xs : List D) (s : S) (o : Option D) (E : EndsD), Jar s j c (1000 + 100 * its.length) → s p = some (.lst xs) → (∀ x ∈ xs, Pr (120 + 8 * xs.length) x) → xs.length + its.length ≤ 5 →
      (∀ s' xs o, Jar s' j c 1000 → s' p = some (.lst xs) → (∀ x ∈ xs, Pr 160 x) → xs.length ≤ 5 → E.nx [some (.ref a), some (.ref j), some (.ref p), o, none, none, none, none, none, none, none] s') →
      forD (dgName 3) (dDrop (dAppend (dVar 2) (dCall sp_pair (daCons (dVar 1) (daCons (dVar 2) daNil))))) (fun _ => True) E its [some (.ref a), some (.ref j), some (.ref p), o, none, none, none, none, none, none, none] s := by
    intro its
    induction its with
    | nil =>
      intro xs s o E J hp hx hl h
      refine ⟨trivial, h s xs o (J.mono (by simp)) hp (fun x hm => (hx x hm).mono (by simp only [List.length_nil] at hl; omega)) (by simp only [List.length_nil] at hl; omega)⟩
    | cons it its ih =>
      intro xs s o E J hp hx hl h
      refine ⟨trivial, ?_⟩
      simp only [List.length_cons] at hl J
      walk_at "rd"
      refine ⟨⟨xs, hp⟩, j, c, 1000 + 100 * its.length, p, xs, _, rfl, J.mono (by omega), hp, hpj, hx, by omega, by omega, fun d s' hd f J' => ?_⟩
      have hp' := kF f hp hpj
      walk_at "rd"
      refine ⟨xs, hp', size_small' (by omega), ?_⟩
      refine ih (xs ++ [d]) _ _ E (J'.set hpj hpc) S.set_same (fun x hm => ?_) (by simp only [List.length_append, List.length_cons, List.length_nil]; omega) h
      have e : 120 + 8 * (xs ++ [d]).length = 120 + 8 * xs.length + 8 := by simp only [List.length_append, List.length_cons, List.length_nil]; omega
      rw [e]
      rcases List.mem_append.mp hm with hm | hm
      · exact (hx x hm).mono (by omega)
      · rw [List.mem_singleton.mp hm]; exact hd
  refine loop1 _ [] _ _ _ (J3.mono ?_) (kF f3 S.set_same hpj) (fun x hm => by cases hm) ?_ fun s4 ps o4 J4 hp4 hps hl4 => ?_
  · rw [rngD, List.length_map, List.length_range]; omega
  · rw [rngD, List.length_map, List.length_range]; simp only [List.length_nil]; omega
  walk_at "rd"
  intro o ho
  have hoj := (J4.fresh ho).1
  have hoc := (J4.fresh ho).2
  have hop := neA ho hp4
  refine ⟨ps, kA ho hp4, ?_⟩
  -- each pair: its fraction
  have sm5 : ∀ {x : Int}, Sm 160 x → Sm 10000 x := fun h => h.mono (by decide)
  have loop2 : ∀ (its os : List D) (s : S) (o3 o7 o8 : Option D) (E : EndsD), Keep j c p o 1000 ps os s → (∀ x ∈ its, Pr 160 x) → (∀ x ∈ os, Fc x) → os.length + its.length ≤ 5 →
      (∀ s' os o3 o7 o8, Keep j c p o 1000 ps os s' → (∀ x ∈ os, Fc x) → os.length ≤ 5 → E.nx [some (.ref a), some (.ref j), some (.ref p), o3, some (.ref o), none, none, o7, o8, none, none] s') →
      forD (dgTup 2 (dgCons (dgName 7) (dgCons (dgName 8) dgNil))) (dSeq (dIfS (dOr (dNot (dTru (dCall sp_is_form (daCons (dCall sp_fraction (daCons (dVar 7) (daCons (dVar 8) daNil))) (daCons (dVar 7) (daCons (dVar 8) daNil)))))) (dNot (dTru (dCall sp_is_form (daCons (dCall sp_whole (daCons (dVar 7) daNil)) (daCons (dVar 7) (daCons (dC (.int 1)) daNil))))))) (dRet (dC (.bl false))) dNext)
    (dDrop (dAppend (dVar 4) (dCall sp_fraction (daCons (dVar 7) (daCons (dVar 8) daNil)))))) (fun s' => s' p = some (.lst ps)) E its [some (.ref a), some (.ref j), some (.ref p), o3, some (.ref o), none, none, o7, o8, none, none] s := by
    intro its
    induction its with
    | nil =>
      intro os s o3 o7 o8 E k _ hos hl h
      exact ⟨k.pl, h s os o3 o7 o8 k hos (by simp only [List.length_nil] at hl; omega)⟩
    | cons it its ih =>
      intro os s o3 o7 o8 E k hit hos hl h
      obtain ⟨t, b, rfl, hb, st, sb⟩ := hit _ List.mem_cons_self
      simp only [List.length_cons] at hl
      refine ⟨k.pl, ?_⟩
      walk_at "rd"
      refine ⟨t, b, rfl, hb, sb.mono (by decide), fun n d l => ?_⟩
      walk_at "rd"
      refine ⟨n, d, t, b, rfl, l, sm5 st, sm5 sb, ?_⟩
      walk_at "rd"
      refine ⟨t, rfl, ?_⟩
      walk_at "rd"
      refine ⟨t, 1, t, 1, rfl, low_one t, sm5 st, by unfold Sm; exact Nat.lt_of_lt_of_le (by decide : 1 < 2 ^ 1) (Nat.pow_le_pow_right (by decide) (by decide)), ?_⟩
      walk_at "rd"
      refine ⟨⟨os, k.ol⟩, t, b, rfl, hb, sb.mono (by decide), fun n2 d2 l2 => ?_⟩
      walk_at "rd"
      refine ⟨os, k.ol, size_small' (by omega), ?_⟩
      refine ih (os ++ [_]) _ _ _ _ E ⟨k.jar.set hoj hoc, by rw [S.set_ne hop.symm]; exact k.pl, S.set_same⟩ (fun x hm => hit x (List.mem_cons_of_mem _ hm)) (fun x hm => ?_) (by simp only [List.length_append, List.length_cons, List.length_nil]; omega) h
      rcases List.mem_append.mp hm with hm | hm
      · exact hos x hm
      · rw [List.mem_singleton.mp hm]
        exact ⟨n2, d2, rfl, l2.pos, l2.gcd, (st.le l2.ln).mono (by decide), (sb.le l2.ld).mono (by decide)⟩
  refine loop2 ps [] _ _ _ _ _ ⟨Jar.alloc J4 ho, kA ho hp4, S.set_same⟩ hps (fun x hm => by cases hm) (by simpa using hl4) fun s5 os a5 b5 c5 k5 hos hl5 => ?_
  walk_at "rd"
  refine ⟨os, k5.ol, ?_⟩
  -- every two fractions
  have loop3 : ∀ (its : List D) (s : S) (o3 x5 o7 o8 o9 : Option D) (E : EndsD), Keep j c p o 1000 ps os s → (∀ x ∈ its, Fc x) → (∃ d, x5 = some d ∧ Fc d) →
      (∀ o9, E.nx [some (.ref a), some (.ref j), some (.ref p), o3, some (.ref o), x5, none, o7, o8, o9, none] s) →
      forD (dgName 9) (dIfS (dNot (dTru (dCall sp_two (daCons (dVar 5) (daCons (dVar 9) daNil))))) (dRet (dC (.bl false))) dNext) (fun s' => s' o = some (.lst os)) E its [some (.ref a), some (.ref j), some (.ref p), o3, some (.ref o), x5, none, o7, o8, o9, none] s := by
    intro its
    induction its with
    | nil => intro s o3 x5 o7 o8 o9 E k _ _ h; exact ⟨k.ol, h o9⟩
    | cons it its ih =>
      rintro s o3 _ o7 o8 o9 E k hit ⟨d, rfl, hd⟩ h
      refine ⟨k.ol, ?_⟩
      walk_at "rd"
      refine ⟨d, it, rfl, hd, hit _ List.mem_cons_self, ?_⟩
      walk_at "rd"
      exact ih _ _ _ _ _ _ E k (fun x hm => hit x (List.mem_cons_of_mem _ hm)) ⟨d, rfl, hd⟩ h
  have loop4 : ∀ (its : List D) (s : S) (o3 o5 o7 o8 o9 : Option D) (E : EndsD), Keep j c p o 1000 ps os s → (∀ x ∈ its, Fc x) →
      (∀ o5 o9, E.nx [some (.ref a), some (.ref j), some (.ref p), o3, some (.ref o), o5, none, o7, o8, o9, none] s) →
      forD (dgName 5) (dFor (dIter (dVar 4)) (dgName 9) (dIfS (dNot (dTru (dCall sp_two (daCons (dVar 5) (daCons (dVar 9) daNil))))) (dRet (dC (.bl false))) dNext)) (fun s' => s' o = some (.lst os)) E its [some (.ref a), some (.ref j), some (.ref p), o3, some (.ref o), o5, none, o7, o8, o9, none] s := by
    intro its
    induction its with
    | nil => intro s o3 o5 o7 o8 o9 E k _ h; exact ⟨k.ol, h o5 o9⟩
    | cons it its ih =>
      intro s o3 o5 o7 o8 o9 E k hit h
      refine ⟨k.ol, ?_⟩
      walk_at "rd"
      refine ⟨os, k.ol, loop3 os s _ _ _ _ _ _ k hos ⟨_, rfl, hit _ List.mem_cons_self⟩ fun o9 => ?_⟩
      exact ih _ _ _ _ _ _ E k (fun x hm => hit x (List.mem_cons_of_mem _ hm)) h
  refine loop4 os s5 _ _ _ _ _ _ k5 hos fun o5 o9 => ?_
  walk_at "rd"
  refine ⟨os.length, by rw [k5.ol]; rfl, by omega, by omega, ?_⟩
  -- common multiples
  have loop5 : ∀ (its : List D) (s : S) (o3 o5 o7 o8 o9 : Option D) (E : EndsD), Keep j c p o 1000 ps os s → (∀ x ∈ its, ∃ i : Int, x = .int i) →
      (∀ s' o3, Keep j c p o 1000 ps os s' → E.nx [some (.ref a), some (.ref j), some (.ref p), o3, some (.ref o), o5, none, o7, o8, o9, none] s') →
      forD (dgName 3) (dIfS (dOr (dNot (dTru (dCall sp_is_common (daCons (dSl (rSlD K) (dVar 4) (dPart (dVar 3)) dNoPart) daNil)))) (dNot (dTru (dCall sp_is_common (daCons (dOp rAdd (dSl (rSlD K) (dVar 4) dNoPart (dPart (dVar 3))) (dVar 4)) daNil))))) (dRet (dC (.bl false))) dNext) (fun _ => True) E its
        [some (.ref a), some (.ref j), some (.ref p), o3, some (.ref o), o5, none, o7, o8, o9, none] s := by
    intro its
    induction its with
    | nil => intro s o3 o5 o7 o8 o9 E k _ h; exact ⟨trivial, h s o3 k⟩
    | cons it its ih =>
      intro s o3 o5 o7 o8 o9 E k hit h
      obtain ⟨i, rfl⟩ := hit _ List.mem_cons_self
      refine ⟨trivial, ?_⟩
      walk_at "rd"
      refine ⟨os, .inl k.ol, fun q1 hq1 => ?_⟩
      have k1 := k.alloc (x := .lst (cutD os (some i) none)) hq1
      refine ⟨q1, _, rfl, S.set_same, fun x hm => hos x (mem_cut hm), Nat.le_trans len_cut (by omega), ?_⟩
      walk_at "rd"
      refine ⟨os, .inl k1.ol, fun q2 hq2 => ?_⟩
      have k2 := k1.alloc (x := .lst (cutD os none (some i))) hq2
      refine ⟨os, k2.ol, size_small (by have := len_cut (xs := os) (lo := none) (hi := some i); omega), fun q3 hq3 => ?_⟩
      have k3 := k2.alloc (x := .lst (cutD os none (some i) ++ os)) hq3
      refine ⟨q3, _, rfl, S.set_same, fun x hm => ?_, ?_, ?_⟩
      · rcases List.mem_append.mp hm with hm | hm
        · exact hos x (mem_cut hm)
        · exact hos x hm
      · rw [List.length_append]; have := len_cut (xs := os) (lo := none) (hi := some i); omega
      · exact ih _ _ _ _ _ _ E k3 (fun x hm => hit x (List.mem_cons_of_mem _ hm)) h
  refine loop5 _ s5 _ _ _ _ _ _ k5 (fun x hm => ?_) fun s6 o3 k6 => ?_
  · obtain ⟨i, _, rfl⟩ := List.mem_map.mp hm
    exact ⟨_, rfl⟩
  walk_at "rd"
  refine ⟨j, c, 999, _, rfl, by decide, by decide, k6.jar, fun m s7 m0 m1 f7 J7 => ?_⟩
  have k7 : Keep j c p o 999 ps os s7 := ⟨J7, kF f7 k6.pl hpj, kF f7 k6.ol hoj⟩
  walk_at "rd"
  intro g hg
  have k8 := k7.alloc (x := .lst [D.tup [D.int 0, D.int 1], D.tup [D.int 1, D.int 1]]) hg
  refine ⟨os, k8.ol, size_small (by omega), fun g2 hg2 => ?_⟩
  have k9 := k8.alloc (x := .lst (os ++ [D.tup [D.int 0, D.int 1], D.tup [D.int 1, D.int 1]])) hg2
  -- what is changed is no fraction
  have loop6 : ∀ (fs its : List D) (s : S) (q2 : Addr) (o3 o5 o6 o7 o8 o9 o10 : Option D) (E : EndsD), s q2 = some (.lst fs) → (∀ x ∈ its, parts x ∧ isFrac x = false) →
      (∀ o10, E.nx [some (.ref a), some (.ref j), some (.ref p), o3, some (.ref o), o5, o6, o7, o8, o9, o10] s) →
      forD (dgName 10) (dIfS (dTest (dOp (rIs not) (dCall sp_is_fraction (daCons (dVar 10) daNil)) (dC (.bl false)))) (dRet (dC (.bl false))) dNext) (fun s' => s' q2 = some (.lst fs)) E its
        [some (.ref a), some (.ref j), some (.ref p), o3, some (.ref o), o5, o6, o7, o8, o9, o10] s := by
    intro fs its
    induction its with
    | nil => intro s q2 o3 o5 o6 o7 o8 o9 o10 E e _ h; exact ⟨e, h o10⟩
    | cons it its ih =>
      intro s q2 o3 o5 o6 o7 o8 o9 o10 E e hit h
      refine ⟨e, ?_⟩
      walk_at "rd"
      refine ⟨it, rfl, (hit _ List.mem_cons_self).1, ?_⟩
      rw [(hit _ List.mem_cons_self).2]
      walk_at "rd"
      rw [if_neg (by decide)]
      exact ih _ _ _ _ _ _ _ _ _ E e (fun x hm => hit x (List.mem_cons_of_mem _ hm)) h
  have loop7 : ∀ (fs its : List D) (s : S) (o3 o5 o7 o8 o9 o10 : Option D) (E : EndsD), Keep j c p o 999 ps os s → s g2 = some (.lst fs) → (∀ x ∈ its, Fc x) →
      (∀ s' o5 o10, Keep j c p o 999 ps os s' → E.nx [some (.ref a), some (.ref j), some (.ref p), o3, some (.ref o), o5, some (.int (2 + m)), o7, o8, o9, o10] s') →
      forD (dgName 5) (dSeq (dIfS (dTest (dOp (rIs not) (dCall sp_is_fraction (daCons (dVar 5) daNil)) (dC (.bl true)))) (dRet (dC (.bl false))) dNext)
    (dFor (dIter (dCall sp_changed (daCons (dVar 5) (daCons (dVar 6) daNil)))) (dgName 10) (dIfS (dTest (dOp (rIs not) (dCall sp_is_fraction (daCons (dVar 10) daNil)) (dC (.bl false)))) (dRet (dC (.bl false))) dNext))) (fun s' => s' g2 = some (.lst fs)) E its
        [some (.ref a), some (.ref j), some (.ref p), o3, some (.ref o), o5, some (.int (2 + m)), o7, o8, o9, o10] s := by
    intro fs its
    induction its with
    | nil => intro s o3 o5 o7 o8 o9 o10 E k e _ h; exact ⟨e, h s o5 o10 k⟩
    | cons it its ih =>
      intro s o3 o5 o7 o8 o9 o10 E k e hit h
      have hf := hit _ List.mem_cons_self
      obtain ⟨x, y, rfl, hy, hgc, sx, sy⟩ := id hf
      refine ⟨e, ?_⟩
      walk_at "rd"
      refine ⟨_, rfl, (fc_parts hf).1, ?_⟩
      rw [(fc_parts hf).2]
      walk_at "rd"
      rw [if_neg (by decide)]
      refine ⟨x, y, 2 + m, rfl, hy, hgc, sx, sy, by omega, by omega, fun q3 ts hq3 hts => ?_⟩
      walk_at "rd"
      refine loop6 ts ts _ q3 _ _ _ _ _ _ _ _ S.set_same hts fun o10 => ?_
      exact ih _ _ _ _ _ _ _ E (k.alloc hq3) (kA hq3 e) (fun x hm => hit x (List.mem_cons_of_mem _ hm)) h
  refine loop7 _ _ _ _ _ _ _ _ _ _ k9 S.set_same (fun x hm => ?_) fun s' o5 o10 k10 => ?_
  · rcases List.mem_append.mp hm with hm | hm
    · exact hos x hm
    · simp only [List.mem_cons, List.not_mem_nil, or_false] at hm
      have h1 : Sm 190 1 := by unfold Sm; exact Nat.lt_of_lt_of_le (by decide : 1 < 2 ^ 1) (Nat.pow_le_pow_right (by decide) (by decide))
      have h0 : Sm 190 0 := by unfold Sm; exact Nat.two_pow_pos _
      rcases hm with rfl | rfl
      · exact ⟨0, 1, rfl, by decide, by decide, h0, h1⟩
      · exact ⟨1, 1, rfl, by decide, by decide, h1, h1⟩
  walk_at "rd"
  refine ⟨ps, k10.pl, fun g3 hg3 => ?_⟩
  refine lcD_pure (fun _ => .bl true) s' ps [] (fun d hd acc Q' hq => ?_) (fun acc => kA hg3 k10.pl) (size_small' (by simp only [List.length_nil]; omega)) ?_
  · obtain ⟨t, b, rfl, hb, st, sb⟩ := hps d hd
    walk_at "rd"
    refine ⟨t, b, rfl, hb, sb.mono (by decide), fun n d l => ?_⟩
    walk_at "rd"
    exact ⟨n, d, t, b, rfl, l, sm5 st, sm5 sb, hq⟩
  · refine ⟨ps.map fun _ => true, ?_, ?_⟩
    · rw [S.set_same, List.nil_append, List.map_map]; rfl
    · have e : ((ps.map fun _ => true).all id) = true := by simp
      rw [e]; exact fq _
end Toy

set_option maxHeartbeats 4000000
namespace Toy
open PySem PySem.Spec L2 DL
variable {P : Program} {w : World} {K : PySem.W.Frag} {mg : Str → Option Value} {base : Heap}
theorem sc_is_tuple : FnScope N_is_tuple ["thing", "least", "most"] (defScope s_is_tuple) := ⟨rfl, rfl, rfl, by decide +kernel, rfl, by decide +kernel, by decide +kernel⟩
theorem der_is_tuple {sp : DSp} (T : Tp K mg)  (len : ∀ ds s Q, sp ds s Q → ds.length = 3)
    (rd : ∀ ds s Q, sp ds s Q → t_is_tuple K  (endsOf Q) (startD N_is_tuple ds) s) : Known P w K mg base 1 "is_tuple" sp := by
  obtain ⟨f, fd, F, gm⟩ := T.def_ 0 0 (d := d_is_tuple) (by rfl) (by rfl) (by rfl)
  refine known_of (k := 0) F gm sc_is_tuple (F.bindsN fun _ _ _ _ _ _ us hl => match us, hl with | [_, _, _], _ => rfl) (ps := ["thing", "least", "most"]) len (fun cdv A outer s H E hr => ⟨t_is_tuple K , ?_, rd⟩)
  unfold t_is_tuple
  exact (dss_one (ds_ret (de_and (de_isi .tuple (by rfl) (T.free 29 (by rfl)) (by rfl) (T.free 33 (by rfl)) (de_var (i := 0))) (de_one (de_chain cm_le cm_le (de_var (i := 1)) (de_len (by rfl) (T.free 30 (by rfl)) (da_cons (de_var (i := 0)) da_nil)) (de_var (i := 2)))))))
theorem sc_greatest_part : FnScope N_greatest_part ["one", "two"] (defScope s_greatest_part) := ⟨rfl, rfl, rfl, by decide +kernel, rfl, by decide +kernel, by decide +kernel⟩
theorem der_greatest_part {sp : DSp} (T : Tp K mg)  (len : ∀ ds s Q, sp ds s Q → ds.length = 2)
    (rd : ∀ ds s Q, sp ds s Q → t_greatest_part K  (endsOf Q) (startD N_greatest_part ds) s) : Known P w K mg base 1 "greatest_part" sp := by
  obtain ⟨f, fd, F, gm⟩ := T.def_ 1 1 (d := d_greatest_part) (by rfl) (by rfl) (by rfl)
  refine known_of (k := 0) F gm sc_greatest_part (F.bindsN fun _ _ _ _ _ _ us hl => match us, hl with | [_, _], _ => rfl) (ps := ["one", "two"]) len (fun cdv A outer s H E hr => ⟨t_greatest_part K , ?_, rd⟩)
  unfold t_greatest_part
  exact (dss_cons (ds_par (i := 0) (j := 1) rfl sc_greatest_part.nd rfl rfl (by decide) rfl rfl (da_cons (de_abs (by rfl) (T.free 25 (by rfl)) (da_cons (de_var (i := 0)) da_nil)) (da_cons (de_abs (by rfl) (T.free 25 (by rfl)) (da_cons (de_var (i := 1)) da_nil)) da_nil)) (by rfl))
    (dss_cons (ds_while PassesOwn.never (dt_cmp (cm_ne hr.units) (de_var (i := 1)) de_int) (dss_one (ds_par (i := 0) (j := 1) rfl sc_greatest_part.nd rfl rfl (by decide) rfl rfl (da_cons (de_var (i := 1)) (da_cons (de_mod (de_var (i := 0)) (de_var (i := 1))) da_nil)) (by rfl))))
    (dss_one (ds_ret (de_var (i := 0))))))
theorem sc_fraction : FnScope N_fraction ["top", "bottom"] (defScope s_fraction) := ⟨rfl, rfl, rfl, by decide +kernel, rfl, by decide +kernel, by decide +kernel⟩
theorem der_fraction {sp sp_greatest_part : DSp} (T : Tp K mg) (G_greatest_part : Known P w K mg base 1 "greatest_part" sp_greatest_part) (len : ∀ ds s Q, sp ds s Q → ds.length = 2)
    (rd : ∀ ds s Q, sp ds s Q → t_fraction K sp_greatest_part (endsOf Q) (startD N_fraction ds) s) : Known P w K mg base 2 "fraction" sp := by
  obtain ⟨f, fd, F, gm⟩ := T.def_ 2 2 (d := d_fraction) (by rfl) (by rfl) (by rfl)
  refine known_of (k := 1) F gm sc_fraction (F.bindsN fun _ _ _ _ _ _ us hl => match us, hl with | [_, _], _ => rfl) (ps := ["top", "bottom"]) len (fun cdv A outer s H E hr => ⟨t_fraction K sp_greatest_part, ?_, rd⟩)
  unfold t_fraction
  exact (dss_cons (ds_asg (de_call G_greatest_part (hr.mono (by decide)) (by rfl) (da_cons (de_var (i := 0)) (da_cons (de_var (i := 1)) da_nil))) (dg_name 2 sc_fraction.nd))
    (dss_cons (ds_if (dt_cmp cm_lt (de_var (i := 1)) de_int) (dss_one (ds_asg (de_neg (de_var (i := 2))) (dg_name 2 sc_fraction.nd))) dss_nil)
    (dss_one (ds_ret (de_tup (da_cons (de_fdiv (de_var (i := 0)) (de_var (i := 2))) (da_cons (de_fdiv (de_var (i := 1)) (de_var (i := 2))) da_nil)))))))
theorem sc_whole : FnScope N_whole ["n"] (defScope s_whole) := ⟨rfl, rfl, rfl, by decide +kernel, rfl, by decide +kernel, by decide +kernel⟩
theorem der_whole {sp : DSp} (T : Tp K mg)  (len : ∀ ds s Q, sp ds s Q → ds.length = 1)
    (rd : ∀ ds s Q, sp ds s Q → t_whole K  (endsOf Q) (startD N_whole ds) s) : Known P w K mg base 1 "whole" sp := by
  obtain ⟨f, fd, F, gm⟩ := T.def_ 3 3 (d := d_whole) (by rfl) (by rfl) (by rfl)
  refine known_of (k := 0) F gm sc_whole (F.bindsN fun _ _ _ _ _ _ us hl => match us, hl with | [_], _ => rfl) (ps := ["n"]) len (fun cdv A outer s H E hr => ⟨t_whole K , ?_, rd⟩)
  unfold t_whole
  exact (dss_one (ds_ret (de_tup (da_cons (de_var (i := 0)) (da_cons de_int da_nil)))))
theorem sc_is_fraction : FnScope N_is_fraction ["thing"] (defScope s_is_fraction) := ⟨rfl, rfl, rfl, by decide +kernel, rfl, by decide +kernel, by decide +kernel⟩
theorem der_is_fraction {sp sp_is_tuple sp_greatest_part : DSp} (T : Tp K mg) (G_is_tuple : Known P w K mg base 1 "is_tuple" sp_is_tuple) (G_greatest_part : Known P w K mg base 1 "greatest_part" sp_greatest_part) (len : ∀ ds s Q, sp ds s Q → ds.length = 1)
    (rd : ∀ ds s Q, sp ds s Q → t_is_fraction K sp_is_tuple sp_greatest_part (endsOf Q) (startD N_is_fraction ds) s) : Known P w K mg base 2 "is_fraction" sp := by
  obtain ⟨f, fd, F, gm⟩ := T.def_ 4 4 (d := d_is_fraction) (by rfl) (by rfl) (by rfl)
  refine known_of (k := 1) F gm sc_is_fraction (F.bindsN fun _ _ _ _ _ _ us hl => match us, hl with | [_], _ => rfl) (ps := ["thing"]) len (fun cdv A outer s H E hr => ⟨t_is_fraction K sp_is_tuple sp_greatest_part, ?_, rd⟩)
  unfold t_is_fraction
  exact (dss_cons (ds_if (dt_not (dt_truth (de_call G_is_tuple (hr.mono (by decide)) (by rfl) (da_cons (de_var (i := 0)) (da_cons de_int (da_cons de_int da_nil)))))) (dss_one (ds_ret de_bl)) dss_nil)
    (dss_cons (ds_for PassesOwn.never rfl (di_any (de_var (i := 0))) (dg_name 1 sc_is_fraction.nd) (dss_one (ds_if (dt_w (dw_or (dt_not (dt_truth (de_isi .int (by rfl) (T.free 29 (by rfl)) (by rfl) (T.free 28 (by rfl)) (de_var (i := 1))))) (dw_or1 (dt_truth (de_isi .bool (by rfl) (T.free 29 (by rfl)) (by rfl) (T.free 27 (by rfl)) (de_var (i := 1))))))) (dss_one (ds_ret de_bl)) dss_nil)))
    (dss_one (ds_ret (de_and (de_cmp cm_ge (de_ix (de_var (i := 0)) de_int) de_int) (de_one (de_cmp (cm_eq hr.units) (de_call G_greatest_part (hr.mono (by decide)) (by rfl) (da_cons (de_ix (de_var (i := 0)) de_int) (da_cons (de_ix (de_var (i := 0)) de_int) da_nil))) de_int)))))))
theorem sc_plus : FnScope N_plus ["a", "b"] (defScope s_plus) := ⟨rfl, rfl, rfl, by decide +kernel, rfl, by decide +kernel, by decide +kernel⟩
theorem der_plus {sp sp_fraction : DSp} (T : Tp K mg) (G_fraction : Known P w K mg base 2 "fraction" sp_fraction) (len : ∀ ds s Q, sp ds s Q → ds.length = 2)
    (rd : ∀ ds s Q, sp ds s Q → t_plus K sp_fraction (endsOf Q) (startD N_plus ds) s) : Known P w K mg base 3 "plus" sp := by
  obtain ⟨f, fd, F, gm⟩ := T.def_ 5 5 (d := d_plus) (by rfl) (by rfl) (by rfl)
  refine known_of (k := 2) F gm sc_plus (F.bindsN fun _ _ _ _ _ _ us hl => match us, hl with | [_, _], _ => rfl) (ps := ["a", "b"]) len (fun cdv A outer s H E hr => ⟨t_plus K sp_fraction, ?_, rd⟩)
  unfold t_plus
  exact (dss_one (ds_ret (de_call G_fraction (hr.mono (by decide)) (by rfl) (da_cons (de_add (de_mul (de_ix (de_var (i := 0)) de_int) (de_ix (de_var (i := 1)) de_int)) (de_mul (de_ix (de_var (i := 1)) de_int) (de_ix (de_var (i := 0)) de_int))) (da_cons (de_mul (de_ix (de_var (i := 0)) de_int) (de_ix (de_var (i := 1)) de_int)) da_nil)))))
theorem sc_minus : FnScope N_minus ["a", "b"] (defScope s_minus) := ⟨rfl, rfl, rfl, by decide +kernel, rfl, by decide +kernel, by decide +kernel⟩
theorem der_minus {sp sp_fraction : DSp} (T : Tp K mg) (G_fraction : Known P w K mg base 2 "fraction" sp_fraction) (len : ∀ ds s Q, sp ds s Q → ds.length = 2)
    (rd : ∀ ds s Q, sp ds s Q → t_minus K sp_fraction (endsOf Q) (startD N_minus ds) s) : Known P w K mg base 3 "minus" sp := by
  obtain ⟨f, fd, F, gm⟩ := T.def_ 6 6 (d := d_minus) (by rfl) (by rfl) (by rfl)
  refine known_of (k := 2) F gm sc_minus (F.bindsN fun _ _ _ _ _ _ us hl => match us, hl with | [_, _], _ => rfl) (ps := ["a", "b"]) len (fun cdv A outer s H E hr => ⟨t_minus K sp_fraction, ?_, rd⟩)
  unfold t_minus
  exact (dss_one (ds_ret (de_call G_fraction (hr.mono (by decide)) (by rfl) (da_cons (de_sub (de_mul (de_ix (de_var (i := 0)) de_int) (de_ix (de_var (i := 1)) de_int)) (de_mul (de_ix (de_var (i := 1)) de_int) (de_ix (de_var (i := 0)) de_int))) (da_cons (de_mul (de_ix (de_var (i := 0)) de_int) (de_ix (de_var (i := 1)) de_int)) da_nil)))))
theorem sc_times : FnScope N_times ["a", "b"] (defScope s_times) := ⟨rfl, rfl, rfl, by decide +kernel, rfl, by decide +kernel, by decide +kernel⟩
theorem der_times {sp sp_fraction : DSp} (T : Tp K mg) (G_fraction : Known P w K mg base 2 "fraction" sp_fraction) (len : ∀ ds s Q, sp ds s Q → ds.length = 2)
    (rd : ∀ ds s Q, sp ds s Q → t_times K sp_fraction (endsOf Q) (startD N_times ds) s) : Known P w K mg base 3 "times" sp := by
  obtain ⟨f, fd, F, gm⟩ := T.def_ 7 7 (d := d_times) (by rfl) (by rfl) (by rfl)
  refine known_of (k := 2) F gm sc_times (F.bindsN fun _ _ _ _ _ _ us hl => match us, hl with | [_, _], _ => rfl) (ps := ["a", "b"]) len (fun cdv A outer s H E hr => ⟨t_times K sp_fraction, ?_, rd⟩)
  unfold t_times
  exact (dss_one (ds_ret (de_call G_fraction (hr.mono (by decide)) (by rfl) (da_cons (de_mul (de_ix (de_var (i := 0)) de_int) (de_ix (de_var (i := 1)) de_int)) (da_cons (de_mul (de_ix (de_var (i := 0)) de_int) (de_ix (de_var (i := 1)) de_int)) da_nil)))))
theorem sc_per : FnScope N_per ["a", "b"] (defScope s_per) := ⟨rfl, rfl, rfl, by decide +kernel, rfl, by decide +kernel, by decide +kernel⟩
theorem der_per {sp sp_fraction : DSp} (T : Tp K mg) (G_fraction : Known P w K mg base 2 "fraction" sp_fraction) (len : ∀ ds s Q, sp ds s Q → ds.length = 2)
    (rd : ∀ ds s Q, sp ds s Q → t_per K sp_fraction (endsOf Q) (startD N_per ds) s) : Known P w K mg base 3 "per" sp := by
  obtain ⟨f, fd, F, gm⟩ := T.def_ 8 8 (d := d_per) (by rfl) (by rfl) (by rfl)
  refine known_of (k := 2) F gm sc_per (F.bindsN fun _ _ _ _ _ _ us hl => match us, hl with | [_, _], _ => rfl) (ps := ["a", "b"]) len (fun cdv A outer s H E hr => ⟨t_per K sp_fraction, ?_, rd⟩)
  unfold t_per
  exact (dss_one (ds_ret (de_call G_fraction (hr.mono (by decide)) (by rfl) (da_cons (de_mul (de_ix (de_var (i := 0)) de_int) (de_ix (de_var (i := 1)) de_int)) (da_cons (de_mul (de_ix (de_var (i := 0)) de_int) (de_ix (de_var (i := 1)) de_int)) da_nil)))))
theorem sc_below : FnScope N_below ["a", "b"] (defScope s_below) := ⟨rfl, rfl, rfl, by decide +kernel, rfl, by decide +kernel, by decide +kernel⟩
theorem der_below {sp : DSp} (T : Tp K mg)  (len : ∀ ds s Q, sp ds s Q → ds.length = 2)
    (rd : ∀ ds s Q, sp ds s Q → t_below K  (endsOf Q) (startD N_below ds) s) : Known P w K mg base 1 "below" sp := by
  obtain ⟨f, fd, F, gm⟩ := T.def_ 9 9 (d := d_below) (by rfl) (by rfl) (by rfl)
  refine known_of (k := 0) F gm sc_below (F.bindsN fun _ _ _ _ _ _ us hl => match us, hl with | [_, _], _ => rfl) (ps := ["a", "b"]) len (fun cdv A outer s H E hr => ⟨t_below K , ?_, rd⟩)
  unfold t_below
  exact (dss_one (ds_ret (de_cmp cm_lt (de_mul (de_ix (de_var (i := 0)) de_int) (de_ix (de_var (i := 1)) de_int)) (de_mul (de_ix (de_var (i := 1)) de_int) (de_ix (de_var (i := 0)) de_int)))))
theorem sc_common : FnScope N_common ["fractions"] (defScope s_common) := ⟨rfl, rfl, rfl, by decide +kernel, rfl, by decide +kernel, by decide +kernel⟩
theorem der_common {sp sp_greatest_part : DSp} (T : Tp K mg) (G_greatest_part : Known P w K mg base 1 "greatest_part" sp_greatest_part) (len : ∀ ds s Q, sp ds s Q → ds.length = 1)
    (rd : ∀ ds s Q, sp ds s Q → t_common K sp_greatest_part (endsOf Q) (startD N_common ds) s) : Known P w K mg base 2 "common" sp := by
  obtain ⟨f, fd, F, gm⟩ := T.def_ 10 10 (d := d_common) (by rfl) (by rfl) (by rfl)
  refine known_of (k := 1) F gm sc_common (F.bindsN fun _ _ _ _ _ _ us hl => match us, hl with | [_], _ => rfl) (ps := ["fractions"]) len (fun cdv A outer s H E hr => ⟨t_common K sp_greatest_part, ?_, rd⟩)
  unfold t_common
  exact (dss_cons (ds_asg de_int (dg_name 1 sc_common.nd))
    (dss_cons (ds_for PassesOwn.never rfl (di_any (de_var (i := 0))) (dg_name 2 sc_common.nd) (dss_one (ds_asg (de_fdiv (de_mul (de_var (i := 1)) (de_ix (de_var (i := 2)) de_int)) (de_call G_greatest_part (hr.mono (by decide)) (by rfl) (da_cons (de_var (i := 1)) (da_cons (de_ix (de_var (i := 2)) de_int) da_nil)))) (dg_name 1 sc_common.nd))))
    (dss_one (ds_ret (de_var (i := 1))))))
theorem sc__law_is_int : FnScope N__law_is_int ["thing"] (defScope s__law_is_int) := ⟨rfl, rfl, rfl, by decide +kernel, rfl, by decide +kernel, by decide +kernel⟩
theorem der__law_is_int {sp : DSp} (T : Tp K mg)  (len : ∀ ds s Q, sp ds s Q → ds.length = 1)
    (rd : ∀ ds s Q, sp ds s Q → t__law_is_int K  (endsOf Q) (startD N__law_is_int ds) s) : Known P w K mg base 1 "_law_is_int" sp := by
  obtain ⟨f, fd, F, gm⟩ := T.def_ 11 11 (d := d__law_is_int) (by rfl) (by rfl) (by rfl)
  refine known_of (k := 0) F gm sc__law_is_int (F.bindsN fun _ _ _ _ _ _ us hl => match us, hl with | [_], _ => rfl) (ps := ["thing"]) len (fun cdv A outer s H E hr => ⟨t__law_is_int K , ?_, rd⟩)
  unfold t__law_is_int
  exact (dss_one (ds_ret (de_and (de_isi .int (by rfl) (T.free 29 (by rfl)) (by rfl) (T.free 28 (by rfl)) (de_var (i := 0))) (de_one (de_not (de_isi .bool (by rfl) (T.free 29 (by rfl)) (by rfl) (T.free 27 (by rfl)) (de_var (i := 0))))))))
theorem sc__law_gcd : FnScope N__law_gcd ["one", "two"] (defScope s__law_gcd) := ⟨rfl, rfl, rfl, by decide +kernel, rfl, by decide +kernel, by decide +kernel⟩
theorem der__law_gcd {sp : DSp} (T : Tp K mg)  (len : ∀ ds s Q, sp ds s Q → ds.length = 2)
    (rd : ∀ ds s Q, sp ds s Q → t__law_gcd K  (endsOf Q) (startD N__law_gcd ds) s) : Known P w K mg base 1 "_law_gcd" sp := by
  obtain ⟨f, fd, F, gm⟩ := T.def_ 12 12 (d := d__law_gcd) (by rfl) (by rfl) (by rfl)
  refine known_of (k := 0) F gm sc__law_gcd (F.bindsN fun _ _ _ _ _ _ us hl => match us, hl with | [_, _], _ => rfl) (ps := ["one", "two"]) len (fun cdv A outer s H E hr => ⟨t__law_gcd K , ?_, rd⟩)
  unfold t__law_gcd
  exact (dss_cons (ds_par (i := 0) (j := 1) rfl sc__law_gcd.nd rfl rfl (by decide) rfl rfl (da_cons (de_abs (by rfl) (T.free 25 (by rfl)) (da_cons (de_var (i := 0)) da_nil)) (da_cons (de_abs (by rfl) (T.free 25 (by rfl)) (da_cons (de_var (i := 1)) da_nil)) da_nil)) (by rfl))
    (dss_cons (ds_while PassesOwn.never (dt_cmp (cm_ne hr.units) (de_var (i := 1)) de_int) (dss_one (ds_par (i := 0) (j := 1) rfl sc__law_gcd.nd rfl rfl (by decide) rfl rfl (da_cons (de_var (i := 1)) (da_cons (de_mod (de_intOf (by rfl) (T.free 28 (by rfl)) (da_cons (de_var (i := 0)) da_nil)) (de_var (i := 1))) da_nil)) (by rfl))))
    (dss_one (ds_ret (de_var (i := 0))))))
theorem sc__law_lowest : FnScope N__law_lowest ["top", "bottom"] (defScope s__law_lowest) := ⟨rfl, rfl, rfl, by decide +kernel, rfl, by decide +kernel, by decide +kernel⟩
theorem der__law_lowest {sp sp__law_gcd : DSp} (T : Tp K mg) (G__law_gcd : Known P w K mg base 1 "_law_gcd" sp__law_gcd) (len : ∀ ds s Q, sp ds s Q → ds.length = 2)
    (rd : ∀ ds s Q, sp ds s Q → t__law_lowest K sp__law_gcd (endsOf Q) (startD N__law_lowest ds) s) : Known P w K mg base 2 "_law_lowest" sp := by
  obtain ⟨f, fd, F, gm⟩ := T.def_ 13 13 (d := d__law_lowest) (by rfl) (by rfl) (by rfl)
  refine known_of (k := 1) F gm sc__law_lowest (F.bindsN fun _ _ _ _ _ _ us hl => match us, hl with | [_, _], _ => rfl) (ps := ["top", "bottom"]) len (fun cdv A outer s H E hr => ⟨t__law_lowest K sp__law_gcd, ?_, rd⟩)
  unfold t__law_lowest
  exact (dss_cons (ds_asg (de_call G__law_gcd (hr.mono (by decide)) (by rfl) (da_cons (de_var (i := 0)) (da_cons (de_var (i := 1)) da_nil))) (dg_name 2 sc__law_lowest.nd))
    (dss_cons (ds_if (dt_cmp cm_lt (de_var (i := 1)) de_int) (dss_one (ds_asg (de_neg (de_var (i := 2))) (dg_name 2 sc__law_lowest.nd))) dss_nil)
    (dss_one (ds_ret (de_tup (da_cons (de_fdiv (de_var (i := 0)) (de_var (i := 2))) (da_cons (de_fdiv (de_var (i := 1)) (de_var (i := 2))) da_nil)))))))
theorem sc__law_is_form : FnScope N__law_is_form ["told", "top", "bottom"] (defScope s__law_is_form) := ⟨rfl, rfl, rfl, by decide +kernel, rfl, by decide +kernel, by decide +kernel⟩
theorem der__law_is_form {sp sp__law_is_int sp__law_gcd : DSp} (T : Tp K mg) (G__law_is_int : Known P w K mg base 1 "_law_is_int" sp__law_is_int) (G__law_gcd : Known P w K mg base 1 "_law_gcd" sp__law_gcd) (len : ∀ ds s Q, sp ds s Q → ds.length = 3)
    (rd : ∀ ds s Q, sp ds s Q → t__law_is_form K sp__law_is_int sp__law_gcd (endsOf Q) (startD N__law_is_form ds) s) : Known P w K mg base 2 "_law_is_form" sp := by
  obtain ⟨f, fd, F, gm⟩ := T.def_ 14 14 (d := d__law_is_form) (by rfl) (by rfl) (by rfl)
  refine known_of (k := 1) F gm sc__law_is_form (F.bindsN fun _ _ _ _ _ _ us hl => match us, hl with | [_, _, _], _ => rfl) (ps := ["told", "top", "bottom"]) len (fun cdv A outer s H E hr => ⟨t__law_is_form K sp__law_is_int sp__law_gcd, ?_, rd⟩)
  unfold t__law_is_form
  exact (dss_cons (ds_if (dt_w (dw_or (dt_not (dt_truth (de_isi .tuple (by rfl) (T.free 29 (by rfl)) (by rfl) (T.free 33 (by rfl)) (de_var (i := 0))))) (dw_or1 (dt_cmp (cm_ne hr.units) (de_len (by rfl) (T.free 30 (by rfl)) (da_cons (de_var (i := 0)) da_nil)) de_int)))) (dss_one (ds_ret de_bl)) dss_nil)
    (dss_cons (ds_if (dt_w (dw_or (dt_not (dt_truth (de_call G__law_is_int (hr.mono (by decide)) (by rfl) (da_cons (de_ix (de_var (i := 0)) de_int) da_nil)))) (dw_or (dt_not (dt_truth (de_call G__law_is_int (hr.mono (by decide)) (by rfl) (da_cons (de_ix (de_var (i := 0)) de_int) da_nil)))) (dw_or1 (dt_cmp cm_lt (de_ix (de_var (i := 0)) de_int) de_int))))) (dss_one (ds_ret de_bl)) dss_nil)
    (dss_one (ds_ret (de_and (de_cmp (cm_eq hr.units) (de_mul (de_ix (de_var (i := 0)) de_int) (de_var (i := 2))) (de_mul (de_var (i := 1)) (de_ix (de_var (i := 0)) de_int))) (de_one (de_cmp (cm_eq hr.units) (de_call G__law_gcd (hr.mono (by decide)) (by rfl) (da_cons (de_ix (de_var (i := 0)) de_int) (da_cons (de_ix (de_var (i := 0)) de_int) da_nil))) de_int)))))))
theorem sc__law_size : FnScope N__law_size ["jar"] (defScope s__law_size) := ⟨rfl, rfl, rfl, by decide +kernel, rfl, by decide +kernel, by decide +kernel⟩
theorem der__law_size {sp sp__law_draw : DSp} (T : Tp K mg) (G__law_draw : Known P w K mg base 2 "_law_draw" sp__law_draw) (len : ∀ ds s Q, sp ds s Q → ds.length = 1)
    (rd : ∀ ds s Q, sp ds s Q → t__law_size K sp__law_draw (endsOf Q) (startD N__law_size ds) s) : Known P w K mg base 3 "_law_size" sp := by
  obtain ⟨f, fd, F, gm⟩ := T.def_ 15 15 (d := d__law_size) (by rfl) (by rfl) (by rfl)
  refine known_of (k := 2) F gm sc__law_size (F.bindsN fun _ _ _ _ _ _ us hl => match us, hl with | [_], _ => rfl) (ps := ["jar"]) len (fun cdv A outer s H E hr => ⟨t__law_size K sp__law_draw, ?_, rd⟩)
  unfold t__law_size
  exact (dss_cons (ds_asg (de_add de_int (de_call G__law_draw (hr.mono (by decide)) (by rfl) (da_cons (de_var (i := 0)) (da_cons de_int da_nil)))) (dg_name 1 sc__law_size.nd))
    (dss_cons (ds_asg (de_call G__law_draw (hr.mono (by decide)) (by rfl) (da_cons (de_var (i := 0)) (da_cons de_int da_nil))) (dg_name 2 sc__law_size.nd))
    (dss_cons (ds_if (dt_cmp cm_gt (de_var (i := 2)) de_int) (dss_one (ds_for PassesOwn.never rfl (di_range1 (by rfl) (T.free 31 (by rfl)) (da_cons de_int da_nil)) (dg_name 3 sc__law_size.nd) (dss_one (ds_asg (de_mul (de_var (i := 1)) (de_add de_int (de_call G__law_draw (hr.mono (by decide)) (by rfl) (da_cons (de_var (i := 0)) (da_cons de_int da_nil))))) (dg_name 1 sc__law_size.nd))))) dss_nil)
    (dss_cons (ds_if (dt_cmp (cm_eq hr.units) (de_var (i := 2)) de_int) (dss_one (ds_for PassesOwn.never rfl (di_range1 (by rfl) (T.free 31 (by rfl)) (da_cons de_int da_nil)) (dg_name 3 sc__law_size.nd) (dss_one (ds_asg (de_add (de_mul (de_var (i := 1)) de_int) (de_call G__law_draw (hr.mono (by decide)) (by rfl) (da_cons (de_var (i := 0)) (da_cons de_int da_nil)))) (dg_name 1 sc__law_size.nd))))) dss_nil)
    (dss_one (ds_ret (de_var (i := 1))))))))
theorem sc__law_pair : FnScope N__law_pair ["jar", "pairs"] (defScope s__law_pair) := ⟨rfl, rfl, rfl, by decide +kernel, rfl, by decide +kernel, by decide +kernel⟩
theorem der__law_pair {sp sp__law_draw sp__law_of sp__law_size : DSp} (T : Tp K mg) (G__law_draw : Known P w K mg base 2 "_law_draw" sp__law_draw) (G__law_of : Known P w K mg base 3 "_law_of" sp__law_of) (G__law_size : Known P w K mg base 3 "_law_size" sp__law_size) (len : ∀ ds s Q, sp ds s Q → ds.length = 2)
    (rd : ∀ ds s Q, sp ds s Q → t__law_pair K sp__law_draw sp__law_of sp__law_size (endsOf Q) (startD N__law_pair ds) s) : Known P w K mg base 4 "_law_pair" sp := by
  obtain ⟨f, fd, F, gm⟩ := T.def_ 16 16 (d := d__law_pair) (by rfl) (by rfl) (by rfl)
  refine known_of (k := 3) F gm sc__law_pair (F.bindsN fun _ _ _ _ _ _ us hl => match us, hl with | [_, _], _ => rfl) (ps := ["jar", "pairs"]) len (fun cdv A outer s H E hr => ⟨t__law_pair K sp__law_draw sp__law_of sp__law_size, ?_, rd⟩)
  unfold t__law_pair
  exact (dss_cons (ds_asg (de_mul (de_call G__law_size (hr.mono (by decide)) (by rfl) (da_cons (de_var (i := 0)) da_nil)) (de_sub de_int (de_mul de_int (de_call G__law_draw (hr.mono (by decide)) (by rfl) (da_cons (de_var (i := 0)) (da_cons de_int da_nil)))))) (dg_name 2 sc__law_pair.nd))
    (dss_cons (ds_asg (de_mul (de_call G__law_size (hr.mono (by decide)) (by rfl) (da_cons (de_var (i := 0)) da_nil)) (de_sub de_int (de_mul de_int (de_call G__law_draw (hr.mono (by decide)) (by rfl) (da_cons (de_var (i := 0)) (da_cons de_int da_nil)))))) (dg_name 3 sc__law_pair.nd))
    (dss_cons (ds_asg (de_call G__law_draw (hr.mono (by decide)) (by rfl) (da_cons (de_var (i := 0)) (da_cons de_int da_nil))) (dg_name 4 sc__law_pair.nd))
    (dss_cons (ds_if (dt_cmp (cm_eq hr.units) (de_var (i := 4)) de_int) (dss_one (ds_ret (de_tup (da_cons de_int (da_cons (de_var (i := 3)) da_nil))))) dss_nil)
    (dss_cons (ds_if (dt_w (dw_or (dt_cmp cm_lt (de_var (i := 4)) de_int) (dw_or1 (dt_cmp (cm_eq hr.units) (de_len (by rfl) (T.free 30 (by rfl)) (da_cons (de_var (i := 1)) da_nil)) de_int)))) (dss_one (ds_ret (de_tup (da_cons (de_var (i := 2)) (da_cons (de_var (i := 3)) da_nil))))) dss_nil)
    (dss_cons (ds_asg (de_call G__law_of (hr.mono (by decide)) (by rfl) (da_cons (de_var (i := 0)) (da_cons (de_var (i := 1)) da_nil))) (dg_tup rfl (dgs_cons (dg_name 6 sc__law_pair.nd) (dgs_cons (dg_name 7 sc__law_pair.nd) dgs_nil))))
    (dss_cons (ds_asg (de_add de_int (de_call G__law_draw (hr.mono (by decide)) (by rfl) (da_cons (de_var (i := 0)) (da_cons de_int da_nil)))) (dg_name 5 sc__law_pair.nd))
    (dss_cons (ds_if (dt_cmp (cm_eq hr.units) (de_var (i := 4)) de_int) (dss_one (ds_ret (de_tup (da_cons (de_mul (de_var (i := 6)) (de_var (i := 5))) (da_cons (de_mul (de_var (i := 7)) (de_var (i := 5))) da_nil))))) dss_nil)
    (dss_cons (ds_if (dt_cmp (cm_eq hr.units) (de_var (i := 4)) de_int) (dss_one (ds_ret (de_tup (da_cons (de_mul (de_neg (de_var (i := 6))) (de_var (i := 5))) (da_cons (de_mul (de_var (i := 7)) (de_var (i := 5))) da_nil))))) dss_nil)
    (dss_cons (ds_if (dt_w (dw_and (dt_cmp (cm_eq hr.units) (de_var (i := 4)) de_int) (dw_and1 (dt_cmp (cm_ne hr.units) (de_var (i := 6)) de_int)))) (dss_one (ds_ret (de_tup (da_cons (de_mul (de_var (i := 7)) (de_var (i := 5))) (da_cons (de_mul (de_var (i := 6)) (de_var (i := 5))) da_nil))))) dss_nil)
    (dss_one (ds_ret (de_tup (da_cons (de_sub (de_add (de_mul (de_var (i := 6)) (de_var (i := 5))) de_int) (de_mul de_int (de_call G__law_draw (hr.mono (by decide)) (by rfl) (da_cons (de_var (i := 0)) (da_cons de_int da_nil))))) (da_cons (de_mul (de_var (i := 7)) (de_var (i := 5))) da_nil)))))))))))))))
theorem sc__law_two : FnScope N__law_two ["one", "two"] (defScope s__law_two) := ⟨rfl, rfl, rfl, by decide +kernel, rfl, by decide +kernel, by decide +kernel⟩
theorem der__law_two {sp sp_below sp__law_is_form sp_plus sp_minus sp_times sp_per : DSp} (T : Tp K mg) (G_below : Known P w K mg base 1 "below" sp_below) (G__law_is_form : Known P w K mg base 2 "_law_is_form" sp__law_is_form) (G_plus : Known P w K mg base 3 "plus" sp_plus) (G_minus : Known P w K mg base 3 "minus" sp_minus) (G_times : Known P w K mg base 3 "times" sp_times) (G_per : Known P w K mg base 3 "per" sp_per) (len : ∀ ds s Q, sp ds s Q → ds.length = 2)
    (rd : ∀ ds s Q, sp ds s Q → t__law_two K sp_below sp__law_is_form sp_plus sp_minus sp_times sp_per (endsOf Q) (startD N__law_two ds) s) : Known P w K mg base 4 "_law_two" sp := by
  obtain ⟨f, fd, F, gm⟩ := T.def_ 17 17 (d := d__law_two) (by rfl) (by rfl) (by rfl)
  refine known_of (k := 3) F gm sc__law_two (F.bindsN fun _ _ _ _ _ _ us hl => match us, hl with | [_, _], _ => rfl) (ps := ["one", "two"]) len (fun cdv A outer s H E hr => ⟨t__law_two K sp_below sp__law_is_form sp_plus sp_minus sp_times sp_per, ?_, rd⟩)
  unfold t__law_two
  exact (dss_cons (ds_asg (de_var (i := 0)) (dg_tup rfl (dgs_cons (dg_name 3 sc__law_two.nd) (dgs_cons (dg_name 4 sc__law_two.nd) dgs_nil))))
    (dss_cons (ds_asg (de_var (i := 1)) (dg_tup rfl (dgs_cons (dg_name 5 sc__law_two.nd) (dgs_cons (dg_name 6 sc__law_two.nd) dgs_nil))))
    (dss_cons (ds_if (dt_not (dt_truth (de_call G__law_is_form (hr.mono (by decide)) (by rfl) (da_cons (de_call G_plus (hr.mono (by decide)) (by rfl) (da_cons (de_var (i := 0)) (da_cons (de_var (i := 1)) da_nil))) (da_cons (de_add (de_mul (de_var (i := 3)) (de_var (i := 6))) (de_mul (de_var (i := 5)) (de_var (i := 4)))) (da_cons (de_mul (de_var (i := 4)) (de_var (i := 6))) da_nil)))))) (dss_one (ds_ret de_bl)) dss_nil)
    (dss_cons (ds_if (dt_not (dt_truth (de_call G__law_is_form (hr.mono (by decide)) (by rfl) (da_cons (de_call G_minus (hr.mono (by decide)) (by rfl) (da_cons (de_var (i := 0)) (da_cons (de_var (i := 1)) da_nil))) (da_cons (de_sub (de_mul (de_var (i := 3)) (de_var (i := 6))) (de_mul (de_var (i := 5)) (de_var (i := 4)))) (da_cons (de_mul (de_var (i := 4)) (de_var (i := 6))) da_nil)))))) (dss_one (ds_ret de_bl)) dss_nil)
    (dss_cons (ds_if (dt_not (dt_truth (de_call G__law_is_form (hr.mono (by decide)) (by rfl) (da_cons (de_call G_times (hr.mono (by decide)) (by rfl) (da_cons (de_var (i := 0)) (da_cons (de_var (i := 1)) da_nil))) (da_cons (de_mul (de_var (i := 3)) (de_var (i := 5))) (da_cons (de_mul (de_var (i := 4)) (de_var (i := 6))) da_nil)))))) (dss_one (ds_ret de_bl)) dss_nil)
    (dss_cons (ds_if (dt_w (dw_and (dt_cmp (cm_ne hr.units) (de_var (i := 5)) de_int) (dw_and1 (dt_not (dt_truth (de_call G__law_is_form (hr.mono (by decide)) (by rfl) (da_cons (de_call G_per (hr.mono (by decide)) (by rfl) (da_cons (de_var (i := 0)) (da_cons (de_var (i := 1)) da_nil))) (da_cons (de_mul (de_var (i := 3)) (de_var (i := 6))) (da_cons (de_mul (de_var (i := 4)) (de_var (i := 5))) da_nil))))))))) (dss_one (ds_ret de_bl)) dss_nil)
    (dss_cons (ds_asg (de_call G_below (hr.mono (by decide)) (by rfl) (da_cons (de_var (i := 0)) (da_cons (de_var (i := 1)) da_nil))) (dg_name 2 sc__law_two.nd))
    (dss_one (ds_ret (de_and (de_isi .bool (by rfl) (T.free 29 (by rfl)) (by rfl) (T.free 27 (by rfl)) (de_var (i := 2))) (de_one (de_cmp (cm_eq hr.units) (de_var (i := 2)) (de_cmp cm_lt (de_mul (de_var (i := 3)) (de_var (i := 6))) (de_mul (de_var (i := 5)) (de_var (i := 4))))))))))))))))
theorem sc__law_is_common : FnScope N__law_is_common ["ratios"] (defScope s__law_is_common) := ⟨rfl, rfl, rfl, by decide +kernel, rfl, by decide +kernel, by decide +kernel⟩
theorem der__law_is_common {sp sp_common sp__law_is_int sp__law_gcd : DSp} (T : Tp K mg) (G_common : Known P w K mg base 2 "common" sp_common) (G__law_is_int : Known P w K mg base 1 "_law_is_int" sp__law_is_int) (G__law_gcd : Known P w K mg base 1 "_law_gcd" sp__law_gcd) (len : ∀ ds s Q, sp ds s Q → ds.length = 1)
    (rd : ∀ ds s Q, sp ds s Q → t__law_is_common K sp_common sp__law_is_int sp__law_gcd (endsOf Q) (startD N__law_is_common ds) s) : Known P w K mg base 3 "_law_is_common" sp := by
  obtain ⟨f, fd, F, gm⟩ := T.def_ 18 18 (d := d__law_is_common) (by rfl) (by rfl) (by rfl)
  refine known_of (k := 2) F gm sc__law_is_common (F.bindsN fun _ _ _ _ _ _ us hl => match us, hl with | [_], _ => rfl) (ps := ["ratios"]) len (fun cdv A outer s H E hr => ⟨t__law_is_common K sp_common sp__law_is_int sp__law_gcd, ?_, rd⟩)
  unfold t__law_is_common
  exact (dss_cons (ds_asg de_int (dg_name 1 sc__law_is_common.nd))
    (dss_cons (ds_for PassesOwn.never rfl (di_any (de_var (i := 0))) (dg_tup rfl (dgs_cons (dg_name 3 sc__law_is_common.nd) (dgs_cons (dg_name 4 sc__law_is_common.nd) dgs_nil))) (dss_one (ds_asg (de_mul (de_fdiv (de_var (i := 1)) (de_call G__law_gcd (hr.mono (by decide)) (by rfl) (da_cons (de_var (i := 1)) (da_cons (de_var (i := 4)) da_nil)))) (de_var (i := 4))) (dg_name 1 sc__law_is_common.nd))))
    (dss_cons (ds_asg (de_call G_common (hr.mono (by decide)) (by rfl) (da_cons (de_tupOf (by rfl) (T.free 33 (by rfl)) (da_cons (de_var (i := 0)) da_nil)) da_nil)) (dg_name 2 sc__law_is_common.nd))
    (dss_one (ds_ret (de_and (de_call G__law_is_int (hr.mono (by decide)) (by rfl) (da_cons (de_var (i := 2)) da_nil)) (de_one (de_cmp (cm_eq hr.units) (de_var (i := 2)) (de_var (i := 1))))))))))
theorem sc__law_changed : FnScope N__law_changed ["one", "more"] (defScope s__law_changed) := ⟨rfl, rfl, rfl, by decide +kernel, rfl, by decide +kernel, by decide +kernel⟩
theorem der__law_changed {sp : DSp} (T : Tp K mg)  (len : ∀ ds s Q, sp ds s Q → ds.length = 2)
    (rd : ∀ ds s Q, sp ds s Q → t__law_changed K  (endsOf Q) (startD N__law_changed ds) s) : Known P w K mg base 1 "_law_changed" sp := by
  obtain ⟨f, fd, F, gm⟩ := T.def_ 19 19 (d := d__law_changed) (by rfl) (by rfl) (by rfl)
  refine known_of (k := 0) F gm sc__law_changed (F.bindsN fun _ _ _ _ _ _ us hl => match us, hl with | [_, _], _ => rfl) (ps := ["one", "more"]) len (fun cdv A outer s H E hr => ⟨t__law_changed K , ?_, rd⟩)
  unfold t__law_changed
  exact (dss_cons (ds_asg (de_var (i := 0)) (dg_tup rfl (dgs_cons (dg_name 4 sc__law_changed.nd) (dgs_cons (dg_name 5 sc__law_changed.nd) dgs_nil))))
    (dss_cons (ds_asg (de_var (i := 0)) (dg_name 2 sc__law_changed.nd))
    (dss_cons (ds_for PassesOwn.never rfl (di_range1 (by rfl) (T.free 31 (by rfl)) (da_cons de_int da_nil)) (dg_name 3 sc__law_changed.nd) (dss_one (ds_asg (de_tup (da_cons (de_var (i := 2)) da_nil)) (dg_name 2 sc__law_changed.nd))))
    (dss_one (ds_ret (de_lst (da_cons (de_tup (da_cons (de_mul (de_var (i := 4)) (de_var (i := 1))) (da_cons (de_mul (de_var (i := 5)) (de_var (i := 1))) da_nil))) (da_cons (de_tup (da_cons (de_var (i := 4)) (da_cons de_int da_nil))) (da_cons (de_tup (da_cons (de_var (i := 4)) (da_cons (de_neg (de_var (i := 5))) da_nil))) (da_cons (de_tup (da_cons (de_neg (de_var (i := 4))) (da_cons (de_neg (de_var (i := 5))) da_nil))) (da_cons (de_tup (da_cons (de_var (i := 4)) da_nil)) (da_cons (de_tup (da_cons (de_var (i := 4)) (da_cons (de_var (i := 5)) (da_cons de_int da_nil)))) (da_cons (de_tup (da_cons (de_var (i := 4)) (da_cons (de_var (i := 5)) (da_cons (de_var (i := 5)) da_nil)))) (da_cons (de_tup da_nil) (da_cons (de_var (i := 4)) (da_cons de_non (da_cons de_bl (da_cons de_bl (da_cons de_str (da_cons de_str (da_cons (de_tup (da_cons (de_strOf (by rfl) (T.free 32 (by rfl)) (da_cons (de_var (i := 4)) da_nil)) (da_cons (de_var (i := 5)) da_nil))) (da_cons (de_tup (da_cons (de_var (i := 4)) (da_cons (de_strOf (by rfl) (T.free 32 (by rfl)) (da_cons (de_var (i := 5)) da_nil)) da_nil))) (da_cons (de_tup (da_cons de_non (da_cons (de_var (i := 5)) da_nil))) (da_cons (de_tup (da_cons (de_var (i := 4)) (da_cons de_non da_nil))) (da_cons (de_tup (da_cons de_bl (da_cons (de_var (i := 5)) da_nil))) (da_cons (de_tup (da_cons de_bl (da_cons de_int da_nil))) (da_cons (de_tup (da_cons (de_var (i := 4)) (da_cons de_bl da_nil))) (da_cons (de_tup (da_cons (de_var (i := 4)) (da_cons de_bl da_nil))) (da_cons (de_tup (da_cons (de_var (i := 0)) (da_cons (de_var (i := 5)) da_nil))) (da_cons (de_tup (da_cons (de_var (i := 4)) (da_cons (de_var (i := 0)) da_nil))) (da_cons (de_tup (da_cons (de_var (i := 0)) (da_cons (de_var (i := 0)) da_nil))) (da_cons (de_tup (da_cons (de_var (i := 0)) da_nil)) (da_cons (de_var (i := 2)) (da_cons (de_tup (da_cons (de_var (i := 2)) (da_cons de_int da_nil))) (da_cons (de_tup (da_cons de_int (da_cons (de_var (i := 2)) da_nil))) da_nil)))))))))))))))))))))))))))))))))))
theorem sc__law_jar : FnScope N__law_jar ["script", "salt"] (defScope s__law_jar) := ⟨rfl, rfl, rfl, by decide +kernel, rfl, by decide +kernel, by decide +kernel⟩
theorem der__law_jar {sp : DSp} (T : Tp K mg)  (len : ∀ ds s Q, sp ds s Q → ds.length = 2)
    (rd : ∀ ds s Q, sp ds s Q → t__law_jar K  (endsOf Q) (startD N__law_jar ds) s) : Known P w K mg base 1 "_law_jar" sp := by
  obtain ⟨f, fd, F, gm⟩ := T.def_ 20 20 (d := d__law_jar) (by rfl) (by rfl) (by rfl)
  refine known_of (k := 0) F gm sc__law_jar (F.bindsN fun _ _ _ _ _ _ us hl => match us, hl with | [_, _], _ => rfl) (ps := ["script", "salt"]) len (fun cdv A outer s H E hr => ⟨t__law_jar K , ?_, rd⟩)
  unfold t__law_jar
  exact (dss_cons (ds_setLc (i := 2) (own := [("cell", 3)]) rfl sc__law_jar.nd rfl rfl (L2.sw_true rfl rfl rfl (by decide +kernel)) (di_any (de_slice (de_var (i := 0)) do_none (do_some de_int))) (blkOk_by (N := N__law_jar) (sc := defScope s__law_jar) (by decide +kernel)) (fun _ _ _ _ _ => (dg_name 3 sc__law_jar.nd)) (fun _ _ _ _ _ => dts_nil) (fun _ _ _ _ _ => (de_intOf (by rfl) (T.free 28 (by rfl)) (da_cons (de_var (i := 3)) da_nil))))
    (dss_one (ds_ret (de_disp (dps_cons (de_var (i := 2)) (dps_cons de_int (dps_cons (de_add (de_var (i := 1)) (de_mul de_int (de_len (by rfl) (T.free 30 (by rfl)) (da_cons (de_var (i := 2)) da_nil)))) (dps_cons de_int dps_nil))))))))
theorem sc__law_mixed : FnScope N__law_mixed ["cell", "turn"] (defScope s__law_mixed) := ⟨rfl, rfl, rfl, by decide +kernel, rfl, by decide +kernel, by decide +kernel⟩
theorem der__law_mixed {sp : DSp} (T : Tp K mg)  (len : ∀ ds s Q, sp ds s Q → ds.length = 2)
    (rd : ∀ ds s Q, sp ds s Q → t__law_mixed K  (endsOf Q) (startD N__law_mixed ds) s) : Known P w K mg base 1 "_law_mixed" sp := by
  obtain ⟨f, fd, F, gm⟩ := T.def_ 21 21 (d := d__law_mixed) (by rfl) (by rfl) (by rfl)
  refine known_of (k := 0) F gm sc__law_mixed (F.bindsN fun _ _ _ _ _ _ us hl => match us, hl with | [_, _], _ => rfl) (ps := ["cell", "turn"]) len (fun cdv A outer s H E hr => ⟨t__law_mixed K , ?_, rd⟩)
  unfold t__law_mixed
  exact (dss_cons (ds_asg (de_mod (de_intOf (by rfl) (T.free 28 (by rfl)) (da_cons (de_add (de_add (de_add (de_mul (de_abs (by rfl) (T.free 25 (by rfl)) (da_cons (de_var (i := 0)) da_nil)) de_int) (de_if (dt_cmp cm_lt (de_var (i := 0)) de_int) de_int de_int)) (de_mul (de_var (i := 1)) de_int)) de_int) da_nil)) de_int) (dg_name 2 sc__law_mixed.nd))
    (dss_cons (ds_asg (de_mod (de_intOf (by rfl) (T.free 28 (by rfl)) (da_cons (de_add (de_add (de_mul (de_var (i := 2)) de_int) (de_mul (de_mul (de_var (i := 1)) (de_var (i := 1))) de_int)) de_int) da_nil)) de_int) (dg_name 3 sc__law_mixed.nd))
    (dss_one (ds_ret (de_mod (de_intOf (by rfl) (T.free 28 (by rfl)) (da_cons (de_add (de_add (de_mul (de_var (i := 3)) (de_var (i := 3))) (de_mul (de_var (i := 2)) de_int)) (de_var (i := 1))) da_nil)) de_int)))))
theorem sc__law_draw : FnScope N__law_draw ["jar", "many"] (defScope s__law_draw) := ⟨rfl, rfl, rfl, by decide +kernel, rfl, by decide +kernel, by decide +kernel⟩
theorem der__law_draw {sp sp__law_mixed : DSp} (T : Tp K mg) (G__law_mixed : Known P w K mg base 1 "_law_mixed" sp__law_mixed) (len : ∀ ds s Q, sp ds s Q → ds.length = 2)
    (rd : ∀ ds s Q, sp ds s Q → t__law_draw K sp__law_mixed (endsOf Q) (startD N__law_draw ds) s) : Known P w K mg base 2 "_law_draw" sp := by
  obtain ⟨f, fd, F, gm⟩ := T.def_ 22 22 (d := d__law_draw) (by rfl) (by rfl) (by rfl)
  refine known_of (k := 1) F gm sc__law_draw (F.bindsN fun _ _ _ _ _ _ us hl => match us, hl with | [_, _], _ => rfl) (ps := ["jar", "many"]) len (fun cdv A outer s H E hr => ⟨t__law_draw K sp__law_mixed, ?_, rd⟩)
  unfold t__law_draw
  exact (dss_cons (ds_dput (hu_of hr) (de_var (i := 0)) de_str (de_add (de_dget (hu_of hr) (de_var (i := 0)) de_str) de_int))
    (dss_cons (ds_asg (de_dget (hu_of hr) (de_var (i := 0)) de_str) (dg_name 2 sc__law_draw.nd))
    (dss_cons (ds_if (dt_cmp cm_ge (de_var (i := 2)) (de_var (i := 1))) (dss_cons (ds_dput (hu_of hr) (de_var (i := 0)) de_str (de_fdiv (de_var (i := 2)) (de_var (i := 1))))
    (dss_one (ds_ret (de_mod (de_intOf (by rfl) (T.free 28 (by rfl)) (da_cons (de_var (i := 2)) da_nil)) (de_var (i := 1)))))) dss_nil)
    (dss_cons (ds_asg (de_dget (hu_of hr) (de_var (i := 0)) de_str) (dg_name 3 sc__law_draw.nd))
    (dss_cons (ds_asg (de_if (dt_cmp cm_gt (de_len (by rfl) (T.free 30 (by rfl)) (da_cons (de_var (i := 3)) da_nil)) de_int) (de_ix (de_var (i := 3)) (de_mod (de_intOf (by rfl) (T.free 28 (by rfl)) (da_cons (de_dget (hu_of hr) (de_var (i := 0)) de_str) da_nil)) (de_len (by rfl) (T.free 30 (by rfl)) (da_cons (de_var (i := 3)) da_nil)))) de_int) (dg_name 4 sc__law_draw.nd))
    (dss_cons (ds_dput (hu_of hr) (de_var (i := 0)) de_str (de_add (de_dget (hu_of hr) (de_var (i := 0)) de_str) de_int))
    (dss_cons (ds_if (dt_w (dw_and (dt_cmp cm_ge (de_abs (by rfl) (T.free 25 (by rfl)) (da_cons (de_var (i := 4)) da_nil)) (de_pow de_int de_int)) (dw_and1 (dt_cmp cm_le (de_dget (hu_of hr) (de_var (i := 0)) de_str) (de_len (by rfl) (T.free 30 (by rfl)) (da_cons (de_var (i := 3)) da_nil)))))) (dss_cons (ds_dput (hu_of hr) (de_var (i := 0)) de_str (de_fdiv (de_abs (by rfl) (T.free 25 (by rfl)) (da_cons (de_var (i := 4)) da_nil)) (de_var (i := 1))))
    (dss_one (ds_ret (de_mod (de_intOf (by rfl) (T.free 28 (by rfl)) (da_cons (de_abs (by rfl) (T.free 25 (by rfl)) (da_cons (de_var (i := 4)) da_nil)) da_nil)) (de_var (i := 1)))))) dss_nil)
    (dss_one (ds_ret (de_mod (de_fdiv (de_intOf (by rfl) (T.free 28 (by rfl)) (da_cons (de_call G__law_mixed (hr.mono (by decide)) (by rfl) (da_cons (de_var (i := 4)) (da_cons (de_dget (hu_of hr) (de_var (i := 0)) de_str) da_nil))) da_nil)) de_int) (de_var (i := 1))))))))))))
theorem sc__law_of : FnScope N__law_of ["jar", "row"] (defScope s__law_of) := ⟨rfl, rfl, rfl, by decide +kernel, rfl, by decide +kernel, by decide +kernel⟩
theorem der__law_of {sp sp__law_draw : DSp} (T : Tp K mg) (G__law_draw : Known P w K mg base 2 "_law_draw" sp__law_draw) (len : ∀ ds s Q, sp ds s Q → ds.length = 2)
    (rd : ∀ ds s Q, sp ds s Q → t__law_of K sp__law_draw (endsOf Q) (startD N__law_of ds) s) : Known P w K mg base 3 "_law_of" sp := by
  obtain ⟨f, fd, F, gm⟩ := T.def_ 23 23 (d := d__law_of) (by rfl) (by rfl) (by rfl)
  refine known_of (k := 2) F gm sc__law_of (F.bindsN fun _ _ _ _ _ _ us hl => match us, hl with | [_, _], _ => rfl) (ps := ["jar", "row"]) len (fun cdv A outer s H E hr => ⟨t__law_of K sp__law_draw, ?_, rd⟩)
  unfold t__law_of
  exact (dss_one (ds_ret (de_ix (de_var (i := 1)) (de_call G__law_draw (hr.mono (by decide)) (by rfl) (da_cons (de_var (i := 0)) (da_cons (de_len (by rfl) (T.free 30 (by rfl)) (da_cons (de_var (i := 1)) da_nil)) da_nil))))))
theorem sc_law : FnScope N_law ["script"] (defScope s_law) := ⟨rfl, rfl, rfl, by decide +kernel, rfl, by decide +kernel, by decide +kernel⟩
theorem der_law {f : Addr} {fd : FuncData} {sp sp__law_jar sp__law_draw sp__law_changed sp__law_pair sp__law_lowest sp_is_fraction sp__law_is_form sp__law_two sp__law_is_common sp_fraction sp_whole : DSp} (T : Tp K mg) (G__law_jar : Known P w K mg base 1 "_law_jar" sp__law_jar) (G__law_draw : Known P w K mg base 2 "_law_draw" sp__law_draw) (G__law_changed : Known P w K mg base 1 "_law_changed" sp__law_changed) (G__law_pair : Known P w K mg base 4 "_law_pair" sp__law_pair) (G__law_lowest : Known P w K mg base 2 "_law_lowest" sp__law_lowest) (G_is_fraction : Known P w K mg base 2 "is_fraction" sp_is_fraction) (G__law_is_form : Known P w K mg base 2 "_law_is_form" sp__law_is_form) (G__law_two : Known P w K mg base 4 "_law_two" sp__law_two) (G__law_is_common : Known P w K mg base 3 "_law_is_common" sp__law_is_common) (G_fraction : Known P w K mg base 2 "fraction" sp_fraction) (G_whole : Known P w K mg base 1 "whole" sp_whole) (len : ∀ ds s Q, sp ds s Q → ds.length = 1)
    (rd : ∀ ds s Q, sp ds s Q → t_law K sp__law_jar sp__law_draw sp__law_changed sp__law_pair sp__law_lowest sp_is_fraction sp__law_is_form sp__law_two sp__law_is_common sp_fraction sp_whole (endsOf Q) (startD N_law ds) s) (F : FunD K d_law.name d_law.qual d_law.params d_law.body d_law.scope (d_law.dvs K) (d_law.kws K) f fd) : FnOk P w K mg base CX0 5 f fd ["script"] (upSp sp) := by
  refine fnOk_of (k := 4) F sc_law (ps := ["script"]) len (fun cdv A outer s H E hr => ⟨t_law K sp__law_jar sp__law_draw sp__law_changed sp__law_pair sp__law_lowest sp_is_fraction sp__law_is_form sp__law_two sp__law_is_common sp_fraction sp_whole, ?_, rd⟩)
  unfold t_law
  exact (dss_cons (ds_asg (de_call G__law_jar (hr.mono (by decide)) (by rfl) (da_cons (de_var (i := 0)) (da_cons de_int da_nil))) (dg_name 1 sc_law.nd))
    (dss_cons (ds_asg (de_lst da_nil) (dg_name 2 sc_law.nd))
    (dss_cons (ds_for PassesOwn.never rfl (di_range1 (by rfl) (T.free 31 (by rfl)) (da_cons (de_add de_int (de_call G__law_draw (hr.mono (by decide)) (by rfl) (da_cons (de_var (i := 1)) (da_cons de_int da_nil)))) da_nil)) (dg_name 3 sc_law.nd) (dss_one (ds_expr (de_append (de_var (i := 2)) (de_call G__law_pair (hr.mono (by decide)) (by rfl) (da_cons (de_var (i := 1)) (da_cons (de_var (i := 2)) da_nil)))))))
    (dss_cons (ds_asg (de_lst da_nil) (dg_name 4 sc_law.nd))
    (dss_cons (ds_for PassesOwn.never rfl (di_any (de_var (i := 2))) (dg_tup rfl (dgs_cons (dg_name 7 sc_law.nd) (dgs_cons (dg_name 8 sc_law.nd) dgs_nil))) (dss_cons (ds_if (dt_w (dw_or (dt_not (dt_truth (de_call G__law_is_form (hr.mono (by decide)) (by rfl) (da_cons (de_call G_fraction (hr.mono (by decide)) (by rfl) (da_cons (de_var (i := 7)) (da_cons (de_var (i := 8)) da_nil))) (da_cons (de_var (i := 7)) (da_cons (de_var (i := 8)) da_nil)))))) (dw_or1 (dt_not (dt_truth (de_call G__law_is_form (hr.mono (by decide)) (by rfl) (da_cons (de_call G_whole (hr.mono (by decide)) (by rfl) (da_cons (de_var (i := 7)) da_nil)) (da_cons (de_var (i := 7)) (da_cons de_int da_nil))))))))) (dss_one (ds_ret de_bl)) dss_nil)
    (dss_one (ds_expr (de_append (de_var (i := 4)) (de_call G__law_lowest (hr.mono (by decide)) (by rfl) (da_cons (de_var (i := 7)) (da_cons (de_var (i := 8)) da_nil))))))))
    (dss_cons (ds_for PassesOwn.never rfl (di_any (de_var (i := 4))) (dg_name 5 sc_law.nd) (dss_one (ds_for PassesOwn.never rfl (di_any (de_var (i := 4))) (dg_name 9 sc_law.nd) (dss_one (ds_if (dt_not (dt_truth (de_call G__law_two (hr.mono (by decide)) (by rfl) (da_cons (de_var (i := 5)) (da_cons (de_var (i := 9)) da_nil))))) (dss_one (ds_ret de_bl)) dss_nil)))))
    (dss_cons (ds_for PassesOwn.never rfl (di_range1 (by rfl) (T.free 31 (by rfl)) (da_cons (de_add (de_len (by rfl) (T.free 30 (by rfl)) (da_cons (de_var (i := 4)) da_nil)) de_int) da_nil)) (dg_name 3 sc_law.nd) (dss_one (ds_if (dt_w (dw_or (dt_not (dt_truth (de_call G__law_is_common (hr.mono (by decide)) (by rfl) (da_cons (de_slice (de_var (i := 4)) (do_some (de_var (i := 3))) do_none) da_nil)))) (dw_or1 (dt_not (dt_truth (de_call G__law_is_common (hr.mono (by decide)) (by rfl) (da_cons (de_add (de_slice (de_var (i := 4)) do_none (do_some (de_var (i := 3)))) (de_var (i := 4))) da_nil))))))) (dss_one (ds_ret de_bl)) dss_nil)))
    (dss_cons (ds_asg (de_add de_int (de_call G__law_draw (hr.mono (by decide)) (by rfl) (da_cons (de_var (i := 1)) (da_cons de_int da_nil)))) (dg_name 6 sc_law.nd))
    (dss_cons (ds_for PassesOwn.never rfl (di_any (de_add (de_var (i := 4)) (de_lst (da_cons (de_tup (da_cons de_int (da_cons de_int da_nil))) (da_cons (de_tup (da_cons de_int (da_cons de_int da_nil))) da_nil))))) (dg_name 5 sc_law.nd) (dss_cons (ds_if (dt_cmp cm_isnot (de_call G_is_fraction (hr.mono (by decide)) (by rfl) (da_cons (de_var (i := 5)) da_nil)) de_bl) (dss_one (ds_ret de_bl)) dss_nil)
    (dss_one (ds_for PassesOwn.never rfl (di_any (de_call G__law_changed (hr.mono (by decide)) (by rfl) (da_cons (de_var (i := 5)) (da_cons (de_var (i := 6)) da_nil)))) (dg_name 10 sc_law.nd) (dss_one (ds_if (dt_cmp cm_isnot (de_call G_is_fraction (hr.mono (by decide)) (by rfl) (da_cons (de_var (i := 10)) da_nil)) de_bl) (dss_one (ds_ret de_bl)) dss_nil))))))
    (dss_one (ds_ret (de_all rfl (by rfl) (T.free 26 (by rfl)) (da_cons (de_lc (own := [("top", 7), ("bottom", 8)]) rfl sc_law.nd (di_any (de_var (i := 2))) (blkOk_by (N := N_law) (sc := defScope s_law) (by decide +kernel)) (fun _ _ _ _ _ => (dg_tup rfl (dgs_cons (dg_name 7 sc_law.nd) (dgs_cons (dg_name 8 sc_law.nd) dgs_nil)))) (fun _ _ _ _ _ => dts_nil) (fun _ _ _ _ _ => (de_call G__law_is_form (hr.mono (by decide)) (by rfl) (da_cons (de_call G_fraction (hr.mono (by decide)) (by rfl) (da_cons (de_var (i := 7)) (da_cons (de_var (i := 8)) da_nil))) (da_cons (de_var (i := 7)) (da_cons (de_var (i := 8)) da_nil)))))) da_nil)))))))))))))
end Toy

set_option maxHeartbeats 4000000
namespace Toy
open PySem PySem.Spec L2 DL
local macro_rules | `(tactic| walk_at "len") => `(tactic| (intro ds s Q h; (repeat (obtain ⟨_, h⟩ := h)); subst_vars; rfl))
theorem law_ok {P : Program} {w : World} {K : PySem.W.Frag} {mg : Str → Option Value} {base : Heap} {f : Addr} {fd : FuncData} (T : Tp K mg) (F : FunD K d_law.name d_law.qual d_law.params d_law.body d_law.scope (d_law.dvs K) (d_law.kws K) f fd) :
    FnOk P w K mg base CX0 5 f fd ["script"] (upSp (sp_law K)) := by
  have g_is_tuple : Known P w K mg base _ _ _ := der_is_tuple T (by walk_at "len") (rd_is_tuple K)
  have g_greatest_part : Known P w K mg base _ _ _ := der_greatest_part T (by walk_at "len") (rd_greatest_part K)
  have g_fraction : Known P w K mg base _ _ _ := der_fraction T g_greatest_part (by walk_at "len") (rd_fraction K)
  have g_whole : Known P w K mg base _ _ _ := der_whole T (by walk_at "len") (rd_whole K)
  have g_is_fraction : Known P w K mg base _ _ _ := der_is_fraction T g_is_tuple g_greatest_part (by walk_at "len") (rd_is_fraction K)
  have g_plus : Known P w K mg base _ _ _ := der_plus T g_fraction (by walk_at "len") (rd_plus K)
  have g_minus : Known P w K mg base _ _ _ := der_minus T g_fraction (by walk_at "len") (rd_minus K)
  have g_times : Known P w K mg base _ _ _ := der_times T g_fraction (by walk_at "len") (rd_times K)
  have g_per : Known P w K mg base _ _ _ := der_per T g_fraction (by walk_at "len") (rd_per K)
  have g_below : Known P w K mg base _ _ _ := der_below T (by walk_at "len") (rd_below K)
  have g_common : Known P w K mg base _ _ _ := der_common T g_greatest_part (by walk_at "len") (rd_common K)
  have g__law_is_int : Known P w K mg base _ _ _ := der__law_is_int T (by walk_at "len") (rd__law_is_int K)
  have g__law_gcd : Known P w K mg base _ _ _ := der__law_gcd T (by walk_at "len") (rd__law_gcd K)
  have g__law_lowest : Known P w K mg base _ _ _ := der__law_lowest T g__law_gcd (by walk_at "len") (rd__law_lowest K)
  have g__law_is_form : Known P w K mg base _ _ _ := der__law_is_form T g__law_is_int g__law_gcd (by walk_at "len") (rd__law_is_form K)
  have g__law_mixed : Known P w K mg base _ _ _ := der__law_mixed T (by walk_at "len") (rd_mixed K)
  have g__law_draw : Known P w K mg base _ _ _ := der__law_draw T g__law_mixed (by walk_at "len") (rd_draw K)
  have g__law_of : Known P w K mg base _ _ _ := der__law_of T g__law_draw (by walk_at "len") (rd_of K)
  have g__law_jar : Known P w K mg base _ _ _ := der__law_jar T (by walk_at "len") (rd_jar K)
  have g__law_size : Known P w K mg base _ _ _ := der__law_size T g__law_draw (by walk_at "len") (rd__law_size K)
  have g__law_pair : Known P w K mg base _ _ _ := der__law_pair T g__law_draw g__law_of g__law_size (by walk_at "len") (rd__law_pair K)
  have g__law_two : Known P w K mg base _ _ _ := der__law_two T g_below g__law_is_form g_plus g_minus g_times g_per (by walk_at "len") (rd__law_two K)
  have g__law_is_common : Known P w K mg base _ _ _ := der__law_is_common T g_common g__law_is_int g__law_gcd (by walk_at "len") (rd__law_is_common K)
  have g__law_changed : Known P w K mg base _ _ _ := der__law_changed T (by walk_at "len") (rd__law_changed K)
  exact der_law T g__law_jar g__law_draw g__law_changed g__law_pair g__law_lowest g_is_fraction g__law_is_form g__law_two g__law_is_common g_fraction g_whole (by walk_at "len") (rd_law K) F
/-! ### the head -/
abbrev R : PySem.W.OpenRow := PySem.W.OpenLaw.row PySem.Challenge.rw_paidnomore_k38_fractions
abbrev hk : PySem.W.Hook := He.hookD 2 fa fn
def ob (s : PySem.W.SharedT) : He.AlD := He.obsDG 2 fa fn (HandSHeadRun.getT s)
theorem ob_eq (s : PySem.W.SharedT) : ob s = hk.obs s.abs := He.obsDG_eq (HandSHeadRun.getT_eq s)
theorem run (w : World) : HandSHeadRun.RunEq R (PySem.W.view R.prog [27]) hk ob 4000 names w := by
  intro os
  kernel_rfl
theorem facts {P : Program} {w : World} {K : PySem.W.Frag} {h : Heap} {mg : Str → Option Value} {f : Addr} (X : K.In h) (G : h.Ns mainGlobals mg) (hfa : mg ("law" : Str) = some (.ref f)) (c : He.SaysD fa fn K) :
    ∃ fd : FuncData, (∀ (s : Shared) (v : Value), BindsTo s fd ⟨[v], []⟩ [("script", v)]) ∧ ∀ base : Heap, K.In base → base.Ns mainGlobals mg → FnOk P w K mg base CX0 5 f fd ["script"] (upSp (sp_law K)) := by
  have T : Tp K mg := ⟨h, X, G, c⟩
  obtain ⟨f', fd, F, gm⟩ := T.def_ 24 24 (d := d_law) (by rfl) (by rfl) (by rfl)
  have e := hfa.symm.trans gm
  cases e
  have b := FunD.bindsA (ps := ["script"]) F fun _ _ _ _ _ _ us hl => match us, hl with | [_], _ => rfl
  exact ⟨fd, fun s v => b s [v] rfl, fun base _ _ => law_ok T F⟩
end Toy
open PySem PySem.W PySem.Calls PyProof.Rows
set_option maxHeartbeats 0 in
theorem PySem.Challenge.cw_paidnomore_k38_fractions_holds : PySem.Challenge.rw_paidnomore_k38_fractions.Holds := by
  w_on; o_law
  refine HandSHeadRun.head_any (r := OpenLaw.row PySem.Challenge.rw_paidnomore_k38_fractions) (q := view (OpenLaw.row PySem.Challenge.rw_paidnomore_k38_fractions).prog [27]) (H := Toy.hk) (ob := Toy.ob) (M := 4000) (loose := Toy.names) (d := HandSHeadRun.topDef (OpenLaw.row PySem.Challenge.rw_paidnomore_k38_fractions).prog 27) (kwd := []) Toy.ob_eq
    (by kernel_rfl) (fun s => by kernel_rfl) Toy.run (by kernel_rfl) (by kernel_rfl) (by kernel_rfl) (by rfl) (by first | assumption | decide +kernel) (by decide +kernel) ⟨rfl, rfl, rfl, rfl, rfl, by decide +kernel⟩ ?hw ?hc
  case hw => w_witness2
  case hc =>
    refine L2.walk_ofE (l := PySem.Challenge.rw_paidnomore_k38_fractions) (n := 63) (k := 5) (x := "script") (CX := L2.CX0) rfl (by decide) (by kernel_rfl) ⟨rfl, by decide, by decide⟩ ?F (fun _ _ _ _ z => z)
    intro w mg fa h Y G hmg0
    obtain ⟨K, KX, c⟩ := Y
    have hmg : mg ("law" : PySem.Str) = some (.ref fa) := by
      have e : (HandSHeadRun.topDef (OpenLaw.row PySem.Challenge.rw_paidnomore_k38_fractions).prog 27).name = ("law" : PySem.Str) := by kernel_rfl
      rw [← e]
      exact hmg0
    obtain ⟨fd, hb, hF⟩ := Toy.facts (P := (PySem.Challenge.rw_paidnomore_k38_fractions).prog) (w := w) KX G hmg c
    exact ⟨K, fd, DL.upSp (Toy.sp_law K), KX, hb, fun H a ns hl hO hS => DL.entry hO hS fun s hs => ⟨a, ns, rfl, hs, hl, fun _ => rfl⟩, hF⟩
#print axioms PySem.Challenge.cw_paidnomore_k38_fractions_holds
