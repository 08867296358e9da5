import PyProof.Rows.All
import Wide.All
import OpenK.AllK
import Wide.FinOn
import PyProof.ReprRoads
import HandS.ForMost
import HandS.ForExc
import HandS.Wide
import HandS.WideBits
import HandS.CallSlots
import HandS.RaiseMore
import HandS.Small
import HandS.FStr
import PyProof.StrLawsRepr
import PySem.Challenge.RW_loafshares_k11_fractions_told
set_option Elab.async false
set_option linter.all false
set_option maxRecDepth 100000
set_option maxHeartbeats 8000000
/-! L3: the hand layer lifted to data: tuples are values, lists, dicts and instances stand in a store. -/
namespace L3
open PySem PySem.Spec PyProof.Rows L2

/-! ### data -/
inductive D where
  | non | bl (b : Bool) | int (i : Int) | str (x : Str) | ref (a : Addr) | ty (n : String) | fn (k : Nat) | cls (k : Nat)
  | tup (xs : List D) | scr (xs : List D)

/-- the ground: the written part, where the defs and the classes stand -/
structure Gd where
  K : PySem.W.Frag
  fa : Nat → Addr
  ca : Nat → Addr

/-- a list that nobody writes -/
def FzL (K : PySem.W.Frag) (H : Hp) (a : Addr) (xs : List V) : Prop :=
  (∃ o, H a = some (.frz o (.lst xs))) ∨
    ∃ (o : Obj) (its : Array Value) (n : Nat), K.lookup a = some o ∧ o.cls = .type "list" ∧ o.dict = none ∧ o.data = .seq its n ∧ its.size ≤ sizeLine ∧ Vals xs its.toList
theorem FzL.seq {K : PySem.W.Frag} {H : Hp} {a : Addr} {xs : List V} (h : FzL K H a xs) : SqL K H a xs := by
  rcases h with h | h
  · exact .inl (.inr h)
  · exact .inr h

mutual
def Rp (G : Gd) (H : Hp) : D → V → Prop
  | .non, v => v = .non
  | .bl b, v => v = .bl b
  | .int i, v => v = .int i
  | .str x, v => v = .str x
  | .ref a, v => v = .ref a
  | .ty n, v => v = .ty n
  | .fn k, v => v = .ref (G.fa k)
  | .cls k, v => v = .ref (G.ca k)
  | .tup ds, v => ∃ a xs, v = .ref a ∧ SqT G.K H a xs ∧ Rps G H ds xs
  | .scr ds, v => ∃ a xs, v = .ref a ∧ FzL G.K H a xs ∧ Rps G H ds xs
def Rps (G : Gd) (H : Hp) : List D → List V → Prop
  | [], vs => vs = []
  | d :: ds, vs => ∃ v r, vs = v :: r ∧ Rp G H d v ∧ Rps G H ds r
end

/-- what never changes stays -/
structure TK (G : Gd) (H H' : Hp) : Prop where
  t : ∀ a xs, SqT G.K H a xs → SqT G.K H' a xs
  l : ∀ a xs, FzL G.K H a xs → FzL G.K H' a xs
theorem TK.refl (G : Gd) (H : Hp) : TK G H H := ⟨fun _ _ h => h, fun _ _ h => h⟩
theorem TK.trans {G : Gd} {H H1 H2 : Hp} (a : TK G H H1) (b : TK G H1 H2) : TK G H H2 := ⟨fun c xs h => b.t c xs (a.t c xs h), fun c xs h => b.l c xs (a.l c xs h)⟩
/-- an object that may be written -/
def Soft : HO → Prop
  | .tup _ => False
  | .frz _ _ => False
  | _ => True
theorem TK.upd {G : Gd} {H : Hp} {p : Addr} {u : HO} (h : ∀ o, H p = some o → Soft o) : TK G H (upd H p u) := by
  constructor
  · intro a xs q
    rcases q with (q | ⟨o, q⟩) | q
    · by_cases e : a = p
      · subst e; exact (h _ q).elim
      · exact .inl (.inl (by rw [upd_ne e]; exact q))
    · by_cases e : a = p
      · subst e; exact (h _ q).elim
      · exact .inl (.inr ⟨o, by rw [upd_ne e]; exact q⟩)
    · exact .inr q
  · intro a xs q
    rcases q with ⟨o, q⟩ | q
    · by_cases e : a = p
      · subst e; exact (h _ q).elim
      · exact .inl ⟨o, by rw [upd_ne e]; exact q⟩
    · exact .inr q
theorem TK.new {G : Gd} {H : Hp} {p : Addr} {u : HO} (h : H p = none) : TK G H (L2.upd H p u) := TK.upd fun o e => by rw [h] at e; cases e

mutual
theorem Rp.tk {G : Gd} {H H' : Hp} (k : TK G H H') : ∀ (d : D) (v : V), Rp G H d v → Rp G H' d v
  | .non, _, h => by unfold Rp at h ⊢; exact h
  | .bl b, _, h => by unfold Rp at h ⊢; exact h
  | .int i, _, h => by unfold Rp at h ⊢; exact h
  | .str x, _, h => by unfold Rp at h ⊢; exact h
  | .ref a, _, h => by unfold Rp at h ⊢; exact h
  | .ty n, _, h => by unfold Rp at h ⊢; exact h
  | .fn n, _, h => by unfold Rp at h ⊢; exact h
  | .cls n, _, h => by unfold Rp at h ⊢; exact h
  | .tup ds, v, h => by
    unfold Rp at h ⊢
    obtain ⟨a, xs, e, q, r⟩ := h
    exact ⟨a, xs, e, k.t a xs q, Rps.tk k ds xs r⟩
  | .scr ds, v, h => by
    unfold Rp at h ⊢
    obtain ⟨a, xs, e, q, r⟩ := h
    exact ⟨a, xs, e, k.l a xs q, Rps.tk k ds xs r⟩
theorem Rps.tk {G : Gd} {H H' : Hp} (k : TK G H H') : ∀ (ds : List D) (vs : List V), Rps G H ds vs → Rps G H' ds vs
  | [], _, h => by unfold Rps at h ⊢; exact h
  | d :: ds, vs, h => by
    unfold Rps at h ⊢
    obtain ⟨v, r, e, q, t⟩ := h
    exact ⟨v, r, e, Rp.tk k d v q, Rps.tk k ds r t⟩
end
section
variable {G : Gd} {H : Hp}
theorem Rp.non {v : V} : Rp G H .non v ↔ v = .non := by unfold Rp; exact Iff.rfl
theorem Rp.bl {b : Bool} {v : V} : Rp G H (.bl b) v ↔ v = .bl b := by unfold Rp; exact Iff.rfl
theorem Rp.int {i : Int} {v : V} : Rp G H (.int i) v ↔ v = .int i := by unfold Rp; exact Iff.rfl
theorem Rp.str {x : Str} {v : V} : Rp G H (.str x) v ↔ v = .str x := by unfold Rp; exact Iff.rfl
theorem Rp.ref {a : Addr} {v : V} : Rp G H (.ref a) v ↔ v = .ref a := by unfold Rp; exact Iff.rfl
theorem Rp.ty {n : String} {v : V} : Rp G H (.ty n) v ↔ v = .ty n := by unfold Rp; exact Iff.rfl
theorem Rp.fn {k : Nat} {v : V} : Rp G H (.fn k) v ↔ v = .ref (G.fa k) := by unfold Rp; exact Iff.rfl
theorem Rp.cls {k : Nat} {v : V} : Rp G H (.cls k) v ↔ v = .ref (G.ca k) := by unfold Rp; exact Iff.rfl
theorem Rp.tup {ds : List D} {v : V} : Rp G H (.tup ds) v ↔ ∃ a xs, v = .ref a ∧ SqT G.K H a xs ∧ Rps G H ds xs := by
  constructor
  · intro h; unfold Rp at h; exact h
  · intro h; unfold Rp; exact h
theorem Rp.scr {ds : List D} {v : V} : Rp G H (.scr ds) v ↔ ∃ a xs, v = .ref a ∧ FzL G.K H a xs ∧ Rps G H ds xs := by
  constructor
  · intro h; unfold Rp at h; exact h
  · intro h; unfold Rp; exact h
theorem Rps.nil {vs : List V} : Rps G H [] vs ↔ vs = [] := by unfold Rps; exact Iff.rfl
theorem Rps.cons {d : D} {ds : List D} {vs : List V} : Rps G H (d :: ds) vs ↔ ∃ v r, vs = v :: r ∧ Rp G H d v ∧ Rps G H ds r := by
  constructor
  · intro h; unfold Rps at h; exact h
  · intro h; unfold Rps; exact h
theorem Rps.len : ∀ {ds : List D} {vs : List V}, Rps G H ds vs → ds.length = vs.length
  | [], _, h => by rw [Rps.nil.mp h] <;> rfl
  | d :: ds, _, h => by
    obtain ⟨v, r, rfl, _, t⟩ := Rps.cons.mp h
    simp [Rps.len t]
theorem Rps.get : ∀ {ds : List D} {vs : List V} {i : Nat} {d : D}, Rps G H ds vs → ds[i]? = some d → ∃ v, vs[i]? = some v ∧ Rp G H d v
  | [], _, _, _, _, e => by simp at e
  | d :: ds, _, 0, d', h, e => by
    obtain ⟨v, r, rfl, q, t⟩ := Rps.cons.mp h
    simp at e; subst e
    exact ⟨v, rfl, q⟩
  | d :: ds, _, i + 1, d', h, e => by
    obtain ⟨v, r, rfl, q, t⟩ := Rps.cons.mp h
    obtain ⟨w, e1, e2⟩ := Rps.get (i := i) t (by simpa using e)
    exact ⟨w, by simpa using e1, e2⟩
theorem Rps.one {d : D} {vs : List V} (h : Rps G H [d] vs) : ∃ v, vs = [v] ∧ Rp G H d v := by
  obtain ⟨v, r, e, q, t⟩ := Rps.cons.mp h
  rw [Rps.nil.mp t] at e
  exact ⟨v, e, q⟩
theorem Rps.two {d d' : D} {vs : List V} (h : Rps G H [d, d'] vs) : ∃ v v', vs = [v, v'] ∧ Rp G H d v ∧ Rp G H d' v' := by
  obtain ⟨v, r, e, q, t⟩ := Rps.cons.mp h
  obtain ⟨v', rfl, q'⟩ := Rps.one t
  exact ⟨v, v', e, q, q'⟩
theorem Rps.mk0 : Rps G H [] [] := Rps.nil.mpr rfl
theorem Rps.mk {d : D} {ds : List D} {v : V} {vs : List V} (h : Rp G H d v) (t : Rps G H ds vs) : Rps G H (d :: ds) (v :: vs) := Rps.cons.mpr ⟨v, vs, rfl, h, t⟩
theorem Rps.append : ∀ {ds es : List D} {vs ws : List V}, Rps G H ds vs → Rps G H es ws → Rps G H (ds ++ es) (vs ++ ws)
  | [], _, _, _, h, t => by rw [Rps.nil.mp h]; exact t
  | d :: ds, es, _, ws, h, t => by
    obtain ⟨v, r, rfl, q, s⟩ := Rps.cons.mp h
    exact Rps.mk q (Rps.append s t)
theorem Rps.set {x : D} {y : V} (hx : Rp G H x y) : ∀ {ds : List D} {vs : List V} (i : Nat), Rps G H ds vs → Rps G H (ds.set i x) (vs.set i y)
  | [], _, _, h => by rw [Rps.nil.mp h]; exact Rps.mk0
  | d :: ds, _, 0, h => by
    obtain ⟨v, r, rfl, q, s⟩ := Rps.cons.mp h
    exact Rps.mk hx s
  | d :: ds, _, i + 1, h => by
    obtain ⟨v, r, rfl, q, s⟩ := Rps.cons.mp h
    exact Rps.mk q (Rps.set hx i s)
theorem Rps.take : ∀ {ds : List D} {vs : List V} (n : Nat), Rps G H ds vs → Rps G H (ds.take n) (vs.take n)
  | _, _, 0, _ => by rw [List.take_zero, List.take_zero]; exact Rps.mk0
  | [], _, n + 1, h => by rw [Rps.nil.mp h]; exact Rps.mk0
  | d :: ds, _, n + 1, h => by
    obtain ⟨v, r, rfl, q, s⟩ := Rps.cons.mp h
    exact Rps.mk q (Rps.take n s)
theorem Rps.drop : ∀ {ds : List D} {vs : List V} (n : Nat), Rps G H ds vs → Rps G H (ds.drop n) (vs.drop n)
  | _, _, 0, h => h
  | [], _, n + 1, h => by rw [Rps.nil.mp h]; exact Rps.mk0
  | d :: ds, _, n + 1, h => by
    obtain ⟨v, r, rfl, q, s⟩ := Rps.cons.mp h
    exact Rps.drop n s
end

/-! ### the store -/
inductive O where
  | lst (xs : List D)
abbrev Sto := Addr → Option O
def Sto.set (S : Sto) (p : Addr) (o : O) : Sto := fun q => if q = p then some o else S q
theorem Sto.same {S : Sto} {p : Addr} {o : O} : S.set p o p = some o := by unfold Sto.set; rw [if_pos rfl]
theorem Sto.ne {S : Sto} {p q : Addr} {o : O} (h : q ≠ p) : S.set p o q = S q := by unfold Sto.set; rw [if_neg h]
theorem Sto.kept {S : Sto} {p q : Addr} {o u : O} (h : S q = some u) (n : S p = none) : S.set p o q = some u := by
  rw [Sto.ne]
  · exact h
  · intro e; subst e; rw [h] at n; cases n

def RpO (G : Gd) (H : Hp) (a : Addr) : O → Prop
  | .lst ds => ∃ xs, H a = some (.lst xs) ∧ Rps G H ds xs
def RS (G : Gd) (S : Sto) (H : Hp) : Prop := ∀ a o, S a = some o → RpO G H a o
theorem RpO.kept {G : Gd} {H H' : Hp} {a : Addr} {o : O} (k : TK G H H') (e : H' a = H a) (h : RpO G H a o) : RpO G H' a o := by
  cases o with
  | lst ds =>
    obtain ⟨xs, e1, r⟩ := h
    exact ⟨xs, e.trans e1, Rps.tk k _ _ r⟩
theorem RpO.soft {G : Gd} {H : Hp} {a : Addr} {o : O} (h : RpO G H a o) : ∃ u, H a = some u ∧ Soft u := by
  cases o with
  | lst ds => obtain ⟨xs, e, _⟩ := h; exact ⟨_, e, trivial⟩
theorem RS.none {G : Gd} {S : Sto} {H : Hp} {p : Addr} (R : RS G S H) (h : H p = none) : S p = none := by
  cases e : S p with
  | none => rfl
  | some o =>
    obtain ⟨u, q, _⟩ := (R p o e).soft
    rw [h] at q; cases q
/-- the object at p is now o -/
theorem RS.put {G : Gd} {S : Sto} {H : Hp} {p : Addr} {o : O} {u : HO} (R : RS G S H) (k : TK G H (upd H p u)) (h : RpO G (upd H p u) p o) : RS G (S.set p o) (upd H p u) := by
  intro a o' e
  by_cases ha : a = p
  · subst ha
    rw [Sto.same] at e; cases e
    exact h
  · rw [Sto.ne ha] at e
    exact (R a o' e).kept k (upd_ne ha)
/-- a thing is laid that the store does not tell of -/
theorem RS.lay {G : Gd} {S : Sto} {H : Hp} {p : Addr} {u : HO} (R : RS G S H) (n : H p = Option.none) : RS G S (upd H p u) := by
  intro a o e
  have ha : a ≠ p := by
    intro z; subst z
    rw [R.none n] at e; cases e
  exact (R a o e).kept (TK.new n) (upd_ne ha)
theorem RS.newList {G : Gd} {S : Sto} {H : Hp} {p : Addr} {ds : List D} {xs : List V} (R : RS G S H) (n : H p = Option.none) (r : Rps G H ds xs) : RS G (S.set p (.lst ds)) (upd H p (.lst xs)) :=
  R.put (TK.new n) ⟨xs, upd_same, Rps.tk (TK.new n) _ _ r⟩
theorem RS.setList {G : Gd} {S : Sto} {H : Hp} {p : Addr} {ds : List D} {xs ys : List V} (R : RS G S H) (n : H p = some (.lst ys)) (r : Rps G H ds xs) : TK G H (upd H p (.lst xs)) ∧ RS G (S.set p (.lst ds)) (upd H p (.lst xs)) := by
  have k : TK G H (upd H p (.lst xs)) := TK.upd fun o e => by rw [n] at e; cases e; trivial
  exact ⟨k, R.put k ⟨xs, upd_same, Rps.tk k _ _ r⟩⟩

/-! ### the frame -/
abbrev Fr := List (Option D)
structure RF (G : Gd) (H : Hp) (fr : Fr) (σ : L2.St) : Prop where
  len : fr.length = σ.length
  at_ : ∀ (i : Nat) (d : D), fr[i]? = some (some d) → ∃ v, σ[i]? = some (some v) ∧ Rp G H d v
theorem RF.tk {G : Gd} {H H' : Hp} {fr : Fr} {σ : L2.St} (k : TK G H H') (R : RF G H fr σ) : RF G H' fr σ :=
  ⟨R.len, fun i d e => by obtain ⟨v, h1, h2⟩ := R.at_ i d e; exact ⟨v, h1, Rp.tk k d v h2⟩⟩
theorem RF.set {G : Gd} {H : Hp} {fr : Fr} {σ : L2.St} {d : D} {v : V} (R : RF G H fr σ) (i : Nat) (h : Rp G H d v) : RF G H (fr.set i (some d)) (σ.set i (some v)) := by
  refine ⟨by simp [R.len], fun j d' e => ?_⟩
  by_cases hj : i = j
  · subst hj
    by_cases hl : i < fr.length
    · rw [List.getElem?_set_self hl] at e
      cases e
      exact ⟨v, by rw [List.getElem?_set_self (by rw [← R.len]; exact hl)], h⟩
    · rw [List.getElem?_eq_none (by simpa using hl)] at e; cases e
  · rw [List.getElem?_set_ne hj] at e
    obtain ⟨w, h1, h2⟩ := R.at_ j d' e
    exact ⟨w, by rw [List.getElem?_set_ne hj]; exact h1, h2⟩
def wipeD (fr : Fr) : List Nat → Fr
  | [] => fr
  | v :: vs => (wipeD fr vs).set v none
theorem RF.wipe {G : Gd} {H : Hp} {fr : Fr} {σ : L2.St} (R : RF G H fr σ) : ∀ vs : List Nat, RF G H (wipeD fr vs) (L2.wipe σ vs)
  | [] => R
  | v :: vs => by
    have ih := R.wipe vs
    unfold wipeD L2.wipe
    refine ⟨by simp [ih.len], fun j d e => ?_⟩
    by_cases hj : v = j
    · subst hj
      by_cases hl : v < (wipeD fr vs).length
      · rw [List.getElem?_set_self hl] at e; cases e
      · rw [List.getElem?_eq_none (by simpa using hl)] at e; cases e
    · rw [List.getElem?_set_ne hj] at e
      obtain ⟨w, h1, h2⟩ := ih.at_ j d e
      exact ⟨w, by rw [List.getElem?_set_ne hj]; exact h1, h2⟩

/-! ### exceptions -/
structure Exc where
  cls : D
  fs : List (Str × D)
def RFs (G : Gd) (H : Hp) : List (Str × D) → List (Str × V) → Prop
  | [], vs => vs = []
  | (x, d) :: r, vs => ∃ v t, vs = (x, v) :: t ∧ Rp G H d v ∧ RFs G H r t
theorem RFs.tk {G : Gd} {H H' : Hp} (k : TK G H H') : ∀ (fs : List (Str × D)) (vs : List (Str × V)), RFs G H fs vs → RFs G H' fs vs
  | [], _, h => h
  | (x, d) :: r, _, h => by
    obtain ⟨v, t, e, q, s⟩ := h
    exact ⟨v, t, e, Rp.tk k d v q, RFs.tk k r t s⟩
def clsV (G : Gd) : D → Value
  | .cls k => .ref (G.ca k)
  | .ty n => .type n
  | _ => .none
/-- an exception as it lies: its class, its own dict -/
structure RX (G : Gd) (H : Hp) (x : Exc) (cls : Value) (d : Option Addr) : Prop where
  cls : cls = clsV G x.cls
  fs : (x.fs = [] ∧ d = none) ∨ ∃ a vs, d = some a ∧ H a = some (.xd vs) ∧ RFs G H x.fs vs

/-! ### what is wanted behind -/
abbrev PoE := D → Sto → Prop
abbrev PoX := Exc → Sto → Prop
abbrev PoL := List D → Sto → Prop
structure Po where
  nx : Fr → Sto → Prop
  rt : D → Sto → Prop
  bk : Fr → Sto → Prop := fun _ _ => False
  ct : Fr → Sto → Prop := fun _ _ => False
  xc : Exc → Fr → Sto → Prop
abbrev WEx := Fr → Sto → PoE → PoX → Prop
abbrev WLs := Fr → Sto → PoL → PoX → Prop
abbrev WSt := Fr → Sto → Po → Prop

/-- from the data's end to the values' end -/
def FE (G : Gd) (H : Hp) (Qd : PoE) (Q : VK) : Prop := ∀ d S v H', TK G H H' → RS G S H' → Rp G H' d v → Qd d S → Q v H'
def FA (G : Gd) (H : Hp) (Qd : PoL) (Q : List V → Hp → Prop) : Prop := ∀ ds S vs H', TK G H H' → RS G S H' → Rps G H' ds vs → Qd ds S → Q vs H'
def FX (G : Gd) (H : Hp) (Ed : PoX) (E : XK) : Prop := ∀ x S cls d H', TK G H H' → RS G S H' → RX G H' x cls d → Ed x S → E cls d H'
theorem FE.tk {G : Gd} {H H1 : Hp} {Qd : PoE} {Q : VK} (k : TK G H H1) (f : FE G H Qd Q) : FE G H1 Qd Q := fun d S v H' k' => f d S v H' (k.trans k')
theorem FA.tk {G : Gd} {H H1 : Hp} {Qd : PoL} {Q : List V → Hp → Prop} (k : TK G H H1) (f : FA G H Qd Q) : FA G H1 Qd Q := fun d S v H' k' => f d S v H' (k.trans k')
theorem FX.tk {G : Gd} {H H1 : Hp} {Ed : PoX} {E : XK} (k : TK G H H1) (f : FX G H Ed E) : FX G H1 Ed E := fun x S c d H' k' => f x S c d H' (k.trans k')

/-- an expression's reading, lifted; W: the wish of the place -/
def LE (G : Gd) (W : WX) (w : WEx) : TE := fun σ H Q => ∃ fr S Qd Ed, RF G H fr σ ∧ RS G S H ∧ w fr S Qd Ed ∧ FE G H Qd Q ∧ FX G H Ed fun c d H' => W c d σ H'
def LA (G : Gd) (W : WX) (w : WLs) : TA := fun σ H Q => ∃ fr S Qd Ed, RF G H fr σ ∧ RS G S H ∧ w fr S Qd Ed ∧ FA G H Qd Q ∧ FX G H Ed fun c d H' => W c d σ H'
def LT (G : Gd) (W : WX) (w : WEx) : TT := fun σ H Q => ∃ fr S Qd Ed, RF G H fr σ ∧ RS G S H ∧ w fr S Qd Ed ∧ (∀ d S' H', TK G H H' → RS G S' H' → Qd d S' → ∃ b, d = .bl b ∧ Q b H') ∧ FX G H Ed fun c d H' => W c d σ H'
/-- a two-place, a one-place operation, a call by values -/
abbrev W2 := D → D → Sto → PoE → Prop
abbrev W1 := D → Sto → PoE → Prop
abbrev WB := List D → Sto → PoE → Prop
def L2o (G : Gd) (w : W2) : R2 := fun x y H Q => ∃ a b S Qd, RS G S H ∧ Rp G H a x ∧ Rp G H b y ∧ w a b S Qd ∧ FE G H Qd Q
def L1o (G : Gd) (w : W1) : V → Hp → VK → Prop := fun x H Q => ∃ a S Qd, RS G S H ∧ Rp G H a x ∧ w a S Qd ∧ FE G H Qd Q
def LBo (G : Gd) (w : WB) : List V → Hp → VK → Prop := fun xs H Q => ∃ as S Qd, RS G S H ∧ Rps G H as xs ∧ w as S Qd ∧ FE G H Qd Q
structure FS (G : Gd) (H : Hp) (P : Po) (Dn : Ends) (W : WX) : Prop where
  nx : ∀ fr S σ H', TK G H H' → RF G H' fr σ → RS G S H' → P.nx fr S → Dn.nx σ H'
  rt : FE G H P.rt Dn.rt
  bk : ∀ fr S σ H', TK G H H' → RF G H' fr σ → RS G S H' → P.bk fr S → Dn.bk σ H'
  ct : ∀ fr S σ H', TK G H H' → RF G H' fr σ → RS G S H' → P.ct fr S → Dn.ct σ H'
  xc : ∀ x fr S c d σ H', TK G H H' → RF G H' fr σ → RS G S H' → RX G H' x c d → P.xc x fr S → W c d σ H'
theorem FS.tk {G : Gd} {H H1 : Hp} {P : Po} {Dn : Ends} {W : WX} (k : TK G H H1) (f : FS G H P Dn W) : FS G H1 P Dn W :=
  ⟨fun fr S σ H' k' => f.nx fr S σ H' (k.trans k'), f.rt.tk k, fun fr S σ H' k' => f.bk fr S σ H' (k.trans k'), fun fr S σ H' k' => f.ct fr S σ H' (k.trans k'), fun x fr S c d σ H' k' => f.xc x fr S c d σ H' (k.trans k')⟩
def LS (G : Gd) (W : WX) (w : WSt) : TS := fun Dn σ H => ∃ fr S P, RF G H fr σ ∧ RS G S H ∧ w fr S P ∧ FS G H P Dn W
/-- the exceptions of an expression in a statement -/
theorem FS.fx {G : Gd} {H : Hp} {P : Po} {Dn : Ends} {W : WX} (f : FS G H P Dn W) {fr : Fr} {σ : L2.St} (R : RF G H fr σ) : FX G H (fun x S => P.xc x fr S) fun c d H' => W c d σ H' :=
  fun x S c d H' k rs rx h => f.xc x fr S c d σ H' k (R.tk k) rs rx h
end L3

/-! the small language, and what it wants -/
namespace L3
open PySem PySem.Spec PyProof.Rows L2

inductive BOp where
  | add | sub | mul | mod | fdiv | pow
inductive COp where
  | eq | ne | lt | le | gt | ge | isin | notin | is_ | isnot
inductive Bf where
  | len | abs | int | max | min | divmod | repr | str | all
  deriving DecidableEq
mutual
inductive Tg where
  | nm (i : Nat) | tp (ts : Tgs)
inductive Tgs where
  | nil | cons (t : Tg) (ts : Tgs)
end
mutual
inductive IE where
  | var (i : Nat) | cst (d : D) | fnv (k : Nat) | gc (x : Str) (d : D)
  | bin (o : BOp) (a b : IE) | neg (a : IE) | nt (a : IE)
  | cmp (o : COp) (a b : IE) | conj (es : IEs) | disj (es : IEs) | ite (t a b : IE)
  | tup (es : IEs) | lst (es : IEs) | idx (a i : IE)
  | call (k : Nat) (es : IEs) | callk (k : Nat) (nm : List Str) (pt : List Nat) (es ks : IEs) | callv (i : Nat) (es : IEs)
  | blt (f : Bf) (es : IEs) | comp (tg : Tg) (it : II) (ts : IEs) (e : IE) (own : List Nat) | fst (es : IEs)
inductive IEs where
  | nil | cons (e : IE) (es : IEs)
inductive II where
  | rng1 (e : IE) | seq (e : IE)
end
mutual
inductive IS where
  | asg (i : Nat) (e : IE) | asgc (i : Nat) (e : IE) | par (i j : Nat) (a b : IE) | asgt (ts : ITs) (e : IE) | sub (o i e : IE)
  | exp (e : IE) | ret (e : IE) | retn | ifs (t : IE) (a b : ISs) | fors (tg : Tg) (it : II) (b : ISs) | whil (t : IE) (b : ISs)
  | rais (k : Nat) | tryo (k : Nat) (b : ISs) (h : ISs) | pass
inductive ISs where
  | nil | cons (s : IS) (ss : ISs)
inductive IT where
  | nm (i : Nat) | sub (o i : IE)
inductive ITs where
  | nil | cons (t : IT) (ts : ITs)
end

def ITs.len : ITs → Nat
  | .nil => 0
  | .cons _ ts => ts.len + 1
def IEs.len : IEs → Nat
  | .nil => 0
  | .cons _ es => es.len + 1
/-! ### operations -/
def Mul (i j : Int) : Prop := i.natAbs < 2 ^ 400000 ∧ j.natAbs < 2 ^ 400000
def Dvs (j : Int) : Prop := 0 < j ∧ j.natAbs < 2 ^ 8900
def Line (n : Nat) : Prop := n ≤ 16000000
def wpBin : BOp → W2
  | .add, a, b, S, Q => match a, b with
    | .int i, .int j => Q (.int (i + j)) S
    | .str x, .str y => Line (x.length + y.length) ∧ Q (.str (x ++ y)) S
    | .ref p, .ref q => match S p, S q with
      | some (.lst xs), some (.lst ys) => Line (xs.length + ys.length) ∧ ∀ r, S r = none → Q (.ref r) (S.set r (.lst (xs ++ ys)))
      | _, _ => False
    | _, _ => False
  | .sub, a, b, S, Q => match a, b with
    | .int i, .int j => Q (.int (i - j)) S
    | _, _ => False
  | .mul, a, b, S, Q => match a, b with
    | .int i, .int j => Mul i j ∧ Q (.int (i * j)) S
    | _, _ => False
  | .mod, a, b, S, Q => match a, b with
    | .int i, .int j => j ≠ 0 ∧ Q (.int (i.fmod j)) S
    | _, _ => False
  | .fdiv, a, b, S, Q => match a, b with
    | .int i, .int j => (j ≠ 0 ∧ j.natAbs < 2 ^ 8900) ∧ Q (.int (i.fdiv j)) S
    | _, _ => False
  | .pow, a, b, S, Q => match a, b with
    | .int i, .int j => (0 ≤ j ∧ j ≤ 1000 ∧ i.natAbs < 2 ^ 64) ∧ Q (.int (i ^ j.toNat)) S
    | _, _ => False
/-- things that == and != tell apart by themselves -/
def scalD : D → D → Bool
  | .int _, .int _ => true
  | .bl _, .bl _ => true
  | .str _, .str _ => true
  | .non, .non => true
  | _, _ => false
def eqD : D → D → Bool
  | .int i, .int j => decide (i = j)
  | .bl i, .bl j => decide (i = j)
  | .str i, .str j => decide (i = j)
  | .non, .non => true
  | _, _ => false
def wpCmp : COp → W2
  | .eq, a, b, S, Q => scalD a b = true ∧ Q (.bl (eqD a b)) S
  | .ne, a, b, S, Q => scalD a b = true ∧ Q (.bl (!eqD a b)) S
  | .lt, a, b, S, Q => match a, b with
    | .int i, .int j => Q (.bl (decide (i < j))) S
    | _, _ => False
  | .le, a, b, S, Q => match a, b with
    | .int i, .int j => Q (.bl (decide (i ≤ j))) S
    | _, _ => False
  | .gt, a, b, S, Q => match a, b with
    | .int i, .int j => Q (.bl (decide (j < i))) S
    | _, _ => False
  | .ge, a, b, S, Q => match a, b with
    | .int i, .int j => Q (.bl (decide (j ≤ i))) S
    | _, _ => False
  | .isin, _, _, _, _ => False
  | .notin, _, _, _, _ => False
  | .is_, _, _, _, _ => False
  | .isnot, _, _, _, _ => False
def wpIdx : W2 := fun a i S Q => match a, i with
  | .tup ds, .int i => match atI ds i with
    | some d => Q d S
    | none => False
  | .scr ds, .int i => match atI ds i with
    | some d => Q d S
    | none => False
  | .ref p, .int i => match S p with
    | some (.lst ds) => match atI ds i with
      | some d => Q d S
      | none => False
    | _ => False
  | _, _ => False

/-! ### data as the library's data -/
def mapO (f : D → Option PyData) : List D → Option (List PyData)
  | [] => some []
  | d :: ds => match f d, mapO f ds with
    | some x, some xs => some (x :: xs)
    | _, _ => none
def toPy (S : Sto) : Nat → D → Option PyData
  | 0, d => match d with
    | .non => some .none
    | .bl b => some (.bool b)
    | .int i => some (.int i)
    | .str x => some (.str x)
    | _ => none
  | n + 1, d => match d with
    | .non => some .none
    | .bl b => some (.bool b)
    | .int i => some (.int i)
    | .str x => some (.str x)
    | .tup ds => match mapO (toPy S n) ds with
      | some xs => some (.tuple xs)
      | none => none
    | .ref p => match S p with
      | some (.lst ds) => match mapO (toPy S n) ds with
        | some xs => some (.list xs)
        | none => none
      | none => none
    | _ => none

/-! ### built-in functions -/
def allBl : List D → Option Bool
  | [] => some true
  | .bl b :: r => match allBl r with
    | some c => some (b && c)
    | none => none
  | _ :: _ => none
def wpB : Bf → WB
  | .len, ds, S, Q => match ds with
    | [.tup xs] => Q (.int xs.length) S
    | [.scr xs] => Q (.int xs.length) S
    | [.str z] => Line z.length ∧ Q (.int z.length) S
    | [.ref p] => match S p with
      | some (.lst xs) => Q (.int xs.length) S
      | _ => False
    | _ => False
  | .abs, ds, S, Q => match ds with
    | [.int i] => Q (.int i.natAbs) S
    | _ => False
  | .int, ds, S, Q => match ds with
    | [.int i] => Q (.int i) S
    | [.bl b] => Q (.int (if b then 1 else 0)) S
    | _ => False
  | .max, ds, S, Q => match ds with
    | [.int i, .int j] => Q (.int (max i j)) S
    | _ => False
  | .min, ds, S, Q => match ds with
    | [.int i, .int j] => Q (.int (min i j)) S
    | _ => False
  | .divmod, ds, S, Q => match ds with
    | [.int i, .int j] => Dvs j ∧ Q (.tup [.int (i / j), .int (i % j)]) S
    | _ => False
  | .repr, ds, S, Q => match ds with
    | [.int i] => i.natAbs < 2 ^ 1900 ∧ Q (.str (toString i)) S
    | [.tup xs] => match toPy S 8 (.tup xs) with
      | some p => p.showable = true ∧ Line p.shown.length ∧ p.depth ≤ 20 ∧ p.hasDict = false ∧ Q (.str p.shown) S
      | none => False
    | [.ref a] => match toPy S 8 (.ref a) with
      | some p => p.showable = true ∧ Line p.shown.length ∧ p.depth ≤ 20 ∧ p.hasDict = false ∧ Q (.str p.shown) S
      | none => False
    | _ => False
  | .str, ds, S, Q => match ds with
    | [.int i] => i.natAbs < 2 ^ 1900 ∧ Q (.str (toString i)) S
    | _ => False
  | .all, ds, S, Q => match ds with
    | [.ref p] => match S p with
      | some (.lst xs) => match allBl xs with
        | some b => Q (.bl b) S
        | none => False
      | _ => False
    | _ => False

/-! ### targets, walks -/
mutual
def bindG : Tg → D → Fr → Option Fr
  | .nm i, d, fr => some (fr.set i (some d))
  | .tp ts, d, fr => match d with
    | .tup ds => bindGs ts ds fr
    | _ => none
def bindGs : Tgs → List D → Fr → Option Fr
  | .nil, ds, fr => match ds with
    | [] => some fr
    | _ => none
  | .cons t ts, ds, fr => match ds with
    | d :: r => match bindG t d fr with
      | some fr' => bindGs ts r fr'
      | none => none
    | [] => none
end
/-- at turn i: stuck; at the end; an item -/
abbrev Itd := Nat → Sto → Option (Option D)
def itV (ds : List D) : Itd := fun i _ => some ds[i]?
def itR (p : Addr) : Itd := fun i S => match S p with
  | some (.lst ds) => some ds[i]?
  | _ => none
def itG (n : Nat) : Itd := fun i _ => some (if i < n then some (.int i) else none)
def pick {α : Type} (pt : List Nat) (l : List α) : List α := pt.filterMap fun j => l[j]?

abbrev CallF := Nat → List D → Sto → PoE → PoX → Prop
section
variable (C : CallF)
mutual
def wpE : IE → Fr → Sto → PoE → PoX → Prop
  | .var i, fr, S, Q, _ => match fr[i]? with
    | some (some d) => Q d S
    | _ => False
  | .cst d, _, S, Q, _ => Q d S
  | .fnv k, _, S, Q, _ => Q (.fn k) S
  | .gc _ d, _, S, Q, _ => Q d S
  | .bin o a b, fr, S, Q, E => wpE a fr S (fun x S1 => wpE b fr S1 (fun y S2 => wpBin o x y S2 Q) E) E
  | .neg a, fr, S, Q, E => wpE a fr S (fun x S1 => match x with
    | .int i => Q (.int (-i)) S1
    | _ => False) E
  | .nt a, fr, S, Q, E => wpE a fr S (fun x S1 => match x with
    | .bl b => Q (.bl (!b)) S1
    | _ => False) E
  | .cmp o a b, fr, S, Q, E => wpE a fr S (fun x S1 => wpE b fr S1 (fun y S2 => wpCmp o x y S2 Q) E) E
  | .conj es, fr, S, Q, E => wpConj es fr S Q E
  | .disj es, fr, S, Q, E => wpDisj es fr S Q E
  | .ite t a b, fr, S, Q, E => wpE t fr S (fun x S1 => match x with
    | .bl true => wpE a fr S1 Q E
    | .bl false => wpE b fr S1 Q E
    | _ => False) E
  | .tup es, fr, S, Q, E => wpEs es fr S (fun ds S1 => ds.length ≤ 1000 ∧ Q (.tup ds) S1) E
  | .lst es, fr, S, Q, E => wpEs es fr S (fun ds S1 => ds.length ≤ 1000 ∧ ∀ p, S1 p = none → Q (.ref p) (S1.set p (.lst ds))) E
  | .idx a i, fr, S, Q, E => wpE a fr S (fun x S1 => wpE i fr S1 (fun y S2 => wpIdx x y S2 Q) E) E
  | .call k es, fr, S, Q, E => wpEs es fr S (fun ds S1 => C k ds S1 Q E) E
  | .callk k nm pt es ks, fr, S, Q, E => wpEs es fr S (fun ds S1 => wpEs ks fr S1 (fun zs S2 => (ds.length = es.len ∧ zs.length = nm.length) ∧ C k (pick pt (ds ++ zs)) S2 Q E) E) E
  | .callv i es, fr, S, Q, E => match fr[i]? with
    | some (some (.fn k)) => wpEs es fr S (fun ds S1 => C k ds S1 Q E) E
    | _ => False
  | .blt f es, fr, S, Q, E => wpEs es fr S (fun ds S1 => wpB f ds S1 Q) E
  | .comp tg it ts e own, fr, S, Q, E => wpI it fr S (fun J S1 => ∀ p, S1 p = none → ∃ W : Nat → Nat → Sto → Prop, (∃ m, W 0 m (S1.set p (.lst []))) ∧ ∀ i m S2, W i m S2 →
      match J i S2 with
      | none => False
      | some none => Q (.ref p) S2
      | some (some d) => match bindG tg d (wipeD fr own) with
        | none => False
        | some fr2 => wpTs ts fr2 S2 (fun x S3 => match x with
          | .bl true => wpE e fr2 S3 (fun y S4 => match S4 p with
            | some (.lst acc) => acc.length < 16000000 ∧ ∃ m', m' < m ∧ W (i + 1) m' (S4.set p (.lst (acc ++ [y])))
            | _ => False) (fun _ _ => False)
          | .bl false => ∃ m', m' < m ∧ W (i + 1) m' S3
          | _ => False) (fun _ _ => False)) E
  | .fst es, fr, S, Q, E => wpF es Str.empty fr S (fun x S1 => Q (.str x) S1) E
def wpEs : IEs → Fr → Sto → PoL → PoX → Prop
  | .nil, _, S, Q, _ => Q [] S
  | .cons e es, fr, S, Q, E => wpE e fr S (fun d S1 => wpEs es fr S1 (fun ds S2 => Q (d :: ds) S2) E) E
def wpConj : IEs → Fr → Sto → PoE → PoX → Prop
  | .nil, _, _, _, _ => False
  | .cons e es, fr, S, Q, E => match es with
    | .nil => wpE e fr S Q E
    | .cons e2 es2 => wpE e fr S (fun x S1 => match x with
      | .bl true => wpConj (.cons e2 es2) fr S1 Q E
      | .bl false => Q (.bl false) S1
      | _ => False) E
def wpDisj : IEs → Fr → Sto → PoE → PoX → Prop
  | .nil, _, _, _, _ => False
  | .cons e es, fr, S, Q, E => match es with
    | .nil => wpE e fr S Q E
    | .cons e2 es2 => wpE e fr S (fun x S1 => match x with
      | .bl true => Q (.bl true) S1
      | .bl false => wpDisj (.cons e2 es2) fr S1 Q E
      | _ => False) E
/-- the tests of a comprehension: all, from the left -/
def wpTs : IEs → Fr → Sto → PoE → PoX → Prop
  | .nil, _, S, Q, _ => Q (.bl true) S
  | .cons e es, fr, S, Q, E => wpE e fr S (fun x S1 => match x with
    | .bl true => wpTs es fr S1 Q E
    | .bl false => Q (.bl false) S1
    | _ => False) E
/-- the parts of an f-string -/
def wpF : IEs → Str → Fr → Sto → (Str → Sto → Prop) → PoX → Prop
  | .nil, acc, _, S, Q, _ => Q acc S
  | .cons e es, acc, fr, S, Q, E => wpE e fr S (fun x S1 => match x with
    | .str y => Line y.length ∧ Line (acc.length + y.length) ∧ wpF es (acc ++ y) fr S1 Q E
    | .int i => i.natAbs < 2 ^ 1900 ∧ Line (acc.length + (toString i : Str).length) ∧ wpF es (acc ++ (toString i : Str)) fr S1 Q E
    | _ => False) E
def wpI : II → Fr → Sto → (Itd → Sto → Prop) → PoX → Prop
  | .rng1 e, fr, S, R, E => wpE e fr S (fun x S1 => match x with
    | .int j => (-(2 ^ 62) ≤ j ∧ j < 2 ^ 62) ∧ R (itG j.toNat) S1
    | _ => False) E
  | .seq e, fr, S, R, E => wpE e fr S (fun x S1 => match x with
    | .tup ds => R (itV ds) S1
    | .scr ds => R (itV ds) S1
    | .ref p => match S1 p with
      | some (.lst _) => R (itR p) S1
      | _ => False
    | _ => False) E
end
variable (sb : Nat → Nat → Bool)
mutual
def wpS : IS → Fr → Sto → Po → Prop
  | .asg i e, fr, S, P => wpE C e fr S (fun d S1 => P.nx (fr.set i (some d)) S1) (fun x S1 => P.xc x fr S1)
  | .asgc i e, fr, S, P => wpE C e fr S (fun d S1 => P.nx (fr.set i (some d)) S1) (fun x S1 => P.xc x fr S1)
  | .par i j a b, fr, S, P => wpE C a fr S (fun d S1 => wpE C b fr S1 (fun d' S2 => P.nx ((fr.set i (some d)).set j (some d')) S2) (fun x S2 => P.xc x fr S2)) (fun x S1 => P.xc x fr S1)
  | .asgt ts e, fr, S, P => wpE C e fr S (fun d S1 => match d with
    | .tup ds => ds.length = ts.len ∧ wpAs ts ds fr S1 P
    | _ => False) (fun x S1 => P.xc x fr S1)
  | .sub o i e, fr, S, P => wpE C e fr S (fun d S1 => wpE C o fr S1 (fun x S2 => wpE C i fr S2 (fun y S3 => match x, y with
    | .ref p, .int j => match S3 p with
      | some (.lst xs) => match ixN xs.length j with
        | some n => P.nx fr (S3.set p (.lst (xs.set n d)))
        | none => False
      | _ => False
    | _, _ => False) (fun x S3 => P.xc x fr S3)) (fun x S2 => P.xc x fr S2)) (fun x S1 => P.xc x fr S1)
  | .exp e, fr, S, P => wpE C e fr S (fun _ S1 => P.nx fr S1) (fun x S1 => P.xc x fr S1)
  | .ret e, fr, S, P => wpE C e fr S P.rt (fun x S1 => P.xc x fr S1)
  | .retn, _, S, P => P.rt .non S
  | .ifs t a b, fr, S, P => wpE C t fr S (fun d S1 => match d with
    | .bl true => wpSs a fr S1 P
    | .bl false => wpSs b fr S1 P
    | _ => False) (fun x S1 => P.xc x fr S1)
  | .fors tg it b, fr, S, P => wpI C it fr S (fun J S1 => ∃ W : Nat → Nat → Fr → Sto → Prop, (∃ m, W 0 m fr S1) ∧ ∀ i m fr2 S2, W i m fr2 S2 →
      match J i S2 with
      | none => False
      | some none => P.nx fr2 S2
      | some (some d) => match bindG tg d fr2 with
        | none => False
        | some fr3 => wpSs b fr3 S2 { nx := fun fr' S' => ∃ m', m' < m ∧ W (i + 1) m' fr' S', rt := P.rt, bk := P.nx, ct := fun fr' S' => ∃ m', m' < m ∧ W (i + 1) m' fr' S', xc := P.xc }) (fun x S1 => P.xc x fr S1)
  | .whil t b, fr, S, P => ∃ W : Nat → Fr → Sto → Prop, (∃ m, W m fr S) ∧ ∀ m fr2 S2, W m fr2 S2 →
      wpE C t fr2 S2 (fun d S3 => match d with
        | .bl true => wpSs b fr2 S3 { nx := fun fr' S' => ∃ m', m' < m ∧ W m' fr' S', rt := P.rt, bk := P.nx, ct := fun fr' S' => ∃ m', m' < m ∧ W m' fr' S', xc := P.xc }
        | .bl false => P.nx fr2 S3
        | _ => False) (fun x S3 => P.xc x fr2 S3)
  | .rais k, fr, S, P => P.xc ⟨.cls k, []⟩ fr S
  | .tryo k b h, fr, S, P => wpSs b fr S { nx := P.nx, rt := P.rt, bk := P.bk, ct := P.ct, xc := fun x fr' S' => match x.cls with
      | .cls j => if sb j k = true then wpSs h fr' S' { nx := P.nx, rt := P.rt, bk := P.bk, ct := P.ct, xc := fun _ _ _ => False } else P.xc x fr' S'
      | _ => False }
  | .pass, fr, S, P => P.nx fr S
def wpSs : ISs → Fr → Sto → Po → Prop
  | .nil, fr, S, P => P.nx fr S
  | .cons s ss, fr, S, P => wpS s fr S { nx := fun fr' S' => wpSs ss fr' S' P, rt := P.rt, bk := P.bk, ct := P.ct, xc := P.xc }
def wpA : IT → D → Fr → Sto → Po → Prop
  | .nm i, d, fr, S, P => P.nx (fr.set i (some d)) S
  | .sub o i, d, fr, S, P => wpE C o fr S (fun x S2 => wpE C i fr S2 (fun y S3 => match x, y with
    | .ref p, .int j => match S3 p with
      | some (.lst xs) => match ixN xs.length j with
        | some n => P.nx fr (S3.set p (.lst (xs.set n d)))
        | none => False
      | _ => False
    | _, _ => False) (fun x S3 => P.xc x fr S3)) (fun x S2 => P.xc x fr S2)
def wpAs : ITs → List D → Fr → Sto → Po → Prop
  | .nil, ds, fr, S, P => match ds with
    | [] => P.nx fr S
    | _ => False
  | .cons t ts, ds, fr, S, P => match ds with
    | d :: r => wpA t d fr S { nx := fun fr' S' => wpAs ts r fr' S' P, rt := P.rt, bk := P.bk, ct := P.ct, xc := P.xc }
    | [] => False
end
end
/-! ### a program -/
structure Fn where
  name : Str
  ps : List Str
  N : List Str
  kw : List (Nat × List Str × List Nat)
  body : ISs
structure PD where
  fns : List Fn
  cls : List Str
  sub : Nat → Nat → Bool
  blts : List Str
def startD (n : Nat) (ds : List D) : Fr := ds.map some ++ List.replicate (n - ds.length) none
def wpCall (P : PD) : Nat → CallF
  | 0, _, _, _, _, _ => False
  | n + 1, k, ds, S, Q, E => match P.fns[k]? with
    | none => False
    | some f => ds.length = f.ps.length ∧ wpSs (wpCall P n) P.sub f.body (startD f.N.length ds) S { nx := fun _ S' => Q .non S', rt := Q, xc := fun x _ S' => E x S' }
end L3

/-! the operations keep their word -/
namespace L3
open PySem PySem.Spec PyProof.Rows L2
theorem line_ok {n : Nat} (h : Line n) : n ≤ sizeLine := by
  unfold Line at h
  rw [sizeLine_eq]
  omega
theorem lt_two_log {i : Int} {n : Nat} (h0 : 0 < n) (h : i.natAbs < 2 ^ n) : i.natAbs.log2 < n := PySem.Flt.log2_lt_of h0 h
section
variable {X : Cx} {G : Gd}
theorem sb_add : OpR X (binaryOp .Add) (L2o G (wpBin .add)) := by
  intro pins s σ H x y v u Q I rx ry h
  obtain ⟨a, b, S, Qd, rs, ra, rb, hw, fe⟩ := h
  cases a <;> cases b <;> first | exact hw.elim | skip
  · cases Rp.int.mp ra
    cases Rp.int.mp rb
    exact op_add pins s σ H _ _ v u Q I rx ry ⟨_, _, rfl, rfl, fe _ S _ H (TK.refl G H) rs (Rp.int.mpr rfl) hw⟩
  · cases Rp.str.mp ra
    cases Rp.str.mp rb
    exact op_add_str pins s σ H _ _ v u Q I rx ry ⟨_, _, rfl, rfl, line_ok hw.1, fe _ S _ H (TK.refl G H) rs (Rp.str.mpr rfl) hw.2⟩
  · rename_i p q
    cases Rp.ref.mp ra
    cases Rp.ref.mp rb
    have hw' : (match S p, S q with
      | some (.lst xs), some (.lst ys) => Line (xs.length + ys.length) ∧ ∀ r, S r = none → Qd (.ref r) (S.set r (.lst (xs ++ ys)))
      | _, _ => False) := hw
    cases e1 : S p with
    | none => rw [e1] at hw'; exact hw'.elim
    | some o1 =>
      cases e2 : S q with
      | none => rw [e1, e2] at hw'; cases o1; exact hw'.elim
      | some o2 =>
        rw [e1, e2] at hw'
        cases o1 with
        | lst xs =>
          cases o2 with
          | lst ys =>
            obtain ⟨hl, hn⟩ := hw'
            obtain ⟨vs, h1, r1⟩ := rs p _ e1
            obtain ⟨ws, h2, r2⟩ := rs q _ e2
            refine op_cat pins s σ H _ _ v u Q I rx ry ⟨p, q, vs, ws, rfl, rfl, h1, h2, by rw [← r1.len, ← r2.len]; exact line_ok hl, fun r hr => ?_⟩
            exact fe _ _ _ _ (TK.new hr) (rs.newList hr (r1.append r2)) (Rp.ref.mpr rfl) (hn r (rs.none hr))
theorem sb_sub : OpR X (binaryOp .Sub) (L2o G (wpBin .sub)) := by
  intro pins s σ H x y v u Q I rx ry h
  obtain ⟨a, b, S, Qd, rs, ra, rb, hw, fe⟩ := h
  cases a <;> cases b <;> first | exact hw.elim | skip
  cases Rp.int.mp ra
  cases Rp.int.mp rb
  exact op_sub pins s σ H _ _ v u Q I rx ry ⟨_, _, rfl, rfl, fe _ S _ H (TK.refl G H) rs (Rp.int.mpr rfl) hw⟩
theorem sb_mul : OpR X (binaryOp .Mult) (L2o G (wpBin .mul)) := by
  intro pins s σ H x y v u Q I rx ry h
  obtain ⟨a, b, S, Qd, rs, ra, rb, hw, fe⟩ := h
  cases a <;> cases b <;> first | exact hw.elim | skip
  cases Rp.int.mp ra
  cases Rp.int.mp rb
  refine op_mulW pins s σ H _ _ v u Q I rx ry ⟨_, _, rfl, rfl, ?_, fe _ S _ H (TK.refl G H) rs (Rp.int.mpr rfl) hw.2⟩
  have h1 := lt_two_log (by omega) hw.1.1
  have h2 := lt_two_log (by omega) hw.1.2
  unfold CMulW
  omega
theorem sb_mod : OpR X (binaryOp .Mod) (L2o G (wpBin .mod)) := by
  intro pins s σ H x y v u Q I rx ry h
  obtain ⟨a, b, S, Qd, rs, ra, rb, hw, fe⟩ := h
  cases a <;> cases b <;> first | exact hw.elim | skip
  cases Rp.int.mp ra
  cases Rp.int.mp rb
  exact op_modN pins s σ H _ _ v u Q I rx ry ⟨_, _, rfl, rfl, hw.1, fe _ S _ H (TK.refl G H) rs (Rp.int.mpr rfl) hw.2⟩
theorem op_fdivX : OpR X (binaryOp .FloorDiv) (rI (fun _ j => j ≠ 0 ∧ j.natAbs < 2 ^ 8900) fun i j => .int (i.fdiv j)) := opI fun _ j _ _ _ _ _ hc q =>
  floordiv_int hc.1 q (.inl (PyProof.noPylong_of_log2 (Nat.lt_trans (lt_two_log (by omega) hc.2) (by omega))))
theorem sb_fdiv : OpR X (binaryOp .FloorDiv) (L2o G (wpBin .fdiv)) := by
  intro pins s σ H x y v u Q I rx ry h
  obtain ⟨a, b, S, Qd, rs, ra, rb, hw, fe⟩ := h
  cases a <;> cases b <;> first | exact hw.elim | skip
  cases Rp.int.mp ra
  cases Rp.int.mp rb
  exact op_fdivX pins s σ H _ _ v u Q I rx ry ⟨_, _, rfl, rfl, hw.1, fe _ S _ H (TK.refl G H) rs (Rp.int.mpr rfl) hw.2⟩
theorem sb_pow : OpR X (binaryOp .Pow) (L2o G (wpBin .pow)) := by
  intro pins s σ H x y v u Q I rx ry h
  obtain ⟨a, b, S, Qd, rs, ra, rb, hw, fe⟩ := h
  cases a <;> cases b <;> first | exact hw.elim | skip
  cases Rp.int.mp ra
  cases Rp.int.mp rb
  exact op_pow pins s σ H _ _ v u Q I rx ry ⟨_, _, rfl, rfl, ⟨hw.1.1, by have := hw.1.2.1; omega, hw.1.2.2⟩, fe _ S _ H (TK.refl G H) rs (Rp.int.mpr rfl) hw.2⟩
theorem scal_rp {H : Hp} {a b : D} {x y : V} (ra : Rp G H a x) (rb : Rp G H b y) (h : scalD a b = true) : scal x y = true ∧ decide (x = y) = eqD a b := by
  cases a <;> cases b <;> first | (cases h; done) | skip
  · cases Rp.non.mp ra; cases Rp.non.mp rb
    exact ⟨rfl, by simp [eqD]⟩
  · cases Rp.bl.mp ra; cases Rp.bl.mp rb
    exact ⟨rfl, by simp [eqD]⟩
  · cases Rp.int.mp ra; cases Rp.int.mp rb
    exact ⟨rfl, by simp [eqD]⟩
  · cases Rp.str.mp ra; cases Rp.str.mp rb
    exact ⟨rfl, by simp [eqD]⟩
theorem sb_eq : OpR X (compareOp .Eq) (L2o G (wpCmp .eq)) := by
  intro pins s σ H x y v u Q I rx ry h
  obtain ⟨a, b, S, Qd, rs, ra, rb, hw, fe⟩ := h
  obtain ⟨h1, h2⟩ := scal_rp ra rb hw.1
  exact op_eq pins s σ H _ _ v u Q I rx ry ⟨h1, by rw [h2]; exact fe _ S _ H (TK.refl G H) rs (Rp.bl.mpr rfl) hw.2⟩
theorem sb_ne : OpR X (compareOp .NotEq) (L2o G (wpCmp .ne)) := by
  intro pins s σ H x y v u Q I rx ry h
  obtain ⟨a, b, S, Qd, rs, ra, rb, hw, fe⟩ := h
  obtain ⟨h1, h2⟩ := scal_rp ra rb hw.1
  exact op_ne pins s σ H _ _ v u Q I rx ry ⟨h1, by rw [h2]; exact fe _ S _ H (TK.refl G H) rs (Rp.bl.mpr rfl) hw.2⟩
theorem sb_lt : OpR X (compareOp .Lt) (L2o G (wpCmp .lt)) := by
  intro pins s σ H x y v u Q I rx ry h
  obtain ⟨a, b, S, Qd, rs, ra, rb, hw, fe⟩ := h
  cases a <;> cases b <;> first | exact hw.elim | skip
  cases Rp.int.mp ra
  cases Rp.int.mp rb
  exact op_lt pins s σ H _ _ v u Q I rx ry ⟨_, _, rfl, rfl, fe _ S _ H (TK.refl G H) rs (Rp.bl.mpr rfl) hw⟩
theorem sb_le : OpR X (compareOp .LtE) (L2o G (wpCmp .le)) := by
  intro pins s σ H x y v u Q I rx ry h
  obtain ⟨a, b, S, Qd, rs, ra, rb, hw, fe⟩ := h
  cases a <;> cases b <;> first | exact hw.elim | skip
  cases Rp.int.mp ra
  cases Rp.int.mp rb
  exact op_le pins s σ H _ _ v u Q I rx ry ⟨_, _, rfl, rfl, fe _ S _ H (TK.refl G H) rs (Rp.bl.mpr rfl) hw⟩
theorem sb_gt : OpR X (compareOp .Gt) (L2o G (wpCmp .gt)) := by
  intro pins s σ H x y v u Q I rx ry h
  obtain ⟨a, b, S, Qd, rs, ra, rb, hw, fe⟩ := h
  cases a <;> cases b <;> first | exact hw.elim | skip
  cases Rp.int.mp ra
  cases Rp.int.mp rb
  exact op_gt pins s σ H _ _ v u Q I rx ry ⟨_, _, rfl, rfl, fe _ S _ H (TK.refl G H) rs (Rp.bl.mpr rfl) hw⟩
theorem sb_ge : OpR X (compareOp .GtE) (L2o G (wpCmp .ge)) := by
  intro pins s σ H x y v u Q I rx ry h
  obtain ⟨a, b, S, Qd, rs, ra, rb, hw, fe⟩ := h
  cases a <;> cases b <;> first | exact hw.elim | skip
  cases Rp.int.mp ra
  cases Rp.int.mp rb
  exact op_ge pins s σ H _ _ v u Q I rx ry ⟨_, _, rfl, rfl, fe _ S _ H (TK.refl G H) rs (Rp.bl.mpr rfl) hw⟩
/-! ### subscripts -/
theorem ixN_len {n m : Nat} (h : n = m) (i : Int) : ixN n i = ixN m i := by rw [h]
theorem Rps.atI {H : Hp} {ds : List D} {vs : List V} {i : Int} {d : D} (r : Rps G H ds vs) (h : L2.atI ds i = some d) : ∃ v, L2.atI vs i = some v ∧ Rp G H d v := by
  unfold L2.atI at h ⊢
  rw [← r.len]
  cases e : ixN ds.length i with
  | none => rw [e] at h; cases h
  | some j =>
    rw [e] at h
    exact r.get (i := j) h
theorem sb_idx (hK : X.K = G.K) : IxR X (L2o G wpIdx) := by
  intro value slice pins s σ H x y v u Q I rx ry h hs
  obtain ⟨a, b, S, Qd, rs, ra, rb, hw, fe⟩ := h
  have fin : ∀ d w, Rp G H d w → Qd d S → Q w H := fun d w r q => fe d S w H (TK.refl G H) rs r q
  cases a with
  | tup ds =>
    cases b with
    | int i =>
      cases Rp.int.mp rb
      obtain ⟨p, vs, rfl, hq, r⟩ := Rp.tup.mp ra
      have hw' : (match L2.atI ds i with | some d => Qd d S | none => False) := hw
      cases e : L2.atI ds i with
      | none => rw [e] at hw'; exact hw'.elim
      | some d =>
        rw [e] at hw'
        obtain ⟨w, e2, r2⟩ := r.atI e
        exact ix_tup value slice pins s σ H _ _ v u Q I rx ry ⟨p, vs, i, w, rfl, rfl, by rw [hK]; exact hq, e2, fin d w r2 hw'⟩ hs
    | _ => exact hw.elim
  | scr ds =>
    cases b with
    | int i =>
      cases Rp.int.mp rb
      obtain ⟨p, vs, rfl, hq, r⟩ := Rp.scr.mp ra
      have hw' : (match L2.atI ds i with | some d => Qd d S | none => False) := hw
      cases e : L2.atI ds i with
      | none => rw [e] at hw'; exact hw'.elim
      | some d =>
        rw [e] at hw'
        obtain ⟨w, e2, r2⟩ := r.atI e
        exact ix_list value slice pins s σ H _ _ v u Q I rx ry ⟨p, vs, i, w, rfl, rfl, by rw [hK]; exact hq.seq, e2, fin d w r2 hw'⟩ hs
    | _ => exact hw.elim
  | ref p =>
    cases b with
    | int i =>
      cases Rp.int.mp rb
      cases Rp.ref.mp ra
      have hw' : (match S p with
        | some (.lst ds) => match L2.atI ds i with
          | some d => Qd d S
          | none => False
        | _ => False) := hw
      cases e0 : S p with
      | none => rw [e0] at hw'; exact hw'.elim
      | some o =>
        rw [e0] at hw'
        cases o with
        | lst ds =>
          obtain ⟨vs, h1, r⟩ := rs p _ e0
          cases e : L2.atI ds i with
          | none =>
            have hw2 : (match L2.atI ds i with | some d => Qd d S | none => False) := hw'
            rw [e] at hw2; exact hw2.elim
          | some d =>
            have hw2 : (match L2.atI ds i with | some d => Qd d S | none => False) := hw'
            rw [e] at hw2
            obtain ⟨w, e2, r2⟩ := r.atI e
            exact ix_list value slice pins s σ H _ _ v u Q I rx ry ⟨p, vs, i, w, rfl, rfl, SqL.of h1, e2, fin d w r2 hw2⟩ hs
    | _ => exact hw.elim
  | _ => exact hw.elim
end
end L3

/-! the built-in functions keep their word -/
namespace L3
open PySem PySem.Spec PyProof.Rows L2
section
variable {X : Cx} {G : Gd}
theorem sl_of {S : Sto} {H : Hp} {p : Addr} {ds : List D} (rs : RS G S H) (e : S p = some (.lst ds)) : ∃ vs, H p = some (.lst vs) ∧ Rps G H ds vs := rs p _ e
theorem sB_len (hK : X.K = G.K) : CallR X (.builtin "len") (LBo G (wpB .len)) := by
  intro pins s σ H xs us Q I rv h
  obtain ⟨as, S, Qd, rs, ra, hw, fe⟩ := h
  dsimp only [wpB] at hw
  split at hw
  · obtain ⟨v, rfl, r1⟩ := ra.one
    obtain ⟨p, vs, rfl, hq, r⟩ := Rp.tup.mp r1
    exact call_len_seq pins s σ H _ us Q I rv ⟨p, vs, rfl, .inr (by rw [hK]; exact hq), fe _ S _ H (TK.refl G H) rs (Rp.int.mpr (by rw [r.len])) hw⟩
  · obtain ⟨v, rfl, r1⟩ := ra.one
    obtain ⟨p, vs, rfl, hq, r⟩ := Rp.scr.mp r1
    exact call_len_seq pins s σ H _ us Q I rv ⟨p, vs, rfl, .inl (by rw [hK]; exact hq.seq), fe _ S _ H (TK.refl G H) rs (Rp.int.mpr (by rw [r.len])) hw⟩
  · obtain ⟨v, rfl, r1⟩ := ra.one
    cases Rp.str.mp r1
    exact call_len_str pins s σ H _ us Q I rv ⟨_, rfl, line_ok hw.1, fe _ S _ H (TK.refl G H) rs (Rp.int.mpr rfl) hw.2⟩
  · rename_i p
    obtain ⟨v, rfl, r1⟩ := ra.one
    cases Rp.ref.mp r1
    split at hw
    · rename_i _ ds e
      obtain ⟨vs, h1, r⟩ := sl_of rs e
      exact call_len_seq pins s σ H _ us Q I rv ⟨p, vs, rfl, .inl (SqL.of h1), fe _ S _ H (TK.refl G H) rs (Rp.int.mpr (by rw [r.len])) hw⟩
    · exact hw.elim
  · exact hw.elim
theorem sB_abs : CallR X (.builtin "abs") (LBo G (wpB .abs)) := by
  intro pins s σ H xs us Q I rv h
  obtain ⟨as, S, Qd, rs, ra, hw, fe⟩ := h
  dsimp only [wpB] at hw
  split at hw
  · rename_i i
    obtain ⟨v, rfl, r1⟩ := ra.one
    cases Rp.int.mp r1
    refine call_abs pins s σ H _ us Q I rv ⟨i, rfl, fe _ S _ H (TK.refl G H) rs (Rp.int.mpr ?_) hw⟩
    congr 1
    split <;> omega
  · exact hw.elim
theorem sB_int : CallR X (.type "int") (LBo G (wpB .int)) := by
  intro pins s σ H xs us Q I rv h
  obtain ⟨as, S, Qd, rs, ra, hw, fe⟩ := h
  dsimp only [wpB] at hw
  split at hw
  · obtain ⟨v, rfl, r1⟩ := ra.one
    cases Rp.int.mp r1
    exact call_int1 pins s σ H _ us Q I rv (.inl ⟨_, rfl, fe _ S _ H (TK.refl G H) rs (Rp.int.mpr rfl) hw⟩)
  · obtain ⟨v, rfl, r1⟩ := ra.one
    cases Rp.bl.mp r1
    exact call_int1 pins s σ H _ us Q I rv (.inr ⟨_, rfl, fe _ S _ H (TK.refl G H) rs (Rp.int.mpr rfl) hw⟩)
  · exact hw.elim
theorem sB_max (hc : X.calm = true) : CallR X (.builtin "max") (LBo G (wpB .max)) := by
  intro pins s σ H xs us Q I rv h
  obtain ⟨as, S, Qd, rs, ra, hw, fe⟩ := h
  dsimp only [wpB] at hw
  split at hw
  · obtain ⟨v, v', rfl, r1, r2⟩ := ra.two
    cases Rp.int.mp r1
    cases Rp.int.mp r2
    refine call_max2 hc pins s σ H _ us Q I rv ⟨_, _, rfl, fe _ S _ H (TK.refl G H) rs (Rp.int.mpr ?_) hw⟩
    congr 1
    split <;> omega
  · exact hw.elim
theorem sB_min (hc : X.calm = true) : CallR X (.builtin "min") (LBo G (wpB .min)) := by
  intro pins s σ H xs us Q I rv h
  obtain ⟨as, S, Qd, rs, ra, hw, fe⟩ := h
  dsimp only [wpB] at hw
  split at hw
  · obtain ⟨v, v', rfl, r1, r2⟩ := ra.two
    cases Rp.int.mp r1
    cases Rp.int.mp r2
    refine call_min2 hc pins s σ H _ us Q I rv ⟨_, _, rfl, fe _ S _ H (TK.refl G H) rs (Rp.int.mpr ?_) hw⟩
    congr 1
    split <;> omega
  · exact hw.elim
theorem dvs_ok {i j : Int} (h : Dvs j) : CDivP i j := ⟨h.1, PyProof.noPylong_of_log2 (Nat.lt_trans (lt_two_log (by decide) h.2) (by decide))⟩
theorem sB_divmod : CallR X (.builtin "divmod") (LBo G (wpB .divmod)) := by
  intro pins s σ H xs us Q I rv h
  obtain ⟨as, S, Qd, rs, ra, hw, fe⟩ := h
  dsimp only [wpB] at hw
  split at hw
  · rename_i i j
    obtain ⟨v, v', rfl, r1, r2⟩ := ra.two
    cases Rp.int.mp r1
    cases Rp.int.mp r2
    refine call_divmodW pins s σ H _ us Q I rv ⟨i, j, rfl, dvs_ok hw.1, fun p hp => ?_⟩
    have k : TK G H (upd H p (.tup [.int (i / j), .int (i % j)])) := TK.new hp
    exact fe _ S _ _ k (rs.lay hp) (Rp.tup.mpr ⟨p, _, rfl, SqT.of upd_same, Rps.mk (Rp.int.mpr rfl) (Rps.mk (Rp.int.mpr rfl) Rps.mk0)⟩) hw.2
  · exact hw.elim
theorem allBl_rps {H : Hp} : ∀ {ds : List D} {vs : List V} {b : Bool}, Rps G H ds vs → allBl ds = some b → ∃ bs : List Bool, vs = bs.map V.bl ∧ bs.all id = b
  | [], _, b, r, e => by
    rw [Rps.nil.mp r]
    exact ⟨[], rfl, Option.some.inj e⟩
  | d :: ds, _, b, r, e => by
    obtain ⟨v, t, rfl, r1, r2⟩ := Rps.cons.mp r
    cases d with
    | bl c =>
      cases Rp.bl.mp r1
      unfold allBl at e
      cases e1 : allBl ds with
      | none => rw [e1] at e; cases e
      | some c' =>
        rw [e1] at e
        obtain ⟨bs, rfl, hb⟩ := allBl_rps r2 e1
        exact ⟨c :: bs, rfl, by rw [List.all_cons, hb]; exact Option.some.inj e⟩
    | _ => cases e
theorem sB_all (hc : X.calm = true) : CallR X (.builtin "all") (LBo G (wpB .all)) := by
  intro pins s σ H xs us Q I rv h
  obtain ⟨as, S, Qd, rs, ra, hw, fe⟩ := h
  dsimp only [wpB] at hw
  split at hw
  · rename_i p
    obtain ⟨v, rfl, r1⟩ := ra.one
    cases Rp.ref.mp r1
    split at hw
    · rename_i _ ds e
      split at hw
      · rename_i _ b e2
        obtain ⟨vs, h1, r⟩ := sl_of rs e
        obtain ⟨bs, rfl, hb⟩ := allBl_rps r e2
        exact cr_all hc pins s σ H _ us Q I rv ⟨p, bs, rfl, SqL.of h1, by rw [hb]; exact fe _ S _ H (TK.refl G H) rs (Rp.bl.mpr rfl) hw⟩
      · exact hw.elim
    · exact hw.elim
  · exact hw.elim
theorem small_log {i : Int} (h : i.natAbs < 2 ^ 1900) : i.natAbs.log2 < 1920 := Nat.lt_trans (lt_two_log (by decide) h) (by decide)
theorem sB_str : CallR X (.type "str") (LBo G (wpB .str)) := by
  intro pins s σ H xs us Q I rv h
  obtain ⟨as, S, Qd, rs, ra, hw, fe⟩ := h
  dsimp only [wpB] at hw
  split at hw
  · obtain ⟨v, rfl, r1⟩ := ra.one
    cases Rp.int.mp r1
    exact call_str_int pins s σ H _ us Q I rv ⟨_, rfl, small_log hw.1, fe _ S _ H (TK.refl G H) rs (Rp.str.mpr rfl) hw.2⟩
  · exact hw.elim
/-! ### repr -/
theorem readsAll_of {h : Heap} {f : D → Option PyData} {H : Hp} (ih : ∀ d v u p, Rp G H d v → RelV v u → f d = some p → ∃ as, Reads h u p as) :
    ∀ (ds : List D) (vs : List V) (us : List Value) (ps : List PyData), Rps G H ds vs → Vals vs us → mapO f ds = some ps → ∃ as, ReadsAll h us ps as
  | [], _, us, ps, r, rv, e => by
    rw [Rps.nil.mp r] at rv
    cases rv
    cases (Option.some.inj e)
    exact ⟨[], .nil⟩
  | d :: ds, _, us, ps, r, rv, e => by
    obtain ⟨v, t, rfl, r1, r2⟩ := Rps.cons.mp r
    cases rv with
    | cons q1 q2 =>
      unfold mapO at e
      cases e1 : f d with
      | none => rw [e1] at e; cases e
      | some x =>
        cases e2 : mapO f ds with
        | none => rw [e1, e2] at e; cases e
        | some xs =>
          rw [e1, e2] at e
          cases (Option.some.inj e)
          obtain ⟨as, h1⟩ := ih d v _ x r1 q1 e1
          obtain ⟨bs, h2⟩ := readsAll_of ih ds t _ xs r2 q2 e2
          exact ⟨_, .cons h1 h2⟩
def leafPy : D → Option PyData
  | .non => some .none
  | .bl b => some (.bool b)
  | .int i => some (.int i)
  | .str x => some (.str x)
  | _ => none
theorem reads_leaf {h : Heap} {H : Hp} {d : D} {v : V} {u : Value} {p : PyData} (r : Rp G H d v) (rv : RelV v u) (e : leafPy d = some p) : ∃ as, Reads h u p as := by
  cases d <;> unfold leafPy at e <;> dsimp only at e
  · cases Rp.non.mp r; cases rv; cases (Option.some.inj e); exact ⟨_, .none⟩
  · cases Rp.bl.mp r; cases rv; cases (Option.some.inj e); exact ⟨_, .bool _⟩
  · cases Rp.int.mp r; obtain ⟨t, rfl⟩ := rv; cases (Option.some.inj e); exact ⟨_, .int _ _⟩
  · cases Rp.str.mp r; obtain ⟨t, rfl⟩ := rv; cases (Option.some.inj e); exact ⟨_, .str _ _⟩
  all_goals cases e
theorem toPy_zero (S : Sto) (d : D) : toPy S 0 d = leafPy d := by cases d <;> rfl
theorem toPy_tup (S : Sto) (n : Nat) (ds : List D) : toPy S (n + 1) (.tup ds) = (mapO (toPy S n) ds).map PyData.tuple := by
  simp only [toPy]
  cases mapO (toPy S n) ds <;> rfl
theorem toPy_ref (S : Sto) (n : Nat) (p : Addr) (ds : List D) (h : S p = some (.lst ds)) : toPy S (n + 1) (.ref p) = (mapO (toPy S n) ds).map PyData.list := by
  simp only [toPy, h]
  cases mapO (toPy S n) ds <;> rfl
theorem toPy_refN (S : Sto) (n : Nat) (p : Addr) (h : S p = none) : toPy S (n + 1) (.ref p) = none := by
  simp only [toPy, h]
theorem reads_of {pins : List (Addr × Obj)} {σ : L2.St} {H : Hp} {s : Shared} {S : Sto} (hK : X.K = G.K) (I : Inv X pins σ H s) (rs : RS G S H) :
    ∀ (n : Nat) (d : D) (v : V) (u : Value) (p : PyData), Rp G H d v → RelV v u → toPy S n d = some p → ∃ as, Reads s.heap u p as := by
  intro n
  induction n with
  | zero =>
    intro d v u p r rv e
    rw [toPy_zero] at e
    exact reads_leaf r rv e
  | succ n ih =>
    intro d v u p r rv e
    cases d with
    | tup ds =>
      rw [toPy_tup] at e
      cases e1 : mapO (toPy S n) ds with
      | none => rw [e1] at e; cases e
      | some xs =>
        rw [e1] at e
        cases (Option.some.inj e)
        obtain ⟨a, vs, rfl, hq, r2⟩ := Rp.tup.mp r
        cases rv
        obtain ⟨its, rv2, ⟨o, ho, hcl, m, hd⟩, _⟩ := I.tuple (a := a) (xs := vs) (by rw [hK]; exact hq)
        obtain ⟨as, ra⟩ := readsAll_of (f := toPy S n) ih ds vs its xs r2 rv2 e1
        exact ⟨_, .tuple ho hcl hd ra⟩
    | ref q =>
      cases e0 : S q with
      | none => rw [toPy_refN S n q e0] at e; cases e
      | some o =>
        cases o with
        | lst ds =>
          rw [toPy_ref S n q ds e0] at e
          cases e1 : mapO (toPy S n) ds with
          | none => rw [e1] at e; cases e
          | some xs =>
            rw [e1] at e
            cases (Option.some.inj e)
            cases Rp.ref.mp r
            cases rv
            obtain ⟨vs, h1, r2⟩ := sl_of rs e0
            obtain ⟨its, rv2, ⟨o, m, ho, hcl, hdi, hd⟩, _⟩ := I.list (a := q) (xs := vs) (SqL.of h1)
            obtain ⟨as, ra⟩ := readsAll_of (f := toPy S n) ih ds vs its xs r2 rv2 e1
            exact ⟨_, .list ho hcl hd ra⟩
    | non => exact reads_leaf r rv (by simp only [toPy] at e; exact e)
    | bl b => exact reads_leaf r rv (by simp only [toPy] at e; exact e)
    | int i => exact reads_leaf r rv (by simp only [toPy] at e; exact e)
    | str x => exact reads_leaf r rv (by simp only [toPy] at e; exact e)
    | ty m => simp only [toPy] at e; cases e
    | fn k => simp only [toPy] at e; cases e
    | cls k => simp only [toPy] at e; cases e
    | scr ds => simp only [toPy] at e; cases e
theorem sB_repr (hK : X.K = G.K) (hg : X.A.guards = some []) (hu : X.A.units + 64 < cLine) : CallR X (.builtin "repr") (LBo G (wpB .repr)) := by
  intro pins s σ H xs us Q I rv h
  obtain ⟨as, S, Qd, rs, ra, hw, fe⟩ := h
  have deep : ∀ (n : Nat) (d : D) (p : PyData) (a : Addr), Rp G H d (.ref a) → toPy S n d = some p → p.showable = true ∧ Line p.shown.length ∧ p.depth ≤ 20 ∧ p.hasDict = false ∧ Qd (.str p.shown) S → wpAny (model X.prog X.w) X.A (call (.builtin "repr") [.ref a]) (EP X pins σ Q) X.xe s := by
    intro n d p a r e hp
    obtain ⟨h1, h2, h3, h4, h5⟩ := hp
    obtain ⟨bs, rr⟩ := reads_of hK I rs n d _ _ p r rfl e
    exact repr_of_reads' rr h1 (fun z => by rw [h4] at z; cases z) hg (by omega) (fun _ _ e => e) (fun h' t tk k => ⟨.str p.shown, H, I.kept k, ⟨_, rfl⟩, fe _ S _ H (TK.refl G H) rs (Rp.str.mpr rfl) h5⟩) (line_ok h2)
  dsimp only [wpB] at hw
  generalize 8 = n at hw
  split at hw
  · obtain ⟨v, rfl, r1⟩ := ra.one
    cases Rp.int.mp r1
    exact SkE.call_repr_int pins s σ H _ us Q I rv ⟨_, rfl, small_log hw.1, fe _ S _ H (TK.refl G H) rs (Rp.str.mpr rfl) hw.2⟩
  · obtain ⟨v, rfl, r1⟩ := ra.one
    split at hw
    · rename_i _ p e
      obtain ⟨a, vs, rfl, hq, r⟩ := Rp.tup.mp r1
      obtain ⟨u, rfl, ru⟩ := vals1 rv
      cases ru
      exact deep _ _ p a r1 e hw
    · exact hw.elim
  · obtain ⟨v, rfl, r1⟩ := ra.one
    split at hw
    · rename_i _ p e
      cases Rp.ref.mp r1
      obtain ⟨u, rfl, ru⟩ := vals1 rv
      cases ru
      exact deep _ _ p _ r1 e hw
    · exact hw.elim
  · exact hw.elim
end
end L3

/-! rules over data, one a construct -/
namespace L3
open PySem PySem.Spec PyProof.Rows L2

/-! ### small things about the syntax -/
def noStar : Expr → Bool
  | .Starred _ _ => false
  | _ => true
theorem star_cons {env : Env} {es : List Expr} : ∀ {e : Expr}, noStar e = true → starEach (e :: es) env = (false, eval e env) :: starEach es env := by
  intro e h
  cases e <;> first | rfl | (cases h; done)
theorem star_any {env : Env} {pos : Pos} : ∀ {es : List Expr}, es.all noStar = true → (backTo pos (starEach es env)).any (·.1) = false
  | [], _ => rfl
  | e :: es, h => by
    rw [List.all_cons, Bool.and_eq_true] at h
    rw [star_cons h.1]
    exact star_any (es := es) h.2
def plainTest : Expr → Bool
  | .UnaryOp .Not _ _ => false
  | .BoolOp _ _ _ => false
  | .IfExp _ _ _ _ => false
  | .Compare _ _ _ _ => false
  | _ => true
theorem plain_true {env : Env} {e : Expr} (h : plainTest e = true) : ∀ whole, isTrue e env whole = (do let v ← whole; standAt e.pos; holding [v] (truthy v)) := by
  intro whole
  cases e <;> first | rfl | (cases h; done) | skip
  rename_i op a p
  cases op <;> first | rfl | (cases h; done)
def plainIx : Expr → Bool
  | .Slice _ _ _ _ => false
  | _ => true
theorem plain_ix {e : Expr} (h : plainIx e = true) : PlainIx e := by
  intro o i
  cases e <;> first | rfl | (cases h; done)
def noComp : Expr → Bool
  | .ListComp _ _ _ _ => false
  | .SetComp _ _ _ _ => false
  | .DictComp _ _ _ _ _ => false
  | _ => true
theorem no_swap {e : Expr} {t : Option Expr} {l : Nat} {env : Env} (h : noComp e = true) : swapsWith e t l env = pure false := by
  cases e <;> first | rfl | (cases h; done)
def noSet : Expr → Bool
  | .Set _ _ _ => false
  | _ => true
theorem no_fold {e : Expr} {env : Env} (h : noSet e = true) : ∀ x, foldedSetIterable e env x = pure x := by
  intro x
  cases e <;> first | rfl | (cases h; done)

/-! ### a def's call over data -/
structure FnG (P : Program) (w : World) (K : PySem.W.Frag) (mg : Str → Option Value) (base : Heap) (k : Nat) (f : Addr) (fd : FuncData) (ps : List Str) (sp : Sp) : Prop where
  len : ∀ vs H Q E, sp vs H Q E → vs.length = ps.length
  go : ∀ (A : Around) (outer : List Env) (s : Shared) (H : Hp) (args : Args) (us : List Value) (vs : List V) (Q : VK) (E : XK), A.guards = some [] → Room k A → Env0 P w K mg base A outer s H → Vals vs us → BindsTo s fd args (ps.zip us) →
    sp vs H Q E → codeAny (model P w) A (.call (.ref f) args) (CR (L2.CX P w) outer P w H s Q E) s
theorem run_G {X : Cx} {k : Nat} {f : Addr} {fd : FuncData} {ps : List Str} {sp : Sp} {W : WX} {pins : List (Addr × Obj)} {σ : L2.St} {H : Hp} {s : Shared} {Q : VK} {us : List Value} {vs : List V} {args : List Value} {kws : List (Str × Value)}
    (F : FnG X.prog X.w X.K X.mg X.base k f fd ps sp) (hg : X.A.guards = some []) (hr : Room k X.A) (tk : Takes X W) (I : Inv X pins σ H s) (r : Vals vs us) (hb : BindsTo s fd ⟨args, kws⟩ (ps.zip us)) (h : sp vs H Q fun c d H' => W c d σ H') :
    wpAny (model X.prog X.w) X.A (call (.ref f) args kws) (EP X pins σ Q) X.xe s := by
  refine wpAny_call (codeAny_mono (F.go X.A X.stack s H ⟨args, kws⟩ us vs Q _ hg hr I.env0 r hb h) fun res s' hq => ?_)
  match res, hq with
  | .error e, hq => exact passAt tk σ pins H s e s' I hq
  | .ok (.ret u), hq => exact I.after hq
  | .ok .next, hq => exact hq.elim
  | .ok .brk, hq => exact hq.elim
  | .ok .cont, hq => exact hq.elim
/-- what a call promises, over data -/
def SpD (G : Gd) (P : PD) (n k : Nat) : Sp := fun vs H Q E => ∃ f ds S Qd Ed, P.fns[k]? = some f ∧ vs.length = f.ps.length ∧ RS G S H ∧ Rps G H ds vs ∧ wpCall P n k ds S Qd Ed ∧ FE G H Qd Q ∧ FX G H Ed E
theorem wpCall_len {P : PD} {n k : Nat} {ds : List D} {S : Sto} {Qd : PoE} {Ed : PoX} {f : Fn} (e : P.fns[k]? = some f) (h : wpCall P n k ds S Qd Ed) : ds.length = f.ps.length := by
  cases n with
  | zero => exact h.elim
  | succ n =>
    unfold wpCall at h
    rw [e] at h
    exact h.1
theorem wpCall_some {P : PD} {n k : Nat} {ds : List D} {S : Sto} {Qd : PoE} {Ed : PoX} (h : wpCall P n k ds S Qd Ed) : ∃ f, P.fns[k]? = some f := by
  cases n with
  | zero => exact h.elim
  | succ n =>
    unfold wpCall at h
    cases e : P.fns[k]? with
    | none => rw [e] at h; exact h.elim
    | some f => exact ⟨f, rfl⟩
theorem SpD.of {G : Gd} {P : PD} {n k : Nat} {vs : List V} {H : Hp} {Q : VK} {E : XK} {ds : List D} {S : Sto} {Qd : PoE} {Ed : PoX} (rs : RS G S H) (r : Rps G H ds vs) (h : wpCall P n k ds S Qd Ed) (fe : FE G H Qd Q) (fx : FX G H Ed E) : SpD G P n k vs H Q E := by
  obtain ⟨f, e⟩ := wpCall_some h
  exact ⟨f, ds, S, Qd, Ed, e, by rw [← r.len]; exact wpCall_len e h, rs, r, h, fe, fx⟩
def lev (n : Nat) : Nat := 2 * n
structure ClsF (X : Cx) (G : Gd) (k : Nat) (x : Str) : Prop where
  gl : X.mg x = some (.ref (G.ca k))
  kp : PySem.W.keepIn X.K (.ref (G.ca k)) = true
  xc : ∃ bmB B newId initId, ExcBaseFacts B newId initId bmB ∧ PySem.W.excIn X.K (G.ca k) bmB newId = true
  sub : PySem.W.subIn X.K (.ref (G.ca k)) (.type "BaseException") = some true
  ty : PySem.W.typeIn X.K (.ref (G.ca k)) = some (.type "type")
/-- what stands behind the top -/
structure Facts (X : Cx) (G : Gd) (P : PD) (n : Nat) : Prop where
  K : X.K = G.K
  fns : ∀ k f, P.fns[k]? = some f → ∃ fd, FnG X.prog X.w X.K X.mg X.base (lev n) (G.fa k) fd f.ps (SpD G P n k) ∧ Binds X.K fd f.ps [] ∧
    (∀ q ∈ f.kw, ∀ s us ws, X.K.In s.heap → us.length = q.1 → ws.length = q.2.1.length → BindsTo s fd ⟨us, q.2.1.zip ws⟩ (f.ps.zip (pick q.2.2 (us ++ ws))))
  kp : ∀ k, PySem.W.keepIn X.K (.ref (G.fa k)) = true
  gl : ∀ k f, P.fns[k]? = some f → X.mg f.name = some (.ref (G.fa k))
  blt : ∀ x, x ∈ P.blts → X.mg x = none
  cls : ∀ k x, P.cls[k]? = some x → ClsF X G k x
  exm : ∀ i j y, P.cls[j]? = some y → PySem.W.exmOne X.K (.ref (G.ca i)) (.ref (G.ca j)) = some (P.sub i j)
theorem Facts.other {X Y : Cx} {G : Gd} {P : PD} {n : Nat} (F : Facts X G P n) (h1 : Y.prog = X.prog) (h2 : Y.w = X.w) (h3 : Y.K = X.K) (h4 : Y.mg = X.mg) (h5 : Y.base = X.base) : Facts Y G P n := by
  constructor
  · rw [h3]; exact F.K
  · rw [h1, h2, h3, h4, h5]; exact F.fns
  · rw [h3]; exact F.kp
  · rw [h4]; exact F.gl
  · rw [h4]; exact F.blt
  · intro k x e
    have h := F.cls k x e
    exact ⟨by rw [h4]; exact h.gl, by rw [h3]; exact h.kp, by rw [h3]; exact h.xc, by rw [h3]; exact h.sub, by rw [h3]; exact h.ty⟩
  · rw [h3]; exact F.exm
end L3

namespace L3
open PySem PySem.Spec PyProof.Rows L2
section
variable {X : Cx} {G : Gd} {W : WX} {a b t : Expr} {wa wb wt : WEx} {pos : Pos}
theorem q_var {i : Nat} {x : Str} {C : CallF} (hN : X.N[i]? = some x) (hv : Vis X.env.scope x) (hd : (x == ("__debug__" : Str)) = false) (hc : (x == ("__classdict__" : Str)) = false) : PE X (.Name x pos) (LE G W (wpE C (.var i))) := by
  refine ⟨fun pins s σ H Q I h => (pe_var (pos := pos) hN hv hd hc).run pins s σ H Q I ?_⟩
  obtain ⟨fr, S, Qd, Ed, rf, rs, hw, fe, fx⟩ := h
  dsimp only [wpE] at hw
  split at hw
  · rename_i d e
    obtain ⟨v, h1, h2⟩ := rf.at_ i d e
    exact ⟨v, h1, fe d S v H (TK.refl G H) rs h2 hw⟩
  · exact hw.elim
/-- a value that is there -/
theorem q_const {e : Expr} {d : D} {v : V} (h : PE X e (tC v)) (r : ∀ H, Rp G H d v) : PE X e (LE G W (fun _ S Q _ => Q d S)) := by
  refine ⟨fun pins s σ H Q I hh => h.run pins s σ H Q I ?_⟩
  obtain ⟨fr, S, Qd, Ed, rf, rs, hw, fe, fx⟩ := hh
  exact fe d S v H (TK.refl G H) rs (r H) hw
theorem q_bin {op : Operator} {w : W2} (ho : OpR X (binaryOp op) (L2o G w)) (ha : PE X a (LE G W wa)) (hb : PE X b (LE G W wb)) :
    PE X (.BinOp a op b pos) (LE G W (fun fr S Q E => wa fr S (fun x S1 => wb fr S1 (fun y S2 => w x y S2 Q) E) E)) := by
  refine ⟨fun pins s σ H Q I h => (pe_op (pos := pos) ho ha hb).run pins s σ H Q I ?_⟩
  obtain ⟨fr, S, Qd, Ed, rf, rs, hw, fe, fx⟩ := h
  exact ⟨fr, S, _, Ed, rf, rs, hw, fun d S1 v H1 k1 rs1 r1 h1 => ⟨fr, S1, _, Ed, rf.tk k1, rs1, h1, fun d2 S2 v2 H2 k2 rs2 r2 h2 => ⟨d, d2, S2, Qd, rs2, Rp.tk k2 _ _ r1, r2, h2, fe.tk (k1.trans k2)⟩, fx.tk k1⟩, fx⟩
theorem q_cmp {op : CmpOp} {w : W2} (ho : OpR X (compareOp op) (L2o G w)) (ha : PE X a (LE G W wa)) (hb : PE X b (LE G W wb)) (hm : behindInMarks op b = false) :
    PE X (.Compare a [op] [b] pos) (LE G W (fun fr S Q E => wa fr S (fun x S1 => wb fr S1 (fun y S2 => w x y S2 Q) E) E)) := by
  refine ⟨fun pins s σ H Q I h => (pe_cmpR (pos := pos) ho ha hb hm).run pins s σ H Q I ?_⟩
  obtain ⟨fr, S, Qd, Ed, rf, rs, hw, fe, fx⟩ := h
  exact ⟨fr, S, _, Ed, rf, rs, hw, fun d S1 v H1 k1 rs1 r1 h1 => ⟨fr, S1, _, Ed, rf.tk k1, rs1, h1, fun d2 S2 v2 H2 k2 rs2 r2 h2 => ⟨d, d2, S2, Qd, rs2, Rp.tk k2 _ _ r1, r2, h2, fe.tk (k1.trans k2)⟩, fx.tk k1⟩, fx⟩
theorem qt_cmp {op : CmpOp} {w : W2} (ho : OpR X (compareOp op) (L2o G w)) (ha : PE X a (LE G W wa)) (hb : PE X b (LE G W wb)) (hm : behindInMarks op b = false) :
    PT X (.Compare a [op] [b] pos) (LT G W (fun fr S Q E => wa fr S (fun x S1 => wb fr S1 (fun y S2 => w x y S2 Q) E) E)) := by
  refine ⟨fun pins s σ H Q I h => (pt_cmpR (pos := pos) ho ha hb hm).run pins s σ H Q I ?_⟩
  obtain ⟨fr, S, Qd, Ed, rf, rs, hw, fe, fx⟩ := h
  refine ⟨fr, S, _, Ed, rf, rs, hw, fun d S1 v H1 k1 rs1 r1 h1 => ⟨fr, S1, _, Ed, rf.tk k1, rs1, h1, fun d2 S2 v2 H2 k2 rs2 r2 h2 => ⟨d, d2, S2, Qd, rs2, Rp.tk k2 _ _ r1, r2, h2, fun d3 S3 v3 H3 k3 rs3 r3 h3 => ?_⟩, fx.tk k1⟩, fx⟩
  obtain ⟨c, rfl, q⟩ := fe d3 S3 H3 ((k1.trans k2).trans k3) rs3 h3
  exact ⟨c, Rp.bl.mp r3, q⟩
/-- any expression whose value is a bool, as a test -/
theorem qt_val {e : Expr} {w : WEx} (h : PE X e (LE G W w)) (hp : plainTest e = true) : PT X e (LT G W w) := by
  refine ⟨fun pins s σ H Q I hh => (pt_val h (plain_true hp)).run pins s σ H Q I ?_⟩
  obtain ⟨fr, S, Qd, Ed, rf, rs, hw, fe, fx⟩ := hh
  refine ⟨fr, S, Qd, Ed, rf, rs, hw, fun d S1 v H1 k1 rs1 r1 h1 => ?_, fx⟩
  obtain ⟨c, rfl, q⟩ := fe d S1 H1 k1 rs1 h1
  exact ⟨c, Rp.bl.mp r1, q⟩
theorem q_neg (ha : PE X a (LE G W wa)) : PE X (.UnaryOp .USub a pos) (LE G W (fun fr S Q E => wa fr S (fun x S1 => match x with
    | .int i => Q (.int (-i)) S1
    | _ => False) E)) := by
  refine ⟨fun pins s σ H Q I h => (pe_un (pos := pos) un_neg ha).run pins s σ H Q I ?_⟩
  obtain ⟨fr, S, Qd, Ed, rf, rs, hw, fe, fx⟩ := h
  refine ⟨fr, S, _, Ed, rf, rs, hw, fun d S1 v H1 k1 rs1 r1 h1 => ?_, fx⟩
  (try dsimp only at h1)
  split at h1
  · cases Rp.int.mp r1
    exact ⟨_, rfl, fe _ S1 _ H1 k1 rs1 (Rp.int.mpr rfl) h1⟩
  · exact h1.elim
theorem q_not (ha : PE X a (LE G W wa)) : PE X (.UnaryOp .Not a pos) (LE G W (fun fr S Q E => wa fr S (fun x S1 => match x with
    | .bl b => Q (.bl (!b)) S1
    | _ => False) E)) := by
  refine ⟨fun pins s σ H Q I h => (pe_not (pos := pos) ha).run pins s σ H Q I ?_⟩
  obtain ⟨fr, S, Qd, Ed, rf, rs, hw, fe, fx⟩ := h
  refine ⟨fr, S, _, Ed, rf, rs, hw, fun d S1 v H1 k1 rs1 r1 h1 => ?_, fx⟩
  (try dsimp only at h1)
  split at h1
  · cases Rp.bl.mp r1
    exact ⟨_, rfl, fe _ S1 _ H1 k1 rs1 (Rp.bl.mpr rfl) h1⟩
  · exact h1.elim
theorem qt_not (ha : PT X a (LT G W wa)) : PT X (.UnaryOp .Not a pos) (LT G W (fun fr S Q E => wa fr S (fun x S1 => match x with
    | .bl b => Q (.bl (!b)) S1
    | _ => False) E)) := by
  refine ⟨fun pins s σ H Q I h => (pt_not (pos := pos) ha).run pins s σ H Q I ?_⟩
  obtain ⟨fr, S, Qd, Ed, rf, rs, hw, fe, fx⟩ := h
  refine ⟨fr, S, _, Ed, rf, rs, hw, fun d S1 H1 k1 rs1 h1 => ?_, fx⟩
  (try dsimp only at h1)
  split at h1
  · rename_i c
    obtain ⟨c', e, q⟩ := fe _ S1 H1 k1 rs1 h1
    cases e
    exact ⟨c, rfl, q⟩
  · exact h1.elim
theorem q_ite (ht : PT X t (LT G W wt)) (ha : PE X a (LE G W wa)) (hb : PE X b (LE G W wb)) : PE X (.IfExp t a b pos) (LE G W (fun fr S Q E => wt fr S (fun x S1 => match x with
    | .bl true => wa fr S1 Q E
    | .bl false => wb fr S1 Q E
    | _ => False) E)) := by
  refine ⟨fun pins s σ H Q I h => (pe_ifExp (pos := pos) ht ha hb).run pins s σ H Q I ?_⟩
  obtain ⟨fr, S, Qd, Ed, rf, rs, hw, fe, fx⟩ := h
  refine ⟨fr, S, _, Ed, rf, rs, hw, fun d S1 H1 k1 rs1 h1 => ?_, fx⟩
  (try dsimp only at h1)
  split at h1
  · exact ⟨true, rfl, iteT ⟨fr, S1, Qd, Ed, rf.tk k1, rs1, h1, fe.tk k1, fx.tk k1⟩⟩
  · exact ⟨false, rfl, iteF ⟨fr, S1, Qd, Ed, rf.tk k1, rs1, h1, fe.tk k1, fx.tk k1⟩⟩
  · exact h1.elim
/-! ### and, or -/
theorem q_one {op : BoolOp} (ha : PE X a (LE G W wa)) : PE X (.BoolOp op [a] pos) (LE G W wa) := pe_one ha
theorem q_and {rest : List Expr} (ha : PE X a (LE G W wa)) (hb : PE X (.BoolOp .And (b :: rest) pos) (LE G W wb)) : PE X (.BoolOp .And (a :: b :: rest) pos) (LE G W (fun fr S Q E => wa fr S (fun x S1 => match x with
      | .bl true => wb fr S1 Q E
      | .bl false => Q (.bl false) S1
      | _ => False) E)) := by
  refine ⟨fun pins s σ H Q I h => (pe_and ha hb).run pins s σ H Q I ?_⟩
  obtain ⟨fr, S, Qd, Ed, rf, rs, hw, fe, fx⟩ := h
  refine ⟨fr, S, _, Ed, rf, rs, hw, fun d S1 v H1 k1 rs1 r1 h1 => ?_, fx⟩
  (try dsimp only at h1)
  split at h1
  · cases Rp.bl.mp r1
    exact ⟨true, rfl, iteT ⟨fr, S1, Qd, Ed, rf.tk k1, rs1, h1, fe.tk k1, fx.tk k1⟩⟩
  · cases Rp.bl.mp r1
    exact ⟨false, rfl, iteF (fe _ S1 _ H1 k1 rs1 (Rp.bl.mpr rfl) h1)⟩
  · exact h1.elim
theorem q_or {rest : List Expr} (ha : PE X a (LE G W wa)) (hb : PE X (.BoolOp .Or (b :: rest) pos) (LE G W wb)) : PE X (.BoolOp .Or (a :: b :: rest) pos) (LE G W (fun fr S Q E => wa fr S (fun x S1 => match x with
      | .bl true => Q (.bl true) S1
      | .bl false => wb fr S1 Q E
      | _ => False) E)) := by
  refine ⟨fun pins s σ H Q I h => (pe_or ha hb).run pins s σ H Q I ?_⟩
  obtain ⟨fr, S, Qd, Ed, rf, rs, hw, fe, fx⟩ := h
  refine ⟨fr, S, _, Ed, rf, rs, hw, fun d S1 v H1 k1 rs1 r1 h1 => ?_, fx⟩
  (try dsimp only at h1)
  split at h1
  · cases Rp.bl.mp r1
    exact ⟨true, rfl, iteT (fe _ S1 _ H1 k1 rs1 (Rp.bl.mpr rfl) h1)⟩
  · cases Rp.bl.mp r1
    exact ⟨false, rfl, iteF ⟨fr, S1, Qd, Ed, rf.tk k1, rs1, h1, fe.tk k1, fx.tk k1⟩⟩
  · exact h1.elim
theorem qw_and {rest : List Expr} (ha : PT X a (LT G W wa)) (hb : PW X (.BoolOp .And (b :: rest) pos) (LT G W wb)) : PW X (.BoolOp .And (a :: b :: rest) pos) (LT G W (fun fr S Q E => wa fr S (fun x S1 => match x with
      | .bl true => wb fr S1 Q E
      | .bl false => Q (.bl false) S1
      | _ => False) E)) := by
  refine ⟨fun wh pins s σ H Q I h => (pw_and ha hb).run wh pins s σ H Q I ?_⟩
  obtain ⟨fr, S, Qd, Ed, rf, rs, hw, fe, fx⟩ := h
  refine ⟨fr, S, _, Ed, rf, rs, hw, fun d S1 H1 k1 rs1 h1 => ?_, fx⟩
  (try dsimp only at h1)
  split at h1
  · exact ⟨true, rfl, iteT ⟨fr, S1, Qd, Ed, rf.tk k1, rs1, h1, fun d' S' H' k' => fe d' S' H' (k1.trans k'), fx.tk k1⟩⟩
  · obtain ⟨c, e, q⟩ := fe _ S1 H1 k1 rs1 h1
    cases e
    exact ⟨false, rfl, iteF q⟩
  · exact h1.elim
theorem qw_or {rest : List Expr} (ha : PT X a (LT G W wa)) (hb : PW X (.BoolOp .Or (b :: rest) pos) (LT G W wb)) : PW X (.BoolOp .Or (a :: b :: rest) pos) (LT G W (fun fr S Q E => wa fr S (fun x S1 => match x with
      | .bl true => Q (.bl true) S1
      | .bl false => wb fr S1 Q E
      | _ => False) E)) := by
  refine ⟨fun wh pins s σ H Q I h => (pw_or ha hb).run wh pins s σ H Q I ?_⟩
  obtain ⟨fr, S, Qd, Ed, rf, rs, hw, fe, fx⟩ := h
  refine ⟨fr, S, _, Ed, rf, rs, hw, fun d S1 H1 k1 rs1 h1 => ?_, fx⟩
  (try dsimp only at h1)
  split at h1
  · obtain ⟨c, e, q⟩ := fe _ S1 H1 k1 rs1 h1
    cases e
    exact ⟨true, rfl, iteT q⟩
  · exact ⟨false, rfl, iteF ⟨fr, S1, Qd, Ed, rf.tk k1, rs1, h1, fun d' S' H' k' => fe d' S' H' (k1.trans k'), fx.tk k1⟩⟩
  · exact h1.elim
/-! ### argument lists, displays -/
theorem q_nil : PA X [] (LA G W (fun _ S Q _ => Q [] S)) := by
  refine ⟨fun pos pins s σ H Q I h => pa_nil.run pos pins s σ H Q I ?_⟩
  obtain ⟨fr, S, Qd, Ed, rf, rs, hw, fa, fx⟩ := h
  exact fa [] S [] H (TK.refl G H) rs Rps.mk0 hw
theorem q_cons {es : List Expr} {ws : WLs} (ha : PE X a (LE G W wa)) (hr : PA X es (LA G W ws)) (hs : noStar a = true) : PA X (a :: es) (LA G W (fun fr S Q E => wa fr S (fun d S1 => ws fr S1 (fun ds S2 => Q (d :: ds) S2) E) E)) := by
  refine ⟨fun pos pins s σ H Q I h => (pa_cons ha hr (star_cons hs)).run pos pins s σ H Q I ?_⟩
  obtain ⟨fr, S, Qd, Ed, rf, rs, hw, fa, fx⟩ := h
  exact ⟨fr, S, _, Ed, rf, rs, hw, fun d S1 v H1 k1 rs1 r1 h1 => ⟨fr, S1, _, Ed, rf.tk k1, rs1, h1, fun ds S2 vs H2 k2 rs2 r2 h2 => fa (d :: ds) S2 (v :: vs) H2 (k1.trans k2) rs2 (Rps.mk (Rp.tk k2 _ _ r1) r2) h2, fx.tk k1⟩, fx⟩
theorem q_tup {es : List Expr} {ws : WLs} {x1 : Nat} (h : PA X es (LA G W ws)) :
    PE X (.Tuple es x1 pos) (LE G W (fun fr S Q E => ws fr S (fun ds S1 => ds.length ≤ 1000 ∧ Q (.tup ds) S1) E)) := by
  refine ⟨fun pins s σ H Q I hh => (pe_tup (pos := pos) h).run pins s σ H Q I ?_⟩
  obtain ⟨fr, S, Qd, Ed, rf, rs, hw, fe, fx⟩ := hh
  refine ⟨fr, S, _, Ed, rf, rs, hw, fun ds S1 vs H1 k1 rs1 r1 h1 => ⟨?_, fun p hp => ?_⟩, fx⟩
  · rw [← r1.len]
    exact line_ok (by have := h1.1; unfold Line; omega)
  · exact fe _ S1 _ _ (k1.trans (TK.new hp)) (rs1.lay hp) (Rp.tup.mpr ⟨p, vs, rfl, SqT.of upd_same, Rps.tk (TK.new hp) _ _ r1⟩) h1.2
theorem q_lst {es : List Expr} {ws : WLs} (h : PA X es (LA G W ws)) :
    PE X (.List es pos) (LE G W (fun fr S Q E => ws fr S (fun ds S1 => ds.length ≤ 1000 ∧ ∀ p, S1 p = none → Q (.ref p) (S1.set p (.lst ds))) E)) := by
  refine ⟨fun pins s σ H Q I hh => (pe_lst (pos := pos) h).run pins s σ H Q I ?_⟩
  obtain ⟨fr, S, Qd, Ed, rf, rs, hw, fe, fx⟩ := hh
  refine ⟨fr, S, _, Ed, rf, rs, hw, fun ds S1 vs H1 k1 rs1 r1 h1 => ⟨?_, fun p hp => ?_⟩, fx⟩
  · rw [← r1.len]
    exact line_ok (by have := h1.1; unfold Line; omega)
  · exact fe _ _ _ _ (k1.trans (TK.new hp)) (rs1.newList hp r1) (Rp.ref.mpr rfl) (h1.2 p (rs1.none hp))
theorem q_idx {w : W2} (hr : IxR X (L2o G w)) (ha : PE X a (LE G W wa)) (hb : PE X b (LE G W wb)) (hs : plainIx b = true) :
    PE X (.Subscript a b pos) (LE G W (fun fr S Q E => wa fr S (fun x S1 => wb fr S1 (fun y S2 => w x y S2 Q) E) E)) := by
  refine ⟨fun pins s σ H Q I h => (pe_ix (pos := pos) hr ha hb (plain_ix hs)).run pins s σ H Q I ?_⟩
  obtain ⟨fr, S, Qd, Ed, rf, rs, hw, fe, fx⟩ := h
  exact ⟨fr, S, _, Ed, rf, rs, hw, fun d S1 v H1 k1 rs1 r1 h1 => ⟨fr, S1, _, Ed, rf.tk k1, rs1, h1, fun d2 S2 v2 H2 k2 rs2 r2 h2 => ⟨d, d2, S2, Qd, rs2, Rp.tk k2 _ _ r1, r2, h2, fe.tk (k1.trans k2)⟩, fx.tk k1⟩, fx⟩
/-! ### calls -/
theorem q_callW {p : Pos} {e : Expr} {es : List Expr} {ws : WLs} {x : Str} {C : List D → Sto → PoE → PoX → Prop} {u : Value}
    (he : ∀ (pins : List (Addr × Obj)) (s : Shared) (σ : L2.St) (H : Hp) (Q : Value → Shared → Prop), Inv X pins σ H s → Q u s → wpAny (model X.prog X.w) X.A (eval (.Name x p) X.env) Q X.xe s)
    (hk : PySem.W.keepIn X.K u = true) (ha : PA X (e :: es) (LA G W ws)) (hs : noStar e = true) (hs2 : es.all noStar = true)
    (hrun : ∀ (pins : List (Addr × Obj)) (s : Shared) (σ : L2.St) (H : Hp) (Q : VK) (us : List Value) (vs : List V) (ds : List D) (S : Sto) (Qd : PoE) (Ed : PoX), Inv X pins σ H s → Vals vs us → RS G S H → Rps G H ds vs → C ds S Qd Ed → FE G H Qd Q → FX G H Ed (fun c d H' => W c d σ H') →
      wpAny (model X.prog X.w) X.A (PySem.call u us) (EP X pins σ Q) X.xe s) :
    PE X (.Call (.Name x p) (e :: es) [] pos) (LE G W (fun fr S Q E => ws fr S (fun ds S1 => C ds S1 Q E) E)) := by
  refine ⟨fun pins s σ H Q I h => ?_⟩
  obtain ⟨fr, S, Qd, Ed, rf, rs, hw, fe, fx⟩ := h
  refine wpAny_Call_Name_kw (he pins s σ H _ I ?_)
  refine PySem.W.callWith_K (h₀ := X.base) I.ok.mod.kin hk (thn (ha.run pos pins s σ H (fun vs H1 => ∃ ds S1, TK G H H1 ∧ RS G S1 H1 ∧ Rps G H1 ds vs ∧ C ds S1 Qd Ed) I ⟨fr, S, _, Ed, rf, rs, hw, fun ds S1 vs H1 k1 rs1 r1 h1 => ⟨ds, S1, k1, rs1, r1, h1⟩, fx⟩) fun us s1 hq => ?_) (star_cons hs) (star_any hs2)
  obtain ⟨vs, H1, I1, rv, ds, S1, k1, rs1, r1, h1⟩ := hq
  exact ⟨I1.kIn, hrun pins s1 σ H1 Q us vs ds S1 Qd Ed I1 rv rs1 r1 h1 (fe.tk k1) (fx.tk k1)⟩
theorem q_callW0 {p : Pos} {x : Str} {C : List D → Sto → PoE → PoX → Prop} {u : Value}
    (he : ∀ (pins : List (Addr × Obj)) (s : Shared) (σ : L2.St) (H : Hp) (Q : Value → Shared → Prop), Inv X pins σ H s → Q u s → wpAny (model X.prog X.w) X.A (eval (.Name x p) X.env) Q X.xe s)
    (hk : PySem.W.keepIn X.K u = true)
    (hrun : ∀ (pins : List (Addr × Obj)) (s : Shared) (σ : L2.St) (H : Hp) (Q : VK) (us : List Value) (vs : List V) (ds : List D) (S : Sto) (Qd : PoE) (Ed : PoX), Inv X pins σ H s → Vals vs us → RS G S H → Rps G H ds vs → C ds S Qd Ed → FE G H Qd Q → FX G H Ed (fun c d H' => W c d σ H') →
      wpAny (model X.prog X.w) X.A (PySem.call u us) (EP X pins σ Q) X.xe s) :
    PE X (.Call (.Name x p) [] [] pos) (LE G W (fun fr S Q E => C [] S Q E)) := by
  refine ⟨fun pins s σ H Q I h => ?_⟩
  obtain ⟨fr, S, Qd, Ed, rf, rs, hw, fe, fx⟩ := h
  refine wpAny_Call_Name_kw (he pins s σ H _ I ?_)
  exact PySem.W.callWith_K0 I.kIn hk (hrun pins s σ H Q [] [] [] S Qd Ed I .nil rs Rps.mk0 hw fe fx)
/-- what the run of a def asks -/
theorem run_D {P : PD} {n k : Nat} {f : Fn} (F : Facts X G P n) (e : P.fns[k]? = some f) (hg : X.A.guards = some []) (hr : Room (lev n) X.A) (tk : Takes X W)
    (pins : List (Addr × Obj)) (s : Shared) (σ : L2.St) (H : Hp) (Q : VK) (us : List Value) (vs : List V) (ds : List D) (S : Sto) (Qd : PoE) (Ed : PoX) (I : Inv X pins σ H s) (rv : Vals vs us) (rs : RS G S H) (r : Rps G H ds vs)
    (h : wpCall P n k ds S Qd Ed) (fe : FE G H Qd Q) (fx : FX G H Ed (fun c d H' => W c d σ H')) : wpAny (model X.prog X.w) X.A (PySem.call (.ref (G.fa k)) us) (EP X pins σ Q) X.xe s := by
  obtain ⟨fd, Fn, hb, _⟩ := F.fns k f e
  have sp := SpD.of rs r h fe fx
  have hl : us.length = f.ps.length := by rw [← rv.length]; exact Fn.len _ _ _ _ sp
  have b := hb s us I.kIn (by rw [List.append_nil]; exact hl)
  rw [List.append_nil] at b
  exact run_G Fn hg hr tk I rv b sp
theorem q_call {P : PD} {n k : Nat} {f : Fn} {p : Pos} {e : Expr} {es : List Expr} {ws : WLs} (F : Facts X G P n) (ef : P.fns[k]? = some f) (hg : X.A.guards = some []) (hr : Room (lev n) X.A) (tk : Takes X W) (gl : Gl X f.name) (hd : (f.name == ("__debug__" : Str)) = false)
    (ha : PA X (e :: es) (LA G W ws)) (hs : noStar e = true) (hs2 : es.all noStar = true) :
    PE X (.Call (.Name f.name p) (e :: es) [] pos) (LE G W (fun fr S Q E => ws fr S (fun ds S1 => wpCall P n k ds S1 Q E) E)) :=
  q_callW (fun pins s σ H Q I q => ld_glob I gl (F.gl k f ef) q hd) (F.kp k) ha hs hs2 (run_D F ef hg hr tk)
theorem q_call0 {P : PD} {n k : Nat} {f : Fn} {p : Pos} (F : Facts X G P n) (ef : P.fns[k]? = some f) (hg : X.A.guards = some []) (hr : Room (lev n) X.A) (tk : Takes X W) (gl : Gl X f.name) (hd : (f.name == ("__debug__" : Str)) = false) :
    PE X (.Call (.Name f.name p) [] [] pos) (LE G W (fun fr S Q E => wpCall P n k [] S Q E)) :=
  q_callW0 (fun pins s σ H Q I q => ld_glob I gl (F.gl k f ef) q hd) (F.kp k) (run_D F ef hg hr tk)
/-- a local name that holds a def -/
theorem q_callv {P : PD} {n i : Nat} {p : Pos} {e : Expr} {es : List Expr} {ws : WLs} {x : Str} (F : Facts X G P n) (hg : X.A.guards = some []) (hr : Room (lev n) X.A) (tk : Takes X W) (hN : X.N[i]? = some x) (hv : Vis X.env.scope x)
    (hd : (x == ("__debug__" : Str)) = false) (hc : (x == ("__classdict__" : Str)) = false) (ha : PA X (e :: es) (LA G W ws)) (hs : noStar e = true) (hs2 : es.all noStar = true) :
    PE X (.Call (.Name x p) (e :: es) [] pos) (LE G W (fun fr S Q E => match fr[i]? with
      | some (some (.fn k)) => ws fr S (fun ds S1 => wpCall P n k ds S1 Q E) E
      | _ => False)) := by
  refine ⟨fun pins s σ H Q I h => ?_⟩
  obtain ⟨fr, S, Qd, Ed, rf, rs, hw, fe, fx⟩ := h
  (try dsimp only at hw)
  split at hw
  · rename_i k ek
    obtain ⟨v, h1, h2⟩ := rf.at_ i _ ek
    cases Rp.fn.mp h2
    refine wpAny_Call_Name_kw (thn ((pe_var (pos := p) hN hv hd hc).run pins s σ H (fun w H1 => w = .ref (G.fa k) ∧ H1 = H) I ⟨_, h1, rfl, rfl⟩) fun u s1 hq => ?_)
    obtain ⟨w, H1, I1, r1, rfl, rfl⟩ := hq
    cases r1
    refine PySem.W.callWith_K (h₀ := X.base) I1.ok.mod.kin (F.kp k) (thn (ha.run pos pins s1 σ _ (fun vs H2 => ∃ ds S1, TK G _ H2 ∧ RS G S1 H2 ∧ Rps G H2 ds vs ∧ wpCall P n k ds S1 Qd Ed) I1 ⟨fr, S, _, Ed, rf, rs, hw, fun ds S1 vs H2 k1 rs1 r1 h1 => ⟨ds, S1, k1, rs1, r1, h1⟩, fx⟩) fun us s2 hq => ?_) (star_cons hs) (star_any hs2)
    obtain ⟨vs, H2, I2, rv, ds, S1, k1, rs1, r1, h1⟩ := hq
    obtain ⟨f, ef⟩ := wpCall_some h1
    exact ⟨I2.kIn, run_D F ef hg hr tk pins s2 σ H2 Q us vs ds S1 Qd Ed I2 rv rs1 r1 h1 (fe.tk k1) (fx.tk k1)⟩
  · exact hw.elim
end
end L3

namespace L3
open PySem PySem.Spec PyProof.Rows L2
section
variable {X : Cx} {G : Gd} {W : WX} {a b t : Expr} {wa wb wt : WEx} {pos : Pos}
/-! ### keywords -/
theorem q_knil : PK X [] (LA G W (fun _ S Q _ => Q [] S)) := by
  refine ⟨fun pos pins s σ H Q I h => pk_nil.run pos pins s σ H Q I ?_⟩
  obtain ⟨fr, S, Qd, Ed, rf, rs, hw, fa, fx⟩ := h
  exact fa [] S [] H (TK.refl G H) rs Rps.mk0 hw
theorem q_kcons {kws : List Keyword} {ws : WLs} {nm : Option Str} {kp : Pos} (ha : PE X a (LE G W wa)) (hr : PK X kws (LA G W ws)) : PK X (⟨nm, a, kp⟩ :: kws) (LA G W (fun fr S Q E => wa fr S (fun d S1 => ws fr S1 (fun ds S2 => Q (d :: ds) S2) E) E)) := by
  refine ⟨fun pos pins s σ H Q I h => (pk_cons ha hr).run pos pins s σ H Q I ?_⟩
  obtain ⟨fr, S, Qd, Ed, rf, rs, hw, fa, fx⟩ := h
  exact ⟨fr, S, _, Ed, rf, rs, hw, fun d S1 v H1 k1 rs1 r1 h1 => ⟨fr, S1, _, Ed, rf.tk k1, rs1, h1, fun ds S2 vs H2 k2 rs2 r2 h2 => fa (d :: ds) S2 (v :: vs) H2 (k1.trans k2) rs2 (Rps.mk (Rp.tk k2 _ _ r1) r2) h2, fx.tk k1⟩, fx⟩
theorem kw_names {env : Env} : ∀ {kws : List Keyword} {nm : List Str}, kws.map (·.arg) = nm.map some →
    (backToKw pos (keywordEach kws env)).all (·.1.isSome) = true ∧ (backToKw pos (keywordEach kws env)).filterMap (·.1) = nm ∧ (backToKw pos (keywordEach kws env)).any (·.1.isNone) = false
  | [], [], _ => ⟨rfl, rfl, rfl⟩
  | [], _ :: _, h => by cases h
  | _ :: _, [], h => by cases h
  | ⟨n, e, p⟩ :: kws, x :: nm, h => by
    injection h with h1 h2
    have h1 : n = some x := h1
    subst h1
    obtain ⟨i1, i2, i3⟩ := kw_names (env := env) h2
    exact ⟨i1, by show x :: (backToKw pos (keywordEach kws env)).filterMap (·.1) = x :: nm; rw [i2], i3⟩
theorem kw_len : ∀ {kws : List Keyword} {nm : List Str}, kws.map (·.arg) = nm.map some → kws.length = nm.length := fun {kws nm} h => by
  have := congrArg List.length h
  simpa using this
theorem Vals.pick {xs : List V} {us : List Value} (r : Vals xs us) : ∀ pt : List Nat, Vals (L3.pick pt xs) (L3.pick pt us)
  | [] => .nil
  | j :: pt => by
    have ih := Vals.pick r pt
    unfold L3.pick at ih ⊢
    rw [List.filterMap_cons, List.filterMap_cons]
    cases e : xs[j]? with
    | none => rw [r.none_of e]; exact ih
    | some x =>
      obtain ⟨u, hu, ru⟩ := r.get e
      rw [hu]
      exact .cons ru ih
theorem Rps.none_of {H : Hp} {ds : List D} {vs : List V} {i : Nat} (r : Rps G H ds vs) (e : ds[i]? = none) : vs[i]? = none := by
  rw [List.getElem?_eq_none_iff] at e ⊢
  rw [← r.len]
  exact e
theorem Rps.pick {H : Hp} {ds : List D} {vs : List V} (r : Rps G H ds vs) : ∀ pt : List Nat, Rps G H (L3.pick pt ds) (L3.pick pt vs)
  | [] => Rps.mk0
  | j :: pt => by
    have ih := Rps.pick r pt
    unfold L3.pick at ih ⊢
    rw [List.filterMap_cons, List.filterMap_cons]
    cases e : ds[j]? with
    | none => rw [r.none_of e]; exact ih
    | some x =>
      obtain ⟨u, hu, ru⟩ := r.get e
      rw [hu]
      exact Rps.mk ru ih
theorem run_K {P : PD} {n k : Nat} {f : Fn} {m : Nat} {nm : List Str} {pt : List Nat} (F : Facts X G P n) (ef : P.fns[k]? = some f) (hg : X.A.guards = some []) (hr : Room (lev n) X.A) (tk : Takes X W) (hm : (m, nm, pt) ∈ f.kw)
    {pins : List (Addr × Obj)} {s : Shared} {σ : L2.St} {H : Hp} {Q : VK} {us ws : List Value} {vs zs : List V} {ds es : List D} {S : Sto} {Qd : PoE} {Ed : PoX} (I : Inv X pins σ H s) (rv : Vals vs us) (rz : Vals zs ws) (l1 : us.length = m) (l2 : ws.length = nm.length)
    (rs : RS G S H) (r : Rps G H ds vs) (r' : Rps G H es zs) (h : wpCall P n k (pick pt (ds ++ es)) S Qd Ed) (fe : FE G H Qd Q) (fx : FX G H Ed (fun c d H' => W c d σ H')) : wpAny (model X.prog X.w) X.A (PySem.call (.ref (G.fa k)) us (nm.zip ws)) (EP X pins σ Q) X.xe s := by
  obtain ⟨fd, Fn, _, hb⟩ := F.fns k f ef
  exact run_G Fn hg hr tk I (Vals.pick (rv.append rz) pt) (hb _ hm s us ws I.kIn l1 l2) (SpD.of rs (Rps.pick (r.append r') pt) h fe fx)
theorem star_len {env : Env} : ∀ es : List Expr, (starEach es env).length = es.length
  | [] => rfl
  | e :: es => by
    have ih := star_len (env := env) es
    cases e <;> first
      | (show (starEach es env).length + 1 = es.length + 1; rw [ih])
/-- f(e, .., k = v, ..) -/
theorem q_callk {P : PD} {n k : Nat} {f : Fn} {p : Pos} {nm : List Str} {pt : List Nat} {e : Expr} {es : List Expr} {kws : List Keyword} {ws wk : WLs} (F : Facts X G P n) (ef : P.fns[k]? = some f) (hg : X.A.guards = some []) (hr : Room (lev n) X.A) (tk : Takes X W)
    (gl : Gl X f.name) (hd : (f.name == ("__debug__" : Str)) = false) (hm : ((e :: es).length, nm, pt) ∈ f.kw) (hn : kws.map (·.arg) = nm.map some) (ha : PA X (e :: es) (LA G W ws)) (hs : noStar e = true) (hs2 : es.all noStar = true) (hkw : PK X kws (LA G W wk)){m : Nat} (el : m = (e :: es).length) :
    PE X (.Call (.Name f.name p) (e :: es) kws pos) (LE G W (fun fr S Q E => ws fr S (fun ds S1 => wk fr S1 (fun zs S2 => (ds.length = m ∧ zs.length = nm.length) ∧ wpCall P n k (pick pt (ds ++ zs)) S2 Q E) E) E)) := by
  refine ⟨fun pins s σ H Q I h => ?_⟩
  obtain ⟨fr, S, Qd, Ed, rf, rs, hw, fe, fx⟩ := h
  obtain ⟨k1, k2, k3⟩ := kw_names (pos := pos) (env := X.env) hn
  refine wpAny_Call_Name_kw (ld_glob I gl (F.gl k f ef) ?_ hd)
  refine PySem.W.callWith_KW (h₀ := X.base) I.ok.mod.kin (F.kp k) k1 (thn (ha.run pos pins s σ H (fun vs H1 => ∃ ds S1, TK G H H1 ∧ RS G S1 H1 ∧ Rps G H1 ds vs ∧ wk fr S1 (fun zs S2 => (ds.length = m ∧ zs.length = nm.length) ∧ wpCall P n k (pick pt (ds ++ zs)) S2 Qd Ed) Ed) I
      ⟨fr, S, _, Ed, rf, rs, hw, fun ds S1 vs H1 k1 rs1 r1 h1 => ⟨ds, S1, k1, rs1, r1, h1⟩, fx⟩) fun us s1 hq => ?_) (by rw [k3, star_cons hs]; show ((false || (backTo pos (starEach es X.env)).any (·.1)) || false) = false; rw [star_any hs2]; rfl) (star_cons hs)
  obtain ⟨vs, H1, I1, rv, ds, S1, t1, rs1, r1, h1⟩ := hq
  refine thn (hkw.run pos pins s1 σ H1 (fun zs H2 => ∃ es' S2, TK G H1 H2 ∧ RS G S2 H2 ∧ Rps G H2 es' zs ∧ (ds.length = m ∧ es'.length = nm.length) ∧ wpCall P n k (pick pt (ds ++ es')) S2 Qd Ed) I1 ⟨fr, S1, _, Ed, rf.tk t1, rs1, h1, fun es' S2 zs H2 k2 rs2 r2 h2 => ⟨es', S2, k2, rs2, r2, h2.1, h2.2⟩, fx.tk t1⟩) fun vz s2 hq => ?_
  obtain ⟨zs, H2, I2, rz, es', S2, t2, rs2, r2, ⟨q1, q2⟩, h2⟩ := hq
  rw [k2]
  exact ⟨I2.kIn, run_K F ef hg hr tk hm I2 rv rz (by show us.length = _; rw [← rv.length, ← r1.len, q1, el]) (by rw [← rz.length, ← r2.len, q2]) rs2 (Rps.tk t2 _ _ r1) r2 h2 (fe.tk (t1.trans t2)) (fx.tk (t1.trans t2))⟩
theorem q_callk0 {P : PD} {n k : Nat} {f : Fn} {p : Pos} {nm : List Str} {pt : List Nat} {kws : List Keyword} {wk : WLs} (F : Facts X G P n) (ef : P.fns[k]? = some f) (hg : X.A.guards = some []) (hr : Room (lev n) X.A) (tk : Takes X W)
    (gl : Gl X f.name) (hd : (f.name == ("__debug__" : Str)) = false) (hm : (0, nm, pt) ∈ f.kw) (hn : kws.map (·.arg) = nm.map some) (hkw : PK X kws (LA G W wk)) :
    PE X (.Call (.Name f.name p) [] kws pos) (LE G W (fun fr S Q E => wk fr S (fun zs S2 => (([] : List D).length = 0 ∧ zs.length = nm.length) ∧ wpCall P n k (pick pt ([] ++ zs)) S2 Q E) E)) := by
  refine ⟨fun pins s σ H Q I h => ?_⟩
  obtain ⟨fr, S, Qd, Ed, rf, rs, hw, fe, fx⟩ := h
  obtain ⟨k1, k2, k3⟩ := kw_names (pos := pos) (env := X.env) hn
  refine wpAny_Call_Name_kw (ld_glob I gl (F.gl k f ef) ?_ hd)
  refine PySem.W.callWith_KW0 (h₀ := X.base) I.ok.mod.kin (F.kp k) k1 (thn (hkw.run pos pins s σ H (fun zs H2 => ∃ es' S2, TK G H H2 ∧ RS G S2 H2 ∧ Rps G H2 es' zs ∧ es'.length = nm.length ∧ wpCall P n k (pick pt ([] ++ es')) S2 Qd Ed) I
      ⟨fr, S, _, Ed, rf, rs, hw, fun es' S2 zs H2 k2 rs2 r2 h2 => ⟨es', S2, k2, rs2, r2, h2.1.2, h2.2⟩, fx⟩) fun vz s2 hq => ?_) (by rw [k3]; rfl)
  obtain ⟨zs, H2, I2, rz, es', S2, t2, rs2, r2, q2, h2⟩ := hq
  rw [k2]
  exact ⟨I2.kIn, run_K F ef hg hr tk hm I2 .nil rz rfl (by rw [← rz.length, ← r2.len, q2]) rs2 Rps.mk0 r2 h2 (fe.tk t2) (fx.tk t2)⟩
/-! ### built-in functions -/
theorem q_bltn {id : String} {w : WB} {x : Str} {p : Pos} {e : Expr} {es : List Expr} {ws : WLs} (hc : CallR X (.builtin id) (LBo G w)) (hg : Gl X x) (hm : X.mg x = none) (hv : bootBuiltins x = some (.builtin id)) (ha : PA X (e :: es) (LA G W ws)) (hs : noStar e = true) (hs2 : es.all noStar = true)
    (hn : x ≠ "__name__") (hd : (x == ("__debug__" : Str)) = false) : PE X (.Call (.Name x p) (e :: es) [] pos) (LE G W (fun fr S Q E => ws fr S (fun ds S1 => w ds S1 Q) E)) := by
  refine ⟨fun pins s σ H Q I h => (pe_callB (pos := pos) (p := p) hc hg hm hv ha hn hd (star_cons hs) (star_any hs2)).run pins s σ H Q I ?_⟩
  obtain ⟨fr, S, Qd, Ed, rf, rs, hw, fe, fx⟩ := h
  exact ⟨fr, S, _, Ed, rf, rs, hw, fun ds S1 vs H1 k1 rs1 r1 h1 => ⟨ds, S1, Qd, rs1, r1, h1, fe.tk k1⟩, fx⟩
theorem q_bltt {id : String} {w : WB} {x : Str} {p : Pos} {e : Expr} {es : List Expr} {ws : WLs} (hc : CallR X (.type id) (LBo G w)) (hg : Gl X x) (hm : X.mg x = none) (hv : bootBuiltins x = some (.type id)) (ha : PA X (e :: es) (LA G W ws)) (hs : noStar e = true) (hs2 : es.all noStar = true)
    (hn : x ≠ "__name__") (hd : (x == ("__debug__" : Str)) = false) : PE X (.Call (.Name x p) (e :: es) [] pos) (LE G W (fun fr S Q E => ws fr S (fun ds S1 => w ds S1 Q) E)) := by
  refine ⟨fun pins s σ H Q I h => (pe_callTy (pos := pos) (p := p) hc hg hm hv ha hn hd (star_cons hs) (star_any hs2)).run pins s σ H Q I ?_⟩
  obtain ⟨fr, S, Qd, Ed, rf, rs, hw, fe, fx⟩ := h
  exact ⟨fr, S, _, Ed, rf, rs, hw, fun ds S1 vs H1 k1 rs1 r1 h1 => ⟨ds, S1, Qd, rs1, r1, h1, fe.tk k1⟩, fx⟩
/-! ### f-strings -/
theorem q_fmt {e : Expr} {p : Pos} (h : PE X e (LE G W wa)) : PE X (.FormattedValue e (-1) none p) (LE G W (fun fr S Q E => wa fr S (fun x S1 => match x with
    | .str y => Line y.length ∧ Q (.str y) S1
    | .int i => i.natAbs < 2 ^ 1900 ∧ Q (.str (toString i)) S1
    | _ => False) E)) := by
  refine ⟨fun pins s σ H Q I hh => (pe_fmt (pos := p) h).run pins s σ H Q I ?_⟩
  obtain ⟨fr, S, Qd, Ed, rf, rs, hw, fe, fx⟩ := hh
  refine ⟨fr, S, _, Ed, rf, rs, hw, fun d S1 v H1 k1 rs1 r1 h1 => ?_, fx⟩
  (try dsimp only at h1)
  split at h1
  · cases Rp.str.mp r1
    exact .inl ⟨_, rfl, line_ok h1.1, fe _ S1 _ H1 k1 rs1 (Rp.str.mpr rfl) h1.2⟩
  · cases Rp.int.mp r1
    exact .inr ⟨_, rfl, small_log h1.1, fe _ S1 _ H1 k1 rs1 (Rp.str.mpr rfl) h1.2⟩
  · exact h1.elim
/-- the parts' end -/
def LJ (G : Gd) (W : WX) (w : Str → Fr → Sto → (Str → Sto → Prop) → PoX → Prop) (ts : List TE) : Prop := ∀ (acc : Str) (σ : L2.St) (H : Hp) (Q : Str → Hp → Prop),
  (∃ fr S Qd Ed, RF G H fr σ ∧ RS G S H ∧ w acc fr S Qd Ed ∧ (∀ out S' H', TK G H H' → RS G S' H' → Qd out S' → Q out H') ∧ FX G H Ed fun c d H' => W c d σ H') → tJs ts acc σ H Q
theorem j_nil : LJ G W (fun acc _ S Q _ => Q acc S) [] := by
  intro acc σ H Q h
  obtain ⟨fr, S, Qd, Ed, rf, rs, hw, fe, fx⟩ := h
  exact fe acc S H (TK.refl G H) rs hw
/-- a part that is a written text -/
theorem j_str {x : Str} {ts : List TE} {w : Str → Fr → Sto → (Str → Sto → Prop) → PoX → Prop} (hr : LJ G W w ts) : LJ G W (fun acc fr S Q E => Line x.length ∧ Line (acc.length + x.length) ∧ w (acc ++ x) fr S Q E) (tC (.str x) :: ts) := by
  intro acc σ H Q h
  obtain ⟨fr, S, Qd, Ed, rf, rs, hw, fe, fx⟩ := h
  exact ⟨x, rfl, by rw [Str.length_append]; exact line_ok hw.2.1, hr (acc ++ x) σ H Q ⟨fr, S, Qd, Ed, rf, rs, hw.2.2, fe, fx⟩⟩
theorem j_val {ts : List TE} {we : WEx} {w : Str → Fr → Sto → (Str → Sto → Prop) → PoX → Prop} (hr : LJ G W w ts) : LJ G W (fun acc fr S Q E => we fr S (fun x S1 => match x with
    | .str y => Line y.length ∧ Line (acc.length + y.length) ∧ w (acc ++ y) fr S1 Q E
    | .int i => i.natAbs < 2 ^ 1900 ∧ Line (acc.length + (toString i : Str).length) ∧ w (acc ++ (toString i : Str)) fr S1 Q E
    | _ => False) E) (LE G W (fun fr S Q E => we fr S (fun x S1 => match x with
    | .str y => Line y.length ∧ Q (.str y) S1
    | .int i => i.natAbs < 2 ^ 1900 ∧ Q (.str (toString i)) S1
    | _ => False) E) :: ts) := by
  intro acc σ H Q h
  obtain ⟨fr, S, Qd, Ed, rf, rs, hw, fe, fx⟩ := h
  refine ⟨fr, S, (fun d S1 => match d with
    | .str y => Line (acc.length + y.length) ∧ w (acc ++ y) fr S1 Qd Ed
    | _ => False), Ed, rf, rs, hw, fun d S1 v H1 k1 rs1 r1 h1 => ?_, fx⟩
  (try dsimp only at h1)
  split at h1
  · cases Rp.str.mp r1
    exact ⟨_, rfl, by rw [Str.length_append]; exact line_ok h1.1, hr _ σ H1 Q ⟨fr, S1, Qd, Ed, rf.tk k1, rs1, h1.2, fun out S' H' k' => fe out S' H' (k1.trans k'), fx.tk k1⟩⟩
  · exact h1.elim
end
end L3

namespace L3
open PySem PySem.Spec PyProof.Rows L2
/-! ### targets of names -/
def Tgs.len : Tgs → Nat
  | .nil => 0
  | .cons _ ts => ts.len + 1
mutual
def tgT (K : PySem.W.Frag) : Tg → TG
  | .nm i => gName i
  | .tp ts => gTup K ts.len (tgTs K ts)
def tgTs (K : PySem.W.Frag) : Tgs → TGs
  | .nil => gNil
  | .cons t ts => gCons (tgT K t) (tgTs K ts)
end
mutual
def slotG : Tg → List Nat
  | .nm i => [i]
  | .tp ts => slotGs ts
def slotGs : Tgs → List Nat
  | .nil => []
  | .cons t ts => slotG t ++ slotGs ts
end
theorem wipe_get : ∀ (vs : List Nat) (σ : L2.St) (j : Nat), (L2.wipe σ vs)[j]? = if j ∈ vs then (if j < σ.length then some none else none) else σ[j]?
  | [], σ, j => by simp [L2.wipe]
  | v :: vs, σ, j => by
    unfold L2.wipe
    by_cases hj : v = j
    · subst hj
      rw [if_pos (by simp)]
      by_cases hl : v < σ.length
      · rw [List.getElem?_set_self (by rw [wipe_length]; exact hl), if_pos hl]
      · rw [List.getElem?_eq_none (by simp [wipe_length]; omega), if_neg hl]
    · rw [List.getElem?_set_ne hj, wipe_get vs σ j]
      by_cases hm : j ∈ vs
      · rw [if_pos hm, if_pos (List.mem_cons_of_mem v hm)]
      · rw [if_neg hm, if_neg (by simp only [List.mem_cons, not_or]; exact ⟨fun e => hj e.symm, hm⟩)]
theorem wipe_set {vs : List Nat} {σ : L2.St} {i : Nat} {y : Option V} (h : i ∈ vs) : L2.wipe (σ.set i y) vs = L2.wipe σ vs := by
  apply List.ext_getElem?
  intro j
  rw [wipe_get, wipe_get, List.length_set]
  by_cases hj : j ∈ vs
  · rw [if_pos hj, if_pos hj]
  · rw [if_neg hj, if_neg hj, List.getElem?_set_ne (fun e => hj (by rw [← e]; exact h))]
theorem wipe_wipe {vs : List Nat} {σ : L2.St} : L2.wipe (L2.wipe σ vs) vs = L2.wipe σ vs := by
  apply List.ext_getElem?
  intro j
  rw [wipe_get, wipe_get vs σ j, wipe_length]
  by_cases hj : j ∈ vs
  · rw [if_pos hj, if_pos hj]
  · rw [if_neg hj, if_neg hj]
mutual
theorem tg_ok {G : Gd} {H : Hp} : ∀ (tg : Tg) (d : D) (x : V) (fr fr2 : Fr) (σ : L2.St) (Q : L2.St → Hp → Prop), Rp G H d x → bindG tg d fr = some fr2 → RF G H fr σ →
    (∀ σ2, RF G H fr2 σ2 → (∀ vs, (∀ i ∈ slotG tg, i ∈ vs) → L2.wipe σ2 vs = L2.wipe σ vs) → Q σ2 H) → tgT G.K tg x σ H Q
  | .nm i, d, x, fr, fr2, σ, Q, r, e, rf, h => by
    unfold bindG at e
    cases e
    exact h _ (rf.set i r) fun vs hv => wipe_set (hv i (by simp [slotG]))
  | .tp ts, d, x, fr, fr2, σ, Q, r, e, rf, h => by
    unfold bindG at e
    cases d with
    | tup ds =>
      obtain ⟨a, xs, rfl, hq, rr⟩ := Rp.tup.mp r
      refine ⟨a, xs, rfl, hq, ?_, tgs_ok ts ds xs fr fr2 σ Q rr e rf h⟩
      rw [← rr.len]
      exact tgs_len ts ds fr fr2 e
    | _ => cases e
theorem tgs_len : ∀ (ts : Tgs) (ds : List D) (fr fr2 : Fr), bindGs ts ds fr = some fr2 → ds.length = ts.len
  | .nil, ds, fr, fr2, e => by
    unfold bindGs at e
    cases ds with
    | nil => rfl
    | cons d ds => cases e
  | .cons t ts, ds, fr, fr2, e => by
    unfold bindGs at e
    cases ds with
    | nil => cases e
    | cons d ds =>
      dsimp only at e
      cases e1 : bindG t d fr with
      | none => rw [e1] at e; cases e
      | some fr' =>
        rw [e1] at e
        have := tgs_len ts ds fr' fr2 e
        simp only [List.length_cons, Tgs.len, this]
theorem tgs_ok {G : Gd} {H : Hp} : ∀ (ts : Tgs) (ds : List D) (xs : List V) (fr fr2 : Fr) (σ : L2.St) (Q : L2.St → Hp → Prop), Rps G H ds xs → bindGs ts ds fr = some fr2 → RF G H fr σ →
    (∀ σ2, RF G H fr2 σ2 → (∀ vs, (∀ i ∈ slotGs ts, i ∈ vs) → L2.wipe σ2 vs = L2.wipe σ vs) → Q σ2 H) → tgTs G.K ts xs σ H Q
  | .nil, ds, xs, fr, fr2, σ, Q, r, e, rf, h => by
    unfold bindGs at e
    cases ds with
    | nil =>
      cases e
      exact ⟨Rps.nil.mp r, h σ rf fun _ _ => rfl⟩
    | cons d ds => cases e
  | .cons t ts, ds, xs, fr, fr2, σ, Q, r, e, rf, h => by
    unfold bindGs at e
    cases ds with
    | nil => cases e
    | cons d ds =>
      dsimp only at e
      obtain ⟨v, rr, rfl, r1, r2⟩ := Rps.cons.mp r
      cases e1 : bindG t d fr with
      | none => rw [e1] at e; cases e
      | some fr' =>
        rw [e1] at e
        refine ⟨v, rr, rfl, tg_ok t d v fr fr' σ _ r1 e1 rf fun σ1 rf1 w1 => ?_⟩
        refine tgs_ok ts ds rr fr' fr2 σ1 Q r2 e rf1 fun σ2 rf2 w2 => h σ2 rf2 fun vs hv => ?_
        rw [w2 vs fun i hi => hv i (by simp [slotGs, hi]), w1 vs fun i hi => hv i (by simp [slotGs, hi])]
end
/-! ### walks -/
def ItR (G : Gd) (H0 : Hp) (it : Itd) (J : It) : Prop := ∀ (i : Nat) (S : Sto) (H : Hp), TK G H0 H → RS G S H →
  (it i S = some none → J.stop i H) ∧ ∀ d, it i S = some (some d) → J.go i H ∧ ∀ x H', J.yld i H x H' → TK G H H' ∧ RS G S H' ∧ Rp G H' d x
abbrev WIt := Fr → Sto → (Itd → Sto → Prop) → PoX → Prop
def LI (G : Gd) (W : WX) (wi : WIt) : TI := fun σ H R => ∃ fr S Rd Ed, RF G H fr σ ∧ RS G S H ∧ wi fr S Rd Ed ∧ (∀ it S' J H', TK G H H' → RS G S' H' → ItR G H' it J → Rd it S' → R J H') ∧ FX G H Ed fun c d H' => W c d σ H'
theorem itV_tup {G : Gd} {H0 : Hp} {a : Addr} {ds : List D} {xs : List V} (hq : SqT G.K H0 a xs) (r : Rps G H0 ds xs) : ItR G H0 (itV ds) (Itt G.K a) := by
  intro i S H k rs
  have hq' := k.t a xs hq
  refine ⟨fun e => ⟨xs, hq', ?_⟩, fun d e => ?_⟩
  · have e : ds[i]? = none := Option.some.inj e
    rw [List.getElem?_eq_none_iff, r.len] at e
    exact e
  · have e : ds[i]? = some d := Option.some.inj e
    obtain ⟨v, h1, h2⟩ := r.get e
    refine ⟨⟨xs, v, hq', h1⟩, fun x H' y => ?_⟩
    obtain ⟨rfl, y⟩ := y
    have e2 := y xs hq'
    rw [h1] at e2; cases e2
    exact ⟨TK.refl _ _, rs, Rp.tk k _ _ h2⟩
theorem itV_scr {G : Gd} {H0 : Hp} {a : Addr} {ds : List D} {xs : List V} (hq : FzL G.K H0 a xs) (r : Rps G H0 ds xs) : ItR G H0 (itV ds) (Itl G.K a) := by
  intro i S H k rs
  have hq' := (k.l a xs hq).seq
  refine ⟨fun e => ⟨xs, hq', ?_⟩, fun d e => ?_⟩
  · have e : ds[i]? = none := Option.some.inj e
    rw [List.getElem?_eq_none_iff, r.len] at e
    exact e
  · have e : ds[i]? = some d := Option.some.inj e
    obtain ⟨v, h1, h2⟩ := r.get e
    refine ⟨⟨xs, v, hq', h1⟩, fun x H' y => ?_⟩
    obtain ⟨rfl, y⟩ := y
    have e2 := y xs hq'
    rw [h1] at e2; cases e2
    exact ⟨TK.refl _ _, rs, Rp.tk k _ _ h2⟩
theorem itR_ok {G : Gd} {H0 : Hp} {p : Addr} : ItR G H0 (itR p) (Itl G.K p) := by
  intro i S H k rs
  refine ⟨fun e => ?_, fun d e => ?_⟩
  · unfold itR at e
    split at e
    · rename_i ds e0
      obtain ⟨vs, h1, r⟩ := sl_of rs e0
      have e : ds[i]? = none := Option.some.inj e
      rw [List.getElem?_eq_none_iff, r.len] at e
      exact ⟨vs, SqL.of h1, e⟩
    · cases e
  · unfold itR at e
    split at e
    · rename_i ds e0
      obtain ⟨vs, h1, r⟩ := sl_of rs e0
      have e : ds[i]? = some d := Option.some.inj e
      obtain ⟨v, h2, h3⟩ := r.get e
      refine ⟨⟨vs, v, SqL.of h1, h2⟩, fun x H' y => ?_⟩
      obtain ⟨rfl, y⟩ := y
      have e2 := y vs (SqL.of h1)
      rw [h2] at e2; cases e2
      exact ⟨TK.refl _ _, rs, h3⟩
    · cases e
theorem itG_ok {G : Gd} {H0 : Hp} {n : Nat} : ItR G H0 (itG n) (Itr 0 n) := by
  intro i S H k rs
  unfold itG
  refine ⟨fun e => ?_, fun d e => ?_⟩
  · by_cases h : i < n
    · rw [if_pos h] at e; cases e
    · exact Nat.le_of_not_lt h
  · by_cases h : i < n
    · rw [if_pos h] at e
      cases e
      refine ⟨h, fun x H' y => ?_⟩
      obtain ⟨rfl, rfl⟩ := y
      exact ⟨TK.refl _ _, rs, Rp.int.mpr (by simp)⟩
    · rw [if_neg h] at e; cases e
section
variable {X : Cx} {G : Gd} {W : WX} {a b t tg : Expr} {wa wb wt : WEx} {pos : Pos}
theorem qi_rng1 {p : Pos} (hg : Gl X "range") (hm : X.mg "range" = none) (ha : PE X a (LE G W wa)) (hs : noStar a = true) : PI X tg (.Call (.Name "range" p) [a] [] pos) (LI G W (fun fr S R E => wa fr S (fun x S1 => match x with
    | .int j => (-(2 ^ 62) ≤ j ∧ j < 2 ^ 62) ∧ R (itG j.toNat) S1
    | _ => False) E)) := by
  refine ⟨fun pins s σ H R I h => (pi_range1 (pos := pos) (p := p) hg hm (pa_cons ha pa_nil (star_cons hs)) (star_cons hs)).run pins s σ H R I ?_⟩
  obtain ⟨fr, S, Rd, Ed, rf, rs, hw, fe, fx⟩ := h
  refine ⟨fr, S, _, Ed, rf, rs, hw, fun d S1 v H1 k1 rs1 r1 h1 => ?_, fx⟩
  (try dsimp only at h1)
  split at h1
  · rename_i j
    cases Rp.int.mp r1
    exact ⟨j, rfl, h1.1.1, h1.1.2, fe _ S1 _ H1 k1 rs1 itG_ok h1.2⟩
  · exact h1.elim
/-- a list (not a tuple) is walked -/
theorem qi_lst (hK : X.K = G.K) (ha : PE X a (LE G W wa)) : PI X tg a (LI G W (fun fr S R E => wa fr S (fun x S1 => match x with
    | .scr ds => R (itV ds) S1
    | .ref p => match S1 p with
      | some (.lst _) => R (itR p) S1
      | _ => False
    | _ => False) E)) := by
  refine ⟨fun pins s σ H R I h => (pi_list ha).run pins s σ H R I ?_⟩
  obtain ⟨fr, S, Rd, Ed, rf, rs, hw, fe, fx⟩ := h
  refine ⟨fr, S, _, Ed, rf, rs, hw, fun d S1 v H1 k1 rs1 r1 h1 => ?_, fx⟩
  (try dsimp only at h1)
  split at h1
  · obtain ⟨q, xs, rfl, hq, r⟩ := Rp.scr.mp r1
    exact ⟨q, rfl, ⟨xs, by rw [hK]; exact hq.seq⟩, by rw [hK]; exact fe _ S1 _ H1 k1 rs1 (itV_scr hq r) h1⟩
  · cases Rp.ref.mp r1
    split at h1
    · rename_i _ ds e0
      obtain ⟨vs, h2, r⟩ := sl_of rs1 e0
      exact ⟨_, rfl, ⟨vs, SqL.of h2⟩, by rw [hK]; exact fe _ S1 _ H1 k1 rs1 itR_ok h1⟩
    · exact h1.elim
  · exact h1.elim
/-! ### comprehensions -/
abbrev Wno : WX := fun _ _ _ _ => False
theorem comp_red {own : List (Str × Nat)} {T : Tg} {wi : WIt} {wts we : WEx} {σ : L2.St} {H : Hp} {Q : VK} (hsl : ∀ i ∈ slotG T, i ∈ own.map (·.2)) (h : LE G W (fun fr S Q E => wi fr S (fun J S1 => ∀ p, S1 p = none → ∃ W : Nat → Nat → Sto → Prop, (∃ m, W 0 m (S1.set p (.lst []))) ∧ ∀ i m S2, W i m S2 →
      match J i S2 with
      | none => False
      | some none => Q (.ref p) S2
      | some (some d) => match bindG T d (wipeD fr (own.map (·.2))) with
        | none => False
        | some fr2 => wts fr2 S2 (fun x S3 => match x with
          | .bl true => we fr2 S3 (fun y S4 => match S4 p with
            | some (.lst acc) => acc.length < 16000000 ∧ ∃ m', m' < m ∧ W (i + 1) m' (S4.set p (.lst (acc ++ [y])))
            | _ => False) (fun _ _ => False)
          | .bl false => ∃ m', m' < m ∧ W (i + 1) m' S3
          | _ => False) (fun _ _ => False)) E) σ H Q) : tLc (LI G W wi) (tgT G.K T) (LT G Wno wts) (LE G Wno we) (own.map (·.2)) σ H Q := by
  obtain ⟨fr, S, Qd, Ed, rf, rs, hw, fe, fx⟩ := h
  refine ⟨fr, S, _, Ed, rf, rs, hw, fun J S1 Jv H1 k1 rs1 ir h1 => ?_, fx⟩
  intro D hD
  obtain ⟨Wd, ⟨m0, w0⟩, turn⟩ := h1 D (rs1.none hD)
  have kD : TK G H1 (upd H1 D (.lst [])) := TK.new hD
  refine ⟨fun i m H' => ∃ S2, TK G H1 H' ∧ RS G S2 H' ∧ Wd i m S2, ⟨m0, _, kD, rs1.newList hD Rps.mk0, w0⟩, ?_⟩
  rintro i m H2 ⟨S2, k2, rs2, w2⟩
  have tn := turn i m S2 w2
  obtain ⟨ir1, ir2⟩ := ir i S2 H2 k2 rs2
  cases ej : J i S2 with
  | none => rw [ej] at tn; exact tn.elim
  | some od =>
    cases od with
    | none =>
      rw [ej] at tn
      exact .inl ⟨ir1 ej, fe _ S2 _ H2 (k1.trans k2) rs2 (Rp.ref.mpr rfl) tn⟩
    | some d =>
      rw [ej] at tn
      dsimp only at tn
      obtain ⟨go, yl⟩ := ir2 d ej
      cases eb : bindG T d (wipeD fr (own.map (·.2))) with
      | none => rw [eb] at tn; exact tn.elim
      | some fr2 =>
        rw [eb] at tn
        refine .inr ⟨go, fun H' => ∃ m', m' < m ∧ ∃ S2, TK G H1 H' ∧ RS G S2 H' ∧ Wd (i + 1) m' S2, fun H' q => ?_, fun x H3 y => ?_⟩
        · obtain ⟨m', hm, S', q1, q2, q3⟩ := q
          exact ⟨m', hm, S', q1, q2, q3⟩
        · obtain ⟨k3, rs3, r3⟩ := yl x H3 y
          have rfw : RF G H3 (wipeD fr (own.map (·.2))) (L2.wipe σ (own.map (·.2))) := (rf.tk ((k1.trans k2).trans k3)).wipe _
          refine tg_ok T d x _ fr2 _ _ r3 eb rfw fun σ2 rf2 hw2 => ⟨by rw [hw2 _ hsl, wipe_wipe], ?_⟩
          refine ⟨fr2, S2, _, _, rf2, rs3, tn, fun d4 S4 H4 k4 rs4 h4 => ?_, fun x S c d H' _ _ _ z => z.elim⟩
          (try dsimp only at h4)
          split at h4
          · refine ⟨true, rfl, iteT ⟨fr2, S4, _, _, rf2.tk k4, rs4, h4, fun d5 S5 v5 H5 k5 rs5 r5 h5 => ?_, fun x S c d H' _ _ _ z => z.elim⟩⟩
            (try dsimp only at h5)
            split at h5
            · rename_i acc e5
              obtain ⟨vs, e6, r6⟩ := sl_of rs5 e5
              obtain ⟨hl, m', hm, w'⟩ := h5
              obtain ⟨k7, rs7⟩ := rs5.setList e6 (r6.append (Rps.mk r5 Rps.mk0))
              refine ⟨vs, e6, ?_, m', hm, _, ((((k2.trans k3).trans k4).trans k5).trans k7), rs7, w'⟩
              rw [← r6.len]
              rw [sizeLine_eq]
              omega
            · exact h5.elim
          · obtain ⟨m', hm, w'⟩ := h4
            exact ⟨false, rfl, iteF ⟨m', hm, _, (k2.trans k3).trans k4, rs4, w'⟩⟩
          · exact h4.elim
theorem q_comp {tg it elt : Expr} {ifs : List Expr} {scope : Scope} {own : List (Str × Nat)} {T : Tg} {wi : WIt} {wts we : WEx} (hK : X.K = G.K) (hc : X.calm = true) (hN : X.N.Nodup) (hi : PI X tg it (LI G W wi)) (ok : BlkOk X.N X.env.scope scope own)
    (hg : ∀ (s : Shared) (H : Hp) (C : Addr) (cl : List (Str × Addr)) (fp : List Addr), PG (X.blk s H scope (compEnvC scope cl C X.env) fp) tg (tgT G.K T))
    (ht : ∀ (s : Shared) (H : Hp) (C : Addr) (cl : List (Str × Addr)) (fp : List Addr), PTs (X.blk s H scope (compEnvC scope cl C X.env) fp) ifs (LT G Wno wts))
    (he : ∀ (s : Shared) (H : Hp) (C : Addr) (cl : List (Str × Addr)) (fp : List Addr), PE (X.blk s H scope (compEnvC scope cl C X.env) fp) elt (LE G Wno we))
    (hs : noSet it = true) (hsl : ∀ i ∈ slotG T, i ∈ own.map (·.2)) :
    PE X (.ListComp elt [⟨tg, it, ifs, 0⟩] scope pos) (LE G W (fun fr S Q E => wi fr S (fun J S1 => ∀ p, S1 p = none → ∃ W : Nat → Nat → Sto → Prop, (∃ m, W 0 m (S1.set p (.lst []))) ∧ ∀ i m S2, W i m S2 →
      match J i S2 with
      | none => False
      | some none => Q (.ref p) S2
      | some (some d) => match bindG T d (wipeD fr (own.map (·.2))) with
        | none => False
        | some fr2 => wts fr2 S2 (fun x S3 => match x with
          | .bl true => we fr2 S3 (fun y S4 => match S4 p with
            | some (.lst acc) => acc.length < 16000000 ∧ ∃ m', m' < m ∧ W (i + 1) m' (S4.set p (.lst (acc ++ [y])))
            | _ => False) (fun _ _ => False)
          | .bl false => ∃ m', m' < m ∧ W (i + 1) m' S3
          | _ => False) (fun _ _ => False)) E)) := by
  exact ⟨fun pins s σ H Q I h => (pe_lc (pos := pos) hc hN hi ok hg ht he (no_fold hs)).run pins s σ H Q I (comp_red hsl h)⟩
/-- name = [..] on one line -/
theorem s_setLc {i : Nat} {y : Str} {py spos : Pos} {tg it elt : Expr} {ifs : List Expr} {scope : Scope} {own : List (Str × Nat)} {T : Tg} {wi : WIt} {wts we : WEx} (hK : X.K = G.K) (hc : X.calm = true) (hN : X.N.Nodup) (hy : X.N[i]? = some y) (hyl : X.env.scope.names.lookup y = some .local)
    (hsw : swapsWith (.ListComp elt [⟨tg, it, ifs, 0⟩] scope pos) (some (.Name y py)) spos.line X.env = pure true) (hi : PI X tg it (LI G W wi)) (ok : BlkOk X.N X.env.scope scope own)
    (hg : ∀ (s : Shared) (H : Hp) (C : Addr) (cl : List (Str × Addr)) (fp : List Addr), PG (X.blk s H scope (compEnvC scope cl C X.env) fp) tg (tgT G.K T))
    (ht : ∀ (s : Shared) (H : Hp) (C : Addr) (cl : List (Str × Addr)) (fp : List Addr), PTs (X.blk s H scope (compEnvC scope cl C X.env) fp) ifs (LT G Wno wts))
    (he : ∀ (s : Shared) (H : Hp) (C : Addr) (cl : List (Str × Addr)) (fp : List Addr), PE (X.blk s H scope (compEnvC scope cl C X.env) fp) elt (LE G Wno we))
    (hs : noSet it = true) (hsl : ∀ i ∈ slotG T, i ∈ own.map (·.2)) :
    PS X (.Assign [.Name y py] (.ListComp elt [⟨tg, it, ifs, 0⟩] scope pos) spos) (tAsg (LE G W (fun fr S Q E => wi fr S (fun J S1 => ∀ p, S1 p = none → ∃ W : Nat → Nat → Sto → Prop, (∃ m, W 0 m (S1.set p (.lst []))) ∧ ∀ i m S2, W i m S2 →
      match J i S2 with
      | none => False
      | some none => Q (.ref p) S2
      | some (some d) => match bindG T d (wipeD fr (own.map (·.2))) with
        | none => False
        | some fr2 => wts fr2 S2 (fun x S3 => match x with
          | .bl true => we fr2 S3 (fun y S4 => match S4 p with
            | some (.lst acc) => acc.length < 16000000 ∧ ∃ m', m' < m ∧ W (i + 1) m' (S4.set p (.lst (acc ++ [y])))
            | _ => False) (fun _ _ => False)
          | .bl false => ∃ m', m' < m ∧ W (i + 1) m' S3
          | _ => False) (fun _ _ => False)) E)) (gName i)) := by
  exact ⟨fun pins s σ H D I h => (ps_setLc (pos := pos) hc hN hy hyl hsw hi ok hg ht he (no_fold hs)).run pins s σ H D I (comp_red hsl h)⟩
end
end L3

namespace L3
open PySem PySem.Spec PyProof.Rows L2
/-! ### the text against the small language -/
structure Ct where
  N : List Str
  sc : Scope
  fnl : Str → Bool
  calm : Bool
def visC (sc : Scope) (x : Str) : Bool := match sc.names.lookup x with
  | some .local => true
  | some .cell => true
  | some .free => true
  | _ => false
def glC (sc : Scope) (x : Str) : Bool := match sc.names.lookup x with
  | some .globalImplicit => true
  | _ => false
def locC (c : Ct) (x : Str) : Bool := match c.sc.names.lookup x with
  | some .local => true
  | some .cell => c.fnl x
  | _ => false
def nmC (x : Str) : Bool := !(x == ("__debug__" : Str)) && !(x == ("__classdict__" : Str)) && !decide (x = ("__name__" : Str))
def constC : Const → D → Bool
  | .int i, d => match d with
    | .int j => decide (i = j)
    | _ => false
  | .str x, d => match d with
    | .str y => decide (x = y)
    | _ => false
  | .bool b, d => match d with
    | .bl b' => b == b'
    | _ => false
  | .none, d => match d with
    | .non => true
    | _ => false
  | _, _ => false
def opC : BOp → Operator → Bool
  | .add, .Add => true
  | .sub, .Sub => true
  | .mul, .Mult => true
  | .mod, .Mod => true
  | .fdiv, .FloorDiv => true
  | .pow, .Pow => true
  | _, _ => false
def cmpC : COp → CmpOp → Bool
  | .eq, .Eq => true
  | .ne, .NotEq => true
  | .lt, .Lt => true
  | .le, .LtE => true
  | .gt, .Gt => true
  | .ge, .GtE => true
  | _, _ => false
def Bf.nm : Bf → Str
  | .len => "len" | .abs => "abs" | .int => "int" | .max => "max" | .min => "min" | .divmod => "divmod" | .repr => "repr" | .str => "str" | .all => "all"
def ownOf (N : List Str) (own : List Nat) : List (Str × Nat) := own.filterMap fun i => N[i]?.map fun x => (x, i)
mutual
def chkG (c : Ct) : Tg → Expr → Bool
  | .nm i, e => match e with
    | .Name x _ => decide (c.N[i]? = some x) && locC c x
    | _ => false
  | .tp ts, e => match e with
    | .Tuple xs _ _ => c.calm && chkGs c ts xs
    | _ => false
def chkGs (c : Ct) : Tgs → List Expr → Bool
  | .nil, xs => xs.isEmpty
  | .cons t ts, xs => match xs with
    | x :: r => chkG c t x && chkGs c ts r
    | [] => false
end
section
variable (P : PD)
mutual
def chkE (c : Ct) : IE → Expr → Bool
  | .var i, e => match e with
    | .Name x _ => decide (c.N[i]? = some x) && visC c.sc x && nmC x
    | _ => false
  | .cst d, e => match e with
    | .Constant k _ _ => constC k d
    | _ => false
  | .fnv k, e => match e with
    | .Name x _ => match P.fns[k]? with
      | some f => decide (f.name = x) && glC c.sc x && nmC x
      | none => false
    | _ => false
  | .gc _ _, _ => false
  | .bin o a b, e => match e with
    | .BinOp l op r _ => opC o op && chkE c a l && chkE c b r
    | _ => false
  | .neg a, e => match e with
    | .UnaryOp op x _ => match op with
      | .USub => chkE c a x
      | _ => false
    | _ => false
  | .nt a, e => match e with
    | .UnaryOp op x _ => match op with
      | .Not => chkE c a x
      | _ => false
    | _ => false
  | .cmp o a b, e => match e with
    | .Compare l [op] [r] _ => cmpC o op && chkE c a l && chkE c b r
    | _ => false
  | .conj es, e => match e with
    | .BoolOp op xs _ => match op with
      | .And => chkEs c es xs
      | _ => false
    | _ => false
  | .disj es, e => match e with
    | .BoolOp op xs _ => match op with
      | .Or => chkEs c es xs
      | _ => false
    | _ => false
  | .ite t a b, e => match e with
    | .IfExp t' a' b' _ => (chkT c t t' || (plainTest t' && chkE c t t')) && chkE c a a' && chkE c b b'
    | _ => false
  | .tup es, e => match e with
    | .Tuple xs _ _ => chkEs c es xs
    | _ => false
  | .lst es, e => match e with
    | .List xs _ => chkEs c es xs
    | _ => false
  | .idx a i, e => match e with
    | .Subscript a' i' _ => chkE c a a' && chkE c i i' && plainIx i'
    | _ => false
  | .call k es, e => match e with
    | .Call (.Name x _) xs [] _ => match P.fns[k]? with
      | some f => decide (f.name = x) && glC c.sc x && nmC x && c.calm && chkEs c es xs
      | none => false
    | _ => false
  | .callk k nm pt es ks, e => match e with
    | .Call (.Name x _) xs kws _ => match P.fns[k]? with
      | some f => decide (f.name = x) && glC c.sc x && nmC x && c.calm && decide ((xs.length, nm, pt) ∈ f.kw) && decide (kws.map (·.arg) = nm.map some) && chkEs c es xs && chkEs c ks (kws.map (·.value))
      | none => false
    | _ => false
  | .callv i es, e => match e with
    | .Call (.Name x _) xs [] _ => decide (c.N[i]? = some x) && visC c.sc x && nmC x && c.calm && chkEs c es xs && !xs.isEmpty
    | _ => false
  | .blt f es, e => match e with
    | .Call (.Name x _) xs [] _ => decide (x = f.nm) && decide (x ∈ P.blts) && glC c.sc x && c.calm && chkEs c es xs && !xs.isEmpty
    | _ => false
  | .comp tg it ts e' own, e => match e with
    | .ListComp elt [⟨tgE, itE, ifs, 0⟩] scope _ => c.calm && blkC c.N c.sc scope (ownOf c.N own) && decide ((ownOf c.N own).map (·.2) = own) && (slotG tg).all (fun i => own.contains i) && noSet itE && chkI c it itE &&
        chkG ⟨c.N, relS scope c.sc, fun x => scope.names.lookup x == some .cell, true⟩ tg tgE && chkTs ⟨c.N, relS scope c.sc, fun x => scope.names.lookup x == some .cell, true⟩ ts ifs && chkE ⟨c.N, relS scope c.sc, fun x => scope.names.lookup x == some .cell, true⟩ e' elt
    | _ => false
  | .fst es, e => match e with
    | .JoinedStr xs _ => chkF c es xs && decide (2 ≤ xs.length)
    | _ => false
/-- as a test -/
def chkT (c : Ct) : IE → Expr → Bool
  | .nt a, e => match e with
    | .UnaryOp op x _ => match op with
      | .Not => chkT c a x || (plainTest x && chkE c a x)
      | _ => false
    | _ => false
  | .cmp o a b, e => match e with
    | .Compare l [op] [r] _ => cmpC o op && chkE c a l && chkE c b r
    | _ => false
  | .conj es, e => match e with
    | .BoolOp op xs _ => match op with
      | .And => chkTl c es xs
      | _ => false
    | _ => false
  | .disj es, e => match e with
    | .BoolOp op xs _ => match op with
      | .Or => chkTl c es xs
      | _ => false
    | _ => false
  | _, _ => false
def chkEs (c : Ct) : IEs → List Expr → Bool
  | .nil, xs => xs.isEmpty
  | .cons e es, xs => match xs with
    | x :: r => noStar x && chkE c e x && chkEs c es r
    | [] => false
def chkTl (c : Ct) : IEs → List Expr → Bool
  | .nil, xs => xs.isEmpty
  | .cons e es, xs => match xs with
    | x :: r => (chkT c e x || (plainTest x && chkE c e x)) && chkTl c es r
    | [] => false
/-- the tests of a comprehension: none or one -/
def chkTs (c : Ct) : IEs → List Expr → Bool
  | .nil, xs => xs.isEmpty
  | .cons e es, xs => match xs, es with
    | [x], .nil => chkT c e x || (plainTest x && chkE c e x)
    | _, _ => false
def chkF (c : Ct) : IEs → List Expr → Bool
  | .nil, xs => xs.isEmpty
  | .cons e es, xs => match xs with
    | x :: r => (match x with
      | .FormattedValue v k fs _ => decide (k = -1) && fs.isNone && chkE c e v
      | .Constant (.str y) _ _ => (match e with
        | .cst (.str z) => decide (z = y)
        | _ => false)
      | _ => false) && chkF c es r
    | [] => false
def chkI (c : Ct) : II → Expr → Bool
  | .rng1 e, x => match x with
    | .Call (.Name r _) [a] [] _ => decide (r = "range") && decide (("range" : Str) ∈ P.blts) && glC c.sc r && noStar a && chkE c e a
    | _ => false
  | .seq e, x => chkE c e x
end
end
end L3

namespace L3
open PySem PySem.Spec PyProof.Rows L2
/-- the place where a piece stands -/
structure Good (X : Cx) (G : Gd) (P : PD) (n : Nat) (c : Ct) : Prop where
  fx : Facts X G P n
  N : X.N = c.N
  nd : X.N.Nodup
  sc : X.env.scope = c.sc
  fn : ∀ x, c.fnl x = true → X.fn x = true
  gd : X.A.guards = some []
  un : X.A.units + 64 < cLine
  calm : c.calm = true → X.calm = true
  room : c.calm = true → Room (lev n + 1) X.A
theorem Good.blk {X : Cx} {G : Gd} {P : PD} {n : Nat} {c : Ct} (g : Good X G P n c) (hc : c.calm = true) (s : Shared) (H : Hp) (scope : Scope) (C : Addr) (cl : List (Str × Addr)) (fp : List Addr) :
    Good (X.blk s H scope (compEnvC scope cl C X.env) fp) G P n ⟨c.N, relS scope c.sc, fun x => scope.names.lookup x == some .cell, true⟩ :=
  ⟨g.fx.other rfl rfl rfl rfl rfl, g.N, g.nd, by show relabel scope X.env = _; rw [← g.sc]; rfl, fun x h => h, g.gd, g.un, fun _ => g.calm hc, fun _ => g.room hc⟩
section
variable {X : Cx} {G : Gd} {P : PD} {n : Nat} {c : Ct}
theorem vis_ok (g : Good X G P n c) {x : Str} (h : visC c.sc x = true) : Vis X.env.scope x := by
  rw [g.sc]
  unfold visC at h
  split at h
  · rename_i e; exact .inl e
  · rename_i e; exact .inr (.inl e)
  · rename_i e; exact .inr (.inr e)
  · cases h
theorem gl_ok (g : Good X G P n c) {x : Str} (h : glC c.sc x = true) : Gl X x := by
  unfold Gl Env.kindOf
  rw [g.sc]
  unfold glC at h
  split at h
  · rename_i e; exact e
  · cases h
theorem loc_ok (g : Good X G P n c) {x : Str} (h : locC c x = true) : Loc X.env.scope x ∧ (X.fn x = true ∨ X.env.scope.names.lookup x = some .local) := by
  rw [g.sc]
  unfold locC at h
  split at h
  · rename_i e; exact ⟨.inl e, .inr e⟩
  · rename_i e; exact ⟨.inr e, .inl (g.fn x h)⟩
  · cases h
theorem nm_ok {x : Str} (h : nmC x = true) : (x == ("__debug__" : Str)) = false ∧ (x == ("__classdict__" : Str)) = false ∧ x ≠ "__name__" := by
  unfold nmC at h
  simp only [Bool.and_eq_true, Bool.not_eq_true', decide_eq_false_iff_not] at h
  exact ⟨h.1.1, h.1.2, h.2⟩
theorem bf_nm (f : Bf) : (f.nm == ("__debug__" : Str)) = false ∧ f.nm ≠ ("__name__" : Str) := by
  cases f <;> exact ⟨by decide +kernel, by decide +kernel⟩
theorem qi_seq {a tg : Expr} {W : WX} {wa : WEx} (hK : X.K = G.K) (ha : PE X a (LE G W wa)) : PI X tg a (LI G W (fun fr S R E => wa fr S (fun x S1 => match x with
    | .tup ds => R (itV ds) S1
    | .scr ds => R (itV ds) S1
    | .ref p => match S1 p with
      | some (.lst _) => R (itR p) S1
      | _ => False
    | _ => False) E)) := by
  refine ⟨fun pins s σ H R I h => ?_⟩
  obtain ⟨fr, S, Rd, Ed, rf, rs, hw, fe, fx⟩ := h
  refine thn (ha.run pins s σ H (fun x H1 => ∃ q, x = V.ref q ∧ ((∃ xs, SqL X.K H1 q xs ∧ R (Itl X.K q) H1) ∨ ∃ xs, SqT X.K H1 q xs ∧ R (Itt X.K q) H1)) I ⟨fr, S, _, Ed, rf, rs, hw, fun d S1 v H1 k1 rs1 r1 h1 => ?_, fx⟩) fun v s1 hv => ?_
  · (try dsimp only at h1)
    rw [hK]
    split at h1
    · obtain ⟨q, xs, rfl, hq, r⟩ := Rp.tup.mp r1
      exact ⟨q, rfl, .inr ⟨xs, hq, fe _ S1 _ H1 k1 rs1 (itV_tup hq r) h1⟩⟩
    · obtain ⟨q, xs, rfl, hq, r⟩ := Rp.scr.mp r1
      exact ⟨q, rfl, .inl ⟨xs, hq.seq, fe _ S1 _ H1 k1 rs1 (itV_scr hq r) h1⟩⟩
    · cases Rp.ref.mp r1
      split at h1
      · rename_i _ ds e0
        obtain ⟨vs, h2, r⟩ := sl_of rs1 e0
        exact ⟨_, rfl, .inl ⟨vs, SqL.of h2, fe _ S1 _ H1 k1 rs1 itR_ok h1⟩⟩
      · exact h1.elim
    · exact h1.elim
  · obtain ⟨x, H1, I1, rv, q, rfl, hh⟩ := hv
    cases rv
    have fresh := I1.hok.fresh (a := s1.heap.objs.size) (Nat.le_refl _)
    rcases hh with ⟨xs, hq, hR⟩ | ⟨xs, hq, hR⟩
    · obtain ⟨its, rv, pl, hz⟩ := I1.list hq
      refine wpAny_pyIter_list pl.isList ⟨_, [s1.heap.objs.size], _, _, H1, rfl, I1.kept (t' := s1.toks) (fun b o e => Heap.get?_push_of_some _ e), turn_list q _, ⟨_, Heap.get?_push_size _ rfl, rfl, rfl⟩, fun b hb => ?_, hR⟩
      cases List.mem_singleton.mp hb
      exact I1.fpOk (Nat.le_refl _) fresh
    · obtain ⟨its, rv, pl, hz⟩ := I1.tuple hq
      refine wpAny_pyIter_tuple (show s1.heap.IsTuple q its.toArray from pl) ⟨_, [s1.heap.objs.size], _, _, H1, rfl, I1.kept (t' := s1.toks) (fun b o e => Heap.get?_push_of_some _ e), turn_tuple q _, ⟨_, Heap.get?_push_size _ rfl, rfl, rfl⟩, fun b hb => ?_, hR⟩
      cases List.mem_singleton.mp hb
      exact I1.fpOk (Nat.le_refl _) fresh
end
end L3

namespace L3
open PySem PySem.Spec PyProof.Rows L2
section
variable {G : Gd} {P : PD} {n : Nat}
theorem no_marks {X : Cx} {W : WX} {op : CmpOp} {b : Expr} {o : COp} (h : cmpC o op = true) : behindInMarks op b = false := by
  cases o <;> cases op <;> first | (cases h; done) | exact nomark _
theorem sOp {X : Cx} {o : BOp} {op : Operator} (h : opC o op = true) : OpR X (binaryOp op) (L2o G (wpBin o)) := by
  cases o <;> cases op <;> first | (cases h; done) | exact sb_add | exact sb_sub | exact sb_mul | exact sb_mod | exact sb_fdiv | exact sb_pow
theorem sCmp {X : Cx} {o : COp} {op : CmpOp} (h : cmpC o op = true) : OpR X (compareOp op) (L2o G (wpCmp o)) := by
  cases o <;> cases op <;> first | (cases h; done) | exact sb_eq | exact sb_ne | exact sb_lt | exact sb_le | exact sb_gt | exact sb_ge
theorem sConst {X : Cx} {W : WX} {k : Const} {d : D} {j : Nat} {p : Pos} {C : CallF} (h : constC k d = true) : PE X (.Constant k j p) (LE G W (wpE C (.cst d))) := by
  show PE X (.Constant k j p) (LE G W (fun _ S Q _ => Q d S))
  cases k <;> unfold constC at h <;> dsimp only at h <;> first | (cases h; done) | skip
  · split at h
    · exact q_const pe_non fun _ => Rp.non.mpr rfl
    · cases h
  · split at h
    · cases eq_of_beq h
      exact q_const pe_bl fun _ => Rp.bl.mpr rfl
    · cases h
  · split at h
    · cases of_decide_eq_true h
      exact q_const pe_int fun _ => Rp.int.mpr rfl
    · cases h
  · split at h
    · cases of_decide_eq_true h
      exact q_const pe_str fun _ => Rp.str.mpr rfl
    · cases h
theorem chkEs_star {c : Ct} : ∀ {es : IEs} {xs : List Expr}, chkEs P c es xs = true → xs.all noStar = true
  | .nil, xs, h => by
    unfold chkEs at h
    rw [List.isEmpty_iff.mp h]
    rfl
  | .cons e es, xs, h => by
    unfold chkEs at h
    cases xs with
    | nil => cases h
    | cons x r =>
      dsimp only at h
      simp only [Bool.and_eq_true] at h
      rw [List.all_cons, h.1.1, chkEs_star h.2]
      rfl
theorem chkEs_len {c : Ct} : ∀ {es : IEs} {xs : List Expr}, chkEs P c es xs = true → es.len = xs.length
  | .nil, xs, h => by
    unfold chkEs at h
    rw [List.isEmpty_iff.mp h]
    rfl
  | .cons e es, xs, h => by
    unfold chkEs at h
    cases xs with
    | nil => cases h
    | cons x r =>
      dsimp only at h
      simp only [Bool.and_eq_true] at h
      simp only [IEs.len, List.length_cons, chkEs_len h.2]
/-- a built-in function's call -/
theorem sB {X : Cx} {W : WX} {c : Ct} {f : Bf} {p pos : Pos} {e : Expr} {es : List Expr} {ws : WLs} (g : Good X G P n c) (hc : c.calm = true) (hm : f.nm ∈ P.blts) (hg : glC c.sc f.nm = true) (ha : PA X (e :: es) (LA G W ws)) (hs : noStar e = true) (hs2 : es.all noStar = true) :
    PE X (.Call (.Name f.nm p) (e :: es) [] pos) (LE G W (fun fr S Q E => ws fr S (fun ds S1 => wpB f ds S1 Q) E)) := by
  have hn := bf_nm f
  have gl := gl_ok g hg
  have m0 := g.fx.blt f.nm hm
  cases f
  · exact q_bltn (id := "len") (sB_len g.fx.K) gl m0 (by decide +kernel) ha hs hs2 hn.2 hn.1
  · exact q_bltn (id := "abs") sB_abs gl m0 (by decide +kernel) ha hs hs2 hn.2 hn.1
  · exact q_bltt (id := "int") sB_int gl m0 (by decide +kernel) ha hs hs2 hn.2 hn.1
  · exact q_bltn (id := "max") (sB_max (g.calm hc)) gl m0 (by decide +kernel) ha hs hs2 hn.2 hn.1
  · exact q_bltn (id := "min") (sB_min (g.calm hc)) gl m0 (by decide +kernel) ha hs hs2 hn.2 hn.1
  · exact q_bltn (id := "divmod") sB_divmod gl m0 (by decide +kernel) ha hs hs2 hn.2 hn.1
  · exact q_bltn (id := "repr") (sB_repr g.fx.K g.gd g.un) gl m0 (by decide +kernel) ha hs hs2 hn.2 hn.1
  · exact q_bltt (id := "str") sB_str gl m0 (by decide +kernel) ha hs hs2 hn.2 hn.1
  · exact q_bltn (id := "all") (sB_all (g.calm hc)) gl m0 (by decide +kernel) ha hs hs2 hn.2 hn.1
mutual
theorem sG {X : Cx} {c : Ct} (g : Good X G P n c) : ∀ (t : Tg) (x : Expr), chkG c t x = true → PG X x (tgT G.K t)
  | .nm i, x, h => by
    unfold chkG at h
    split at h
    · simp only [Bool.and_eq_true, decide_eq_true_eq] at h
      obtain ⟨l1, l2⟩ := loc_ok g h.2
      exact pg_name g.nd (by rw [g.N]; exact h.1) l1 l2
    · cases h
  | .tp ts, x, h => by
    unfold chkG at h
    split at h
    · rename_i xs k p
      simp only [Bool.and_eq_true] at h
      obtain ⟨h1, h2, h3⟩ := sGs g ts xs h.2
      have q := pg_tup (X := X) (n := ts.len) (k := k) (pos := p) (g.calm h.1) h1 h2 h3
      rw [g.fx.K] at q
      exact q
    · cases h
theorem sGs {X : Cx} {c : Ct} (g : Good X G P n c) : ∀ (ts : Tgs) (xs : List Expr), chkGs c ts xs = true → PGs X xs (tgTs G.K ts) ∧ (assignEach xs X.env).length = ts.len ∧ (assignEach xs X.env).findIdx? (·.1) = none
  | .nil, xs, h => by
    unfold chkGs at h
    rw [List.isEmpty_iff.mp h]
    exact ⟨pgs_nil, rfl, rfl⟩
  | .cons t ts, xs, h => by
    unfold chkGs at h
    cases xs with
    | nil => cases h
    | cons x r =>
      dsimp only at h
      simp only [Bool.and_eq_true] at h
      obtain ⟨h1, h2, h3⟩ := sGs g ts r h.2
      have hx := sG g t x h.1
      have ns : assignEach (x :: r) X.env = (false, assign x X.env) :: assignEach r X.env := by
        have : ∀ y p, x ≠ .Starred y p := by
          intro y p e
          subst e
          cases t <;> (unfold chkG at h; exact absurd h.1 (by simp))
        cases x <;> first | rfl | exact absurd rfl (this _ _)
      rw [ns]
      refine ⟨pgs_cons hx h1 (by rw [ns]; rfl), by simp [h2, Tgs.len], ?_⟩
      rw [List.findIdx?_cons]
      simp [h3]
end
mutual
theorem sE : ∀ (e : IE) (X : Cx) (c : Ct) (W : WX) (x : Expr), Good X G P n c → Takes X W → chkE P c e x = true → PE X x (LE G W (wpE (wpCall P n) e))
  | .var i, X, c, W, x, g, tk, h => by
    unfold chkE at h
    split at h
    · simp only [Bool.and_eq_true, decide_eq_true_eq] at h
      obtain ⟨h1, h2, h3⟩ := nm_ok h.2
      exact q_var (by rw [g.N]; exact h.1.1) (vis_ok g h.1.2) h1 h2
    · cases h
  | .cst d, X, c, W, x, g, tk, h => by
    unfold chkE at h
    split at h
    · exact sConst h
    · cases h
  | .fnv k, X, c, W, x, g, tk, h => by
    unfold chkE at h
    split at h
    · split at h
      · rename_i f ef
        simp only [Bool.and_eq_true, decide_eq_true_eq] at h
        obtain ⟨h1, h2, h3⟩ := nm_ok h.2
        obtain ⟨rfl, hg⟩ := h.1
        exact q_const (pe_glob (v := V.ref (G.fa k)) (gl_ok g hg) (g.fx.gl k f ef) rfl h1) fun _ => Rp.fn.mpr rfl
      · cases h
    · cases h
  | .gc y d, X, c, W, x, g, tk, h => by
    unfold chkE at h
    cases h
  | .bin o a b, X, c, W, x, g, tk, h => by
    unfold chkE at h
    split at h
    · simp only [Bool.and_eq_true] at h
      exact q_bin (sOp h.1.1) (sE a X c W _ g tk h.1.2) (sE b X c W _ g tk h.2)
    · cases h
  | .neg a, X, c, W, x, g, tk, h => by
    unfold chkE at h
    split at h
    · split at h
      · exact q_neg (sE a X c W _ g tk h)
      · cases h
    · cases h
  | .nt a, X, c, W, x, g, tk, h => by
    unfold chkE at h
    split at h
    · split at h
      · exact q_not (sE a X c W _ g tk h)
      · cases h
    · cases h
  | .cmp o a b, X, c, W, x, g, tk, h => by
    unfold chkE at h
    split at h
    · simp only [Bool.and_eq_true] at h
      exact q_cmp (sCmp h.1.1) (sE a X c W _ g tk h.1.2) (sE b X c W _ g tk h.2) (no_marks (X := X) (W := W) h.1.1)
    · cases h
  | .conj es, X, c, W, x, g, tk, h => by
    unfold chkE at h
    split at h
    · split at h
      · exact sConj es X c W _ _ g tk h
      · cases h
    · cases h
  | .disj es, X, c, W, x, g, tk, h => by
    unfold chkE at h
    split at h
    · split at h
      · exact sDisj es X c W _ _ g tk h
      · cases h
    · cases h
  | .ite t a b, X, c, W, x, g, tk, h => by
    unfold chkE at h
    split at h
    · simp only [Bool.and_eq_true, Bool.or_eq_true] at h
      refine q_ite ?_ (sE a X c W _ g tk h.1.2) (sE b X c W _ g tk h.2)
      rcases h.1.1 with h1 | h1
      · exact sT t X c W _ g tk h1
      · exact qt_val (sE t X c W _ g tk h1.2) h1.1
    · cases h
  | .tup es, X, c, W, x, g, tk, h => by
    unfold chkE at h
    split at h
    · exact q_tup (sEs es X c W _ g tk h)
    · cases h
  | .lst es, X, c, W, x, g, tk, h => by
    unfold chkE at h
    split at h
    · exact q_lst (sEs es X c W _ g tk h)
    · cases h
  | .idx a i, X, c, W, x, g, tk, h => by
    unfold chkE at h
    split at h
    · simp only [Bool.and_eq_true] at h
      exact q_idx (sb_idx g.fx.K) (sE a X c W _ g tk h.1.1) (sE i X c W _ g tk h.1.2) h.2
    · cases h
  | .call k es, X, c, W, x, g, tk, h => by
    unfold chkE at h
    split at h
    · rename_i x0 p0 ys p1
      split at h
      · rename_i f ef
        simp only [Bool.and_eq_true, decide_eq_true_eq] at h
        obtain ⟨⟨⟨⟨rfl, hg⟩, hn⟩, hc⟩, hes⟩ := h
        obtain ⟨h1, h2, h3⟩ := nm_ok hn
        have ha := sEs es X c W _ g tk hes
        have hst := chkEs_star hes
        have hr := (g.room hc).mono (j := lev n) (Nat.le_succ _)
        cases ys with
        | nil =>
          cases es with
          | nil => exact q_call0 g.fx ef g.gd hr tk (gl_ok g hg) h1
          | cons e1 es1 => unfold chkEs at hes; cases hes
        | cons y ys =>
          rw [List.all_cons, Bool.and_eq_true] at hst
          exact q_call g.fx ef g.gd hr tk (gl_ok g hg) h1 ha hst.1 hst.2
      · cases h
    · cases h
  | .callk k nm pt es ks, X, c, W, x, g, tk, h => by
    unfold chkE at h
    split at h
    · rename_i x0 p0 ys kws0 p1
      split at h
      · rename_i f ef
        simp only [Bool.and_eq_true, decide_eq_true_eq] at h
        obtain ⟨⟨⟨⟨⟨⟨⟨rfl, hg⟩, hn⟩, hc⟩, hm⟩, hk⟩, hes⟩, hks⟩ := h
        obtain ⟨h1, h2, h3⟩ := nm_ok hn
        have ha := sEs es X c W _ g tk hes
        have hkw := sKw ks X c W _ g tk hks
        have hst := chkEs_star hes
        have hl := chkEs_len hes
        have hr := (g.room hc).mono (j := lev n) (Nat.le_succ _)
        cases ys with
        | nil =>
          cases es with
          | nil => exact q_callk0 g.fx ef g.gd hr tk (gl_ok g hg) h1 hm hk hkw
          | cons e1 es1 => unfold chkEs at hes; cases hes
        | cons y ys =>
          rw [List.all_cons, Bool.and_eq_true] at hst
          exact q_callk g.fx ef g.gd hr tk (gl_ok g hg) h1 hm hk ha hst.1 hst.2 hkw hl
      · cases h
    · cases h
  | .callv i es, X, c, W, x, g, tk, h => by
    unfold chkE at h
    split at h
    · simp only [Bool.and_eq_true, decide_eq_true_eq, Bool.not_eq_true'] at h
      obtain ⟨⟨⟨⟨⟨hN, hv⟩, hn⟩, hc⟩, hes⟩, hne⟩ := h
      obtain ⟨h1, h2, h3⟩ := nm_ok hn
      have ha := sEs es X c W _ g tk hes
      have hst := chkEs_star hes
      have hr := (g.room hc).mono (j := lev n) (Nat.le_succ _)
      rename_i x0 p0 ys p1
      cases ys with
      | nil => cases hne
      | cons y ys =>
        rw [List.all_cons, Bool.and_eq_true] at hst
        exact q_callv g.fx g.gd hr tk (by rw [g.N]; exact hN) (vis_ok g hv) h1 h2 ha hst.1 hst.2
    · cases h
  | .blt f es, X, c, W, x, g, tk, h => by
    unfold chkE at h
    split at h
    · simp only [Bool.and_eq_true, decide_eq_true_eq, Bool.not_eq_true'] at h
      obtain ⟨⟨⟨⟨⟨rfl, hm⟩, hg⟩, hc⟩, hes⟩, hne⟩ := h
      have ha := sEs es X c W _ g tk hes
      have hst := chkEs_star hes
      rename_i p0 ys p1
      cases ys with
      | nil => cases hne
      | cons y ys =>
        rw [List.all_cons, Bool.and_eq_true] at hst
        exact sB g hc hm hg ha hst.1 hst.2
    · cases h
  | .comp tg it ts e own, X, c, W, x, g, tk, h => by
    unfold chkE at h
    split at h
    · rename_i elt tgE itE ifs scope p
      simp only [Bool.and_eq_true, decide_eq_true_eq, List.all_eq_true, List.contains_iff_mem] at h
      obtain ⟨⟨⟨⟨⟨⟨⟨⟨hc, hb⟩, ho⟩, hsl⟩, hset⟩, hi⟩, htg⟩, hts⟩, he⟩ := h
      have ok : BlkOk X.N X.env.scope scope (ownOf c.N own) := by
        rw [g.N, g.sc]
        exact blkOk_by hb
      have q := q_comp (pos := p) (W := W) g.fx.K (g.calm hc) g.nd (sI it X c W itE tgE g tk hi) ok (fun s H C cl fp => sG (g.blk hc s H scope C cl fp) tg tgE htg)
        (fun s H C cl fp => sTs ts _ _ ifs (g.blk hc s H scope C cl fp) takes0 hts) (fun s H C cl fp => sE e _ _ Wno elt (g.blk hc s H scope C cl fp) takes0 he) hset (fun i hi => by rw [ho]; exact hsl i hi)
      rw [ho] at q
      exact q
    · cases h
  | .fst es, X, c, W, x, g, tk, h => by
    unfold chkE at h
    split at h
    · rename_i xs p
      simp only [Bool.and_eq_true, decide_eq_true_eq] at h
      obtain ⟨tt, hj, hl⟩ := sF es X c W xs g tk h.1
      match xs, h.2, hj with
      | y1 :: y2 :: r, _, hj =>
        refine ⟨fun pins s σ H Q I hh => (pe_joined (pos := p) hj).run pins s σ H Q I ?_⟩
        obtain ⟨fr, S, Qd, Ed, rf, rs, hw, fe, fx⟩ := hh
        exact hl _ σ H _ ⟨fr, S, _, Ed, rf, rs, hw, fun out S' H' k' rs' q => fe _ S' _ H' k' rs' (Rp.str.mpr rfl) q, fx⟩
    · cases h
theorem sT : ∀ (e : IE) (X : Cx) (c : Ct) (W : WX) (x : Expr), Good X G P n c → Takes X W → chkT P c e x = true → PT X x (LT G W (wpE (wpCall P n) e))
  | .nt a, X, c, W, x, g, tk, h => by
    unfold chkT at h
    split at h
    · split at h
      · simp only [Bool.or_eq_true, Bool.and_eq_true] at h
        refine qt_not ?_
        rcases h with h1 | h1
        · exact sT a X c W _ g tk h1
        · exact qt_val (sE a X c W _ g tk h1.2) h1.1
      · cases h
    · cases h
  | .cmp o a b, X, c, W, x, g, tk, h => by
    unfold chkT at h
    split at h
    · simp only [Bool.and_eq_true] at h
      exact qt_cmp (sCmp h.1.1) (sE a X c W _ g tk h.1.2) (sE b X c W _ g tk h.2) (no_marks (X := X) (W := W) h.1.1)
    · cases h
  | .conj es, X, c, W, x, g, tk, h => by
    unfold chkT at h
    split at h
    · split at h
      · exact (sConjT es X c W _ _ g tk h).pt
      · cases h
    · cases h
  | .disj es, X, c, W, x, g, tk, h => by
    unfold chkT at h
    split at h
    · split at h
      · exact (sDisjT es X c W _ _ g tk h).pt
      · cases h
    · cases h
  | .var _, _, _, _, _, _, _, h => by unfold chkT at h; cases h
  | .cst _, _, _, _, _, _, _, h => by unfold chkT at h; cases h
  | .fnv _, _, _, _, _, _, _, h => by unfold chkT at h; cases h
  | .gc _ _, _, _, _, _, _, _, h => by unfold chkT at h; cases h
  | .bin _ _ _, _, _, _, _, _, _, h => by unfold chkT at h; cases h
  | .neg _, _, _, _, _, _, _, h => by unfold chkT at h; cases h
  | .ite _ _ _, _, _, _, _, _, _, h => by unfold chkT at h; cases h
  | .tup _, _, _, _, _, _, _, h => by unfold chkT at h; cases h
  | .lst _, _, _, _, _, _, _, h => by unfold chkT at h; cases h
  | .idx _ _, _, _, _, _, _, _, h => by unfold chkT at h; cases h
  | .call _ _, _, _, _, _, _, _, h => by unfold chkT at h; cases h
  | .callk _ _ _ _ _, _, _, _, _, _, _, h => by unfold chkT at h; cases h
  | .callv _ _, _, _, _, _, _, _, h => by unfold chkT at h; cases h
  | .blt _ _, _, _, _, _, _, _, h => by unfold chkT at h; cases h
  | .comp _ _ _ _ _, _, _, _, _, _, _, h => by unfold chkT at h; cases h
  | .fst _, _, _, _, _, _, _, h => by unfold chkT at h; cases h
theorem sEs : ∀ (es : IEs) (X : Cx) (c : Ct) (W : WX) (xs : List Expr), Good X G P n c → Takes X W → chkEs P c es xs = true → PA X xs (LA G W (wpEs (wpCall P n) es))
  | .nil, X, c, W, xs, g, tk, h => by
    unfold chkEs at h
    rw [List.isEmpty_iff.mp h]
    exact q_nil
  | .cons e es, X, c, W, xs, g, tk, h => by
    unfold chkEs at h
    cases xs with
    | nil => cases h
    | cons x r =>
      dsimp only at h
      simp only [Bool.and_eq_true] at h
      exact q_cons (sE e X c W x g tk h.1.2) (sEs es X c W r g tk h.2) h.1.1
theorem sKw : ∀ (es : IEs) (X : Cx) (c : Ct) (W : WX) (kws : List Keyword), Good X G P n c → Takes X W → chkEs P c es (kws.map (·.value)) = true → PK X kws (LA G W (wpEs (wpCall P n) es))
  | .nil, X, c, W, kws, g, tk, h => by
    unfold chkEs at h
    cases kws with
    | nil => exact q_knil
    | cons k r => cases h
  | .cons e es, X, c, W, kws, g, tk, h => by
    unfold chkEs at h
    cases kws with
    | nil => cases h
    | cons k r =>
      obtain ⟨nm, v, kp⟩ := k
      simp only [List.map_cons, Bool.and_eq_true] at h
      exact q_kcons (sE e X c W v g tk h.1.2) (sKw es X c W r g tk h.2)
theorem sConj : ∀ (es : IEs) (X : Cx) (c : Ct) (W : WX) (xs : List Expr) (pos : Pos), Good X G P n c → Takes X W → chkEs P c es xs = true → PE X (.BoolOp .And xs pos) (LE G W (wpConj (wpCall P n) es))
  | .nil, X, c, W, xs, pos, g, tk, h => ⟨fun pins s σ H Q I hh => by
    obtain ⟨fr, S, Qd, Ed, rf, rs, hw, fe, fx⟩ := hh
    exact hw.elim⟩
  | .cons e es, X, c, W, xs, pos, g, tk, h => by
    unfold chkEs at h
    cases xs with
    | nil => cases h
    | cons x r =>
      dsimp only at h
      simp only [Bool.and_eq_true] at h
      have hx := sE e X c W x g tk h.1.2
      cases es with
      | nil =>
        have h2 := h.2
        unfold chkEs at h2
        rw [List.isEmpty_iff.mp h2]
        exact q_one hx
      | cons e2 es2 =>
        have hr := sConj (.cons e2 es2) X c W r pos g tk h.2
        cases r with
        | nil => have h2 := h.2; unfold chkEs at h2; cases h2
        | cons y r => exact q_and hx hr
theorem sDisj : ∀ (es : IEs) (X : Cx) (c : Ct) (W : WX) (xs : List Expr) (pos : Pos), Good X G P n c → Takes X W → chkEs P c es xs = true → PE X (.BoolOp .Or xs pos) (LE G W (wpDisj (wpCall P n) es))
  | .nil, X, c, W, xs, pos, g, tk, h => ⟨fun pins s σ H Q I hh => by
    obtain ⟨fr, S, Qd, Ed, rf, rs, hw, fe, fx⟩ := hh
    exact hw.elim⟩
  | .cons e es, X, c, W, xs, pos, g, tk, h => by
    unfold chkEs at h
    cases xs with
    | nil => cases h
    | cons x r =>
      dsimp only at h
      simp only [Bool.and_eq_true] at h
      have hx := sE e X c W x g tk h.1.2
      cases es with
      | nil =>
        have h2 := h.2
        unfold chkEs at h2
        rw [List.isEmpty_iff.mp h2]
        exact q_one hx
      | cons e2 es2 =>
        have hr := sDisj (.cons e2 es2) X c W r pos g tk h.2
        cases r with
        | nil => have h2 := h.2; unfold chkEs at h2; cases h2
        | cons y r => exact q_or hx hr
theorem sConjT : ∀ (es : IEs) (X : Cx) (c : Ct) (W : WX) (xs : List Expr) (pos : Pos), Good X G P n c → Takes X W → chkTl P c es xs = true → PW X (.BoolOp .And xs pos) (LT G W (wpConj (wpCall P n) es))
  | .nil, X, c, W, xs, pos, g, tk, h => ⟨fun wh pins s σ H Q I hh => by
    obtain ⟨fr, S, Qd, Ed, rf, rs, hw, fe, fx⟩ := hh
    exact hw.elim⟩
  | .cons e es, X, c, W, xs, pos, g, tk, h => by
    unfold chkTl at h
    cases xs with
    | nil => cases h
    | cons x r =>
      dsimp only at h
      simp only [Bool.and_eq_true, Bool.or_eq_true] at h
      have hx : PT X x (LT G W (wpE (wpCall P n) e)) := by
        rcases h.1 with h1 | h1
        · exact sT e X c W _ g tk h1
        · exact qt_val (sE e X c W _ g tk h1.2) h1.1
      cases es with
      | nil =>
        have h2 := h.2
        unfold chkTl at h2
        rw [List.isEmpty_iff.mp h2]
        exact pw_and1 hx
      | cons e2 es2 =>
        have hr := sConjT (.cons e2 es2) X c W r pos g tk h.2
        cases r with
        | nil => have h2 := h.2; unfold chkTl at h2; cases h2
        | cons y r => exact qw_and hx hr
theorem sDisjT : ∀ (es : IEs) (X : Cx) (c : Ct) (W : WX) (xs : List Expr) (pos : Pos), Good X G P n c → Takes X W → chkTl P c es xs = true → PW X (.BoolOp .Or xs pos) (LT G W (wpDisj (wpCall P n) es))
  | .nil, X, c, W, xs, pos, g, tk, h => ⟨fun wh pins s σ H Q I hh => by
    obtain ⟨fr, S, Qd, Ed, rf, rs, hw, fe, fx⟩ := hh
    exact hw.elim⟩
  | .cons e es, X, c, W, xs, pos, g, tk, h => by
    unfold chkTl at h
    cases xs with
    | nil => cases h
    | cons x r =>
      dsimp only at h
      simp only [Bool.and_eq_true, Bool.or_eq_true] at h
      have hx : PT X x (LT G W (wpE (wpCall P n) e)) := by
        rcases h.1 with h1 | h1
        · exact sT e X c W _ g tk h1
        · exact qt_val (sE e X c W _ g tk h1.2) h1.1
      cases es with
      | nil =>
        have h2 := h.2
        unfold chkTl at h2
        rw [List.isEmpty_iff.mp h2]
        exact pw_or1 hx
      | cons e2 es2 =>
        have hr := sDisjT (.cons e2 es2) X c W r pos g tk h.2
        cases r with
        | nil => have h2 := h.2; unfold chkTl at h2; cases h2
        | cons y r => exact qw_or hx hr
theorem sTs : ∀ (es : IEs) (X : Cx) (c : Ct) (xs : List Expr), Good X G P n c → Takes X Wno → chkTs P c es xs = true → PTs X xs (LT G Wno (wpTs (wpCall P n) es))
  | .nil, X, c, xs, g, tk, h => by
    unfold chkTs at h
    rw [List.isEmpty_iff.mp h]
    refine ⟨fun pins s σ H Q I hh => pts_nil.run pins s σ H Q I ?_⟩
    obtain ⟨fr, S, Qd, Ed, rf, rs, hw, fe, fx⟩ := hh
    obtain ⟨b, e, q⟩ := fe _ S H (TK.refl G H) rs hw
    cases e
    exact q
  | .cons e es, X, c, xs, g, tk, h => by
    unfold chkTs at h
    split at h
    · rename_i x
      have hx : PT X x (LT G Wno (wpE (wpCall P n) e)) := by
        simp only [Bool.or_eq_true, Bool.and_eq_true] at h
        rcases h with h1 | h1
        · exact sT e X c Wno _ g tk h1
        · exact qt_val (sE e X c Wno _ g tk h1.2) h1.1
      refine ⟨fun pins s σ H Q I hh => (pts_one hx).run pins s σ H Q I ?_⟩
      obtain ⟨fr, S, Qd, Ed, rf, rs, hw, fe, fx⟩ := hh
      refine ⟨fr, S, _, Ed, rf, rs, hw, fun d S1 H1 k1 rs1 h1 => ?_, fx⟩
      (try dsimp only at h1)
      split at h1
      · exact fe _ S1 H1 k1 rs1 h1
      · exact fe _ S1 H1 k1 rs1 h1
      · exact h1.elim
    · cases h
theorem sF : ∀ (es : IEs) (X : Cx) (c : Ct) (W : WX) (xs : List Expr), Good X G P n c → Takes X W → chkF P c es xs = true → ∃ ts, PJ X xs ts ∧ LJ G W (wpF (wpCall P n) es) ts
  | .nil, X, c, W, xs, g, tk, h => by
    unfold chkF at h
    rw [List.isEmpty_iff.mp h]
    exact ⟨[], .nil, j_nil⟩
  | .cons e es, X, c, W, xs, g, tk, h => by
    unfold chkF at h
    cases xs with
    | nil => cases h
    | cons x r =>
      dsimp only at h
      simp only [Bool.and_eq_true] at h
      obtain ⟨tt, h1, h2⟩ := sF es X c W r g tk h.2
      have hx := h.1
      split at hx
      · rename_i v k fs p
        simp only [Bool.and_eq_true, decide_eq_true_eq, Option.isNone_iff_eq_none] at hx
        obtain ⟨⟨rfl, rfl⟩, hv⟩ := hx
        exact ⟨_, .cons (q_fmt (sE e X c W v g tk hv)) h1, j_val h2⟩
      · split at hx
        · cases of_decide_eq_true hx
          exact ⟨_, .cons pe_str h1, j_str h2⟩
        · cases hx
      · cases hx
theorem sI : ∀ (it : II) (X : Cx) (c : Ct) (W : WX) (x tg : Expr), Good X G P n c → Takes X W → chkI P c it x = true → PI X tg x (LI G W (wpI (wpCall P n) it))
  | .rng1 e, X, c, W, x, tg, g, tk, h => by
    unfold chkI at h
    split at h
    · simp only [Bool.and_eq_true, decide_eq_true_eq] at h
      obtain ⟨⟨⟨⟨rfl, hm⟩, hg⟩, hs⟩, he⟩ := h
      exact qi_rng1 (gl_ok g hg) (g.fx.blt _ hm) (sE e X c W _ g tk he) hs
    · cases h
  | .seq e, X, c, W, x, tg, g, tk, h => by
    unfold chkI at h
    exact qi_seq g.fx.K (sE e X c W _ g tk h)
end
end
end L3

namespace L3
open PySem PySem.Spec PyProof.Rows L2
/-! ### statements -/
section
variable {X : Cx} {G : Gd} {W : WX} {a b t : Expr} {wa wb wt : WEx} {pos : Pos}
theorem s_store {te : TE} {i : Nat} {st : Stmt} {we : WEx} (h : PS X st (tAsg te (gName i))) (he : ∀ σ H Q, LE G W we σ H Q → te σ H Q) : PS X st (LS G W (fun fr S P => we fr S (fun d S1 => P.nx (fr.set i (some d)) S1) (fun x S1 => P.xc x fr S1))) := by
  refine ⟨fun pins s σ H D I hh => h.run pins s σ H D I ?_⟩
  obtain ⟨fr, S, P, rf, rs, hw, fs⟩ := hh
  exact he _ _ _ ⟨fr, S, _, _, rf, rs, hw, fun d S1 v H1 k1 rs1 r1 h1 => fs.nx _ S1 _ H1 k1 ((rf.tk k1).set i r1) rs1 h1, fs.fx rf⟩
theorem s_exp {e : Expr} {we : WEx} (he : PE X e (LE G W we)) (hs : noComp e = true) : PS X (.Expr e pos) (LS G W (fun fr S P => we fr S (fun _ S1 => P.nx fr S1) (fun x S1 => P.xc x fr S1))) := by
  refine ⟨fun pins s σ H D I hh => (ps_expr (pos := pos) he (no_swap hs)).run pins s σ H D I ?_⟩
  obtain ⟨fr, S, P, rf, rs, hw, fs⟩ := hh
  exact ⟨fr, S, _, _, rf, rs, hw, fun d S1 v H1 k1 rs1 r1 h1 => fs.nx _ S1 _ H1 k1 (rf.tk k1) rs1 h1, fs.fx rf⟩
theorem s_ret {e : Expr} {we : WEx} (he : PE X e (LE G W we)) : PS X (.Return (some e) pos) (LS G W (fun fr S P => we fr S P.rt (fun x S1 => P.xc x fr S1))) := by
  refine ⟨fun pins s σ H D I hh => (ps_ret (pos := pos) he).run pins s σ H D I ?_⟩
  obtain ⟨fr, S, P, rf, rs, hw, fs⟩ := hh
  exact ⟨fr, S, _, _, rf, rs, hw, fs.rt, fs.fx rf⟩
theorem s_retn : PS X (.Return none pos) (LS G W (fun fr S P => P.rt .non S)) := by
  refine ⟨fun pins s σ H D I hh => (ps_retN (pos := pos)).run pins s σ H D I ?_⟩
  obtain ⟨fr, S, P, rf, rs, hw, fs⟩ := hh
  exact fs.rt _ S _ H (TK.refl G H) rs (Rp.non.mpr rfl) hw
theorem s_pass : PS X (.Pass pos) (LS G W (fun fr S P => P.nx fr S)) := by
  refine ⟨fun pins s σ H D I hh => (ps_pass (pos := pos)).run pins s σ H D I ?_⟩
  obtain ⟨fr, S, P, rf, rs, hw, fs⟩ := hh
  exact fs.nx _ S _ H (TK.refl G H) rf rs hw
theorem s_nil : PSs X [] (LS G W (fun fr S P => P.nx fr S)) := by
  refine ⟨fun pins s σ H D I hh => pss_nil.run pins s σ H D I ?_⟩
  obtain ⟨fr, S, P, rf, rs, hw, fs⟩ := hh
  exact fs.nx _ S _ H (TK.refl G H) rf rs hw
theorem s_cons {st : Stmt} {sts : List Stmt} {w1 w2 : WSt} (h1 : PS X st (LS G W w1)) (h2 : PSs X sts (LS G W w2)) : PSs X (st :: sts) (LS G W (fun fr S P => w1 fr S { nx := fun fr' S' => w2 fr' S' P, rt := P.rt, bk := P.bk, ct := P.ct, xc := P.xc })) := by
  refine ⟨fun pins s σ H D I hh => (pss_cons h1 h2).run pins s σ H D I ?_⟩
  obtain ⟨fr, S, P, rf, rs, hw, fs⟩ := hh
  exact ⟨fr, S, _, rf, rs, hw, ⟨fun fr' S' σ' H' k' rf' rs' h' => ⟨fr', S', P, rf', rs', h', fs.tk k'⟩, fs.rt, fs.bk, fs.ct, fs.xc⟩⟩
theorem s_if {s1 s2 : List Stmt} {w1 w2 : WSt} (ht : PT X t (LT G W wt)) (h1 : PSs X s1 (LS G W w1)) (h2 : PSs X s2 (LS G W w2)) : PS X (.If t s1 s2 pos) (LS G W (fun fr S P => wt fr S (fun d S1 => match d with
    | .bl true => w1 fr S1 P
    | .bl false => w2 fr S1 P
    | _ => False) (fun x S1 => P.xc x fr S1))) := by
  refine ⟨fun pins s σ H D I hh => (ps_if (pos := pos) ht h1 h2).run pins s σ H D I ?_⟩
  obtain ⟨fr, S, P, rf, rs, hw, fs⟩ := hh
  refine ⟨fr, S, _, _, rf, rs, hw, fun d S1 H1 k1 rs1 h1 => ?_, fs.fx rf⟩
  (try dsimp only at h1)
  split at h1
  · exact ⟨true, rfl, iteT ⟨fr, S1, P, rf.tk k1, rs1, h1, fs.tk k1⟩⟩
  · exact ⟨false, rfl, iteF ⟨fr, S1, P, rf.tk k1, rs1, h1, fs.tk k1⟩⟩
  · exact h1.elim
theorem s_while {body : List Stmt} {w1 : WSt} (hp : PassesOwn (model X.prog X.w) X.A X.env X.xe) (ht : PT X t (LT G W wt)) (hb : PSs X body (LS G W w1)) : PS X (.While t body [] pos) (LS G W (fun fr S P => ∃ V : Nat → Fr → Sto → Prop, (∃ m, V m fr S) ∧ ∀ m fr2 S2, V m fr2 S2 →
      wt fr2 S2 (fun d S3 => match d with
        | .bl true => w1 fr2 S3 { nx := fun fr' S' => ∃ m', m' < m ∧ V m' fr' S', rt := P.rt, bk := P.nx, ct := fun fr' S' => ∃ m', m' < m ∧ V m' fr' S', xc := P.xc }
        | .bl false => P.nx fr2 S3
        | _ => False) (fun x S3 => P.xc x fr2 S3))) := by
  refine ⟨fun pins s σ H D I hh => (ps_while (pos := pos) hp ht hb).run pins s σ H D I ?_⟩
  obtain ⟨fr, S, P, rf, rs, ⟨V, ⟨m0, v0⟩, turn⟩, fs⟩ := hh
  refine ⟨fun m σ1 H1 => ∃ fr1 S1, TK G H H1 ∧ RF G H1 fr1 σ1 ∧ RS G S1 H1 ∧ V m fr1 S1, ⟨m0, fr, S, TK.refl G H, rf, rs, v0⟩, ?_⟩
  rintro m σ1 H1 ⟨fr1, S1, k1, rf1, rs1, v1⟩
  refine ⟨fr1, S1, _, _, rf1, rs1, turn m fr1 S1 v1, fun d S2 H2 k2 rs2 h2 => ?_, (fs.tk k1).fx rf1⟩
  (try dsimp only at h2)
  split at h2
  · refine ⟨true, rfl, iteT ⟨fun σ' H' => ∃ m', m' < m ∧ ∃ fr1 S1, TK G H H' ∧ RF G H' fr1 σ' ∧ RS G S1 H' ∧ V m' fr1 S1, fun σ' H' h => ?_, fr1, S2, _, rf1.tk k2, rs2, h2, ⟨fun fr' S' σ' H' k' rf' rs' h => ?_, (fs.tk (k1.trans k2)).rt, (fs.tk (k1.trans k2)).nx, fun fr' S' σ' H' k' rf' rs' h => ?_, (fs.tk (k1.trans k2)).xc⟩⟩⟩
    · obtain ⟨m', hm, r⟩ := h
      exact ⟨m', hm, r⟩
    · obtain ⟨m', hm, v'⟩ := h
      exact ⟨m', hm, fr', S', (k1.trans k2).trans k', rf', rs', v'⟩
    · obtain ⟨m', hm, v'⟩ := h
      exact ⟨m', hm, fr', S', (k1.trans k2).trans k', rf', rs', v'⟩
  · exact ⟨false, rfl, iteF ((fs.tk (k1.trans k2)).nx fr1 S2 σ1 H2 (TK.refl G H2) (rf1.tk k2) rs2 h2)⟩
  · exact h2.elim
theorem s_for {tg it : Expr} {body : List Stmt} {T : Tg} {wi : WIt} {w1 : WSt} (hp : PassesOwn (model X.prog X.w) X.A X.env X.xe) (hc : X.calm = true) (hi : PI X tg it (LI G W wi)) (hg : PG X tg (tgT G.K T)) (hb : PSs X body (LS G W w1)) (hs : noSet it = true) :
    PS X (.For tg it body [] pos) (LS G W (fun fr S P => wi fr S (fun J S1 => ∃ V : Nat → Nat → Fr → Sto → Prop, (∃ m, V 0 m fr S1) ∧ ∀ i m fr2 S2, V i m fr2 S2 →
      match J i S2 with
      | none => False
      | some none => P.nx fr2 S2
      | some (some d) => match bindG T d fr2 with
        | none => False
        | some fr3 => w1 fr3 S2 { nx := fun fr' S' => ∃ m', m' < m ∧ V (i + 1) m' fr' S', rt := P.rt, bk := P.nx, ct := fun fr' S' => ∃ m', m' < m ∧ V (i + 1) m' fr' S', xc := P.xc }) (fun x S1 => P.xc x fr S1))) := by
  refine ⟨fun pins s σ H D I hh => (ps_for (pos := pos) hp hc hi hg hb (no_fold hs)).run pins s σ H D I ?_⟩
  obtain ⟨fr, S, P, rf, rs, hw, fs⟩ := hh
  refine ⟨fr, S, _, _, rf, rs, hw, fun J S1 Jv H1 k1 rs1 ir h1 => ?_, fs.fx rf⟩
  obtain ⟨V, ⟨m0, v0⟩, turn⟩ := h1
  refine ⟨fun i m σ2 H2 => ∃ fr2 S2, TK G H1 H2 ∧ RF G H2 fr2 σ2 ∧ RS G S2 H2 ∧ V i m fr2 S2, ⟨m0, fr, S1, TK.refl G H1, rf.tk k1, rs1, v0⟩, ?_⟩
  rintro i m σ2 H2 ⟨fr2, S2, k2, rf2, rs2, v2⟩
  have tn := turn i m fr2 S2 v2
  obtain ⟨ir1, ir2⟩ := ir i S2 H2 k2 rs2
  cases ej : J i S2 with
  | none => rw [ej] at tn; exact tn.elim
  | some od =>
    cases od with
    | none =>
      rw [ej] at tn
      exact .inl ⟨ir1 ej, fs.nx fr2 S2 σ2 H2 (k1.trans k2) rf2 rs2 tn⟩
    | some d =>
      rw [ej] at tn
      dsimp only at tn
      obtain ⟨go, yl⟩ := ir2 d ej
      cases eb : bindG T d fr2 with
      | none => rw [eb] at tn; exact tn.elim
      | some fr3 =>
        rw [eb] at tn
        refine .inr ⟨go, fun σ' H' => ∃ m', m' < m ∧ ∃ fr' S', TK G H1 H' ∧ RF G H' fr' σ' ∧ RS G S' H' ∧ V (i + 1) m' fr' S', fun σ' H' h => ?_, fun x H3 y => ?_⟩
        · obtain ⟨m', hm, r⟩ := h
          exact ⟨m', hm, r⟩
        · obtain ⟨k3, rs3, r3⟩ := yl x H3 y
          have kk := (k1.trans k2).trans k3
          refine tg_ok T d x fr2 fr3 σ2 _ r3 eb (rf2.tk k3) fun σ3 rf3 _ => ⟨fr3, S2, _, rf3, rs3, tn, ⟨fun fr' S' σ' H' k' rf' rs' h => ?_, (fs.tk kk).rt, (fs.tk kk).nx, fun fr' S' σ' H' k' rf' rs' h => ?_, (fs.tk kk).xc⟩⟩
          · obtain ⟨m', hm, v'⟩ := h
            exact ⟨m', hm, fr', S', (k2.trans k3).trans k', rf', rs', v'⟩
          · obtain ⟨m', hm, v'⟩ := h
            exact ⟨m', hm, fr', S', (k2.trans k3).trans k', rf', rs', v'⟩
/-! ### raise, try -/
theorem pmk_none {C : Addr} {bmB : List Value} {B newId initId : String} {x : Str} {p : Pos} (F : ExcBaseFacts B newId initId bmB) (q : PySem.W.excIn X.K C bmB newId = true) (gC : X.mg x = some (.ref C)) (kC : PySem.W.keepIn X.K (.ref C) = true)
    (r : Raises X (.ref C)) (hg : Gl X x) (hdb : (x == ("__debug__" : Str)) = false) : PMk X (.Call (.Name x p) [] [] pos) (fun _ H Q => Q (.ref C) none H) := by
  intro pins s σ H Q I h
  refine wpAny_Call_Name_kw (ld_glob I hg gC ?_ hdb)
  refine PySem.W.callWith_K0 I.kIn kC ?_
  obtain ⟨bm, N, nm, qn, bs, hdct, sn, sub, ab, col, dd, k0, k1, k2, k3, k5, mN, hC, hN, hni, T⟩ := exc_obj I.kIn q
  refine wpAny_call_exc_subT F T hC hN hni (fun h' e hm => ?_) (Nat.zero_le _)
  exact mk_of I hm r h (I.hok.gone hm.new)
theorem s_raise {k : Nat} {x : Str} {p q : Pos} (F : ClsF X G k x) (hc : X.calm = true) (tk : Takes X W) (hg : Gl X x) (hd : (x == ("__debug__" : Str)) = false) :
    PS X (.Raise (some (.Call (.Name x p) [] [] q)) none pos) (LS G W (fun fr S P => P.xc ⟨.cls k, []⟩ fr S)) := by
  obtain ⟨bmB, B, newId, initId, xf, xi⟩ := F.xc
  refine ⟨fun pins s σ H D I hh => (ps_raise (pos := pos) hc tk (pmk_none (pos := q) (p := p) xf xi F.gl F.kp (raises_own F.sub F.ty) hg hd)).run pins s σ H D I ?_⟩
  obtain ⟨fr, S, P, rf, rs, hw, fs⟩ := hh
  exact fs.xc _ fr S _ _ σ H (TK.refl G H) rf rs ⟨rfl, .inl ⟨rfl, rfl⟩⟩ hw
theorem s_try {P : PD} {n k : Nat} {x : Str} {np q : Pos} {b0 : Stmt} {body suite : List Stmt} {wb wh : WSt} (F : Facts X G P n) (ex : P.cls[k]? = some x) (hs : X.stack = X.env :: X.outer) (hf : X.env.frame = some X.env.locals) (hg : Gl X x) (hd : (x == ("__debug__" : Str)) = false) (tk : Takes X W)
    (hb : ∀ (W' : WX) (pn : List (Addr × Obj)) (xe : Value → Shared → Prop), Takes (X.tr pn xe) W' → PassesOwn (model X.prog X.w) X.A X.env xe → PSs (X.tr pn xe) body (LS G W' wb))
    (hsu : ∀ (a : Addr) (oe : Obj) (cls : Value) (d : Option Addr) (pn : List (Addr × Obj)), Zc cls d oe → (∃ vs, oe.data = .fields vs) → PSs (X.suite a ((a, oe) :: pn)) (b0 :: suite) (LS G Wno wh)) :
    PS X (.Try body [.ExceptHandler (some (.Name x np)) none (b0 :: suite) q] [] [] pos) (LS G W (fun fr S Pq => wb fr S { nx := Pq.nx, rt := Pq.rt, bk := Pq.bk, ct := Pq.ct, xc := fun e fr' S' => match e.cls with
      | .cls j => if P.sub j k = true then wh fr' S' { nx := Pq.nx, rt := Pq.rt, bk := Pq.bk, ct := Pq.ct, xc := fun _ _ _ => False } else Pq.xc e fr' S'
      | _ => False })) := by
  have C := F.cls k x ex
  refine ⟨fun pins s σ H D I hh => (ps_try_only (pos := pos) (pos' := q) (np := np) (tb := fun W' => LS G W' wb) (ts := fun _ _ _ => LS G Wno wh) hs hf ⟨hg, hd, .inl C.gl⟩ tk hb hsu).run pins s σ H D I ?_⟩
  obtain ⟨fr, S, Pq, rf, rs, hw, fs⟩ := hh
  refine ⟨fr, S, _, rf, rs, hw, ⟨fs.nx, fs.rt, fs.bk, fs.ct, fun e fr' S' c d σ' H' k' rf' rs' rx h => ?_⟩⟩
  (try dsimp only at h)
  split at h
  · rename_i j ej
    have hj2 := F.exm j k _ ex
    have ec : c = .ref (G.ca j) := by rw [rx.cls, ej]; rfl
    refine ⟨P.sub j k, by rw [ec]; exact hj2, fun hb => ?_, fun hb => ?_⟩
    · rw [if_pos hb] at h
      intro a ha
      exact ⟨fr', S', _, rf', rs', h, ⟨(fs.tk k').nx, (fs.tk k').rt, (fs.tk k').bk, (fs.tk k').ct, fun _ _ _ _ _ _ _ _ _ _ _ z => z.elim⟩⟩
    · rw [if_neg (by rw [hb]; decide)] at h
      exact fs.xc e fr' S' c d σ' H' k' rf' rs' rx h
  · exact h.elim
end
end L3

namespace L3
open PySem PySem.Spec PyProof.Rows L2
section
variable {X : Cx} {G : Gd} {W : WX} {a b t : Expr} {wa wb wt : WEx} {pos : Pos}
/-! ### stores -/
theorem par_sw {env : Env} {x y : Str} {px py pt pt2 : Pos} {k1 k2 : Nat} (hk : env.scope.kind = .function) (hx : env.scope.names.lookup x = some .local) (hy : env.scope.names.lookup y = some .local) (hl : (py.line == px.line) = true) (hxy : x ≠ y)
    (ha : noStar a = true) (hb : noStar b = true) (hf : (foldedForSure 8 a && foldedForSure 8 b) = false) (hc : (constantsAlone 8 a && constantsAlone 8 b) = false) :
    swappedStores [.Tuple [.Name x px, .Name y py] k1 pt] (.Tuple [a, b] k2 pt2) env = pure (some [x, y]) := by
  have kx : env.kindOf x = some .local := hx
  have ky : env.kindOf y = some .local := hy
  have kb : env.blockKind = .function := by unfold Env.blockKind; rw [hk]; rfl
  have hl' : py.line = px.line := eq_of_beq hl
  have nd : ([x, y] : List Str).eraseDups.length = 2 := by
    have e : (y == x) = false := by simpa using fun h => hxy h.symm
    have e2 : (x == y) = false := by simpa using hxy
    simp [List.eraseDups, List.eraseDupsBy, List.eraseDupsBy.loop, e, e2]
  unfold swappedStores
  simp only [pure_bind]
  simp [kb, kx, ky, hl', nd, hf, hc, Expr.pos]
  intro h
  rcases h with h | h
  · cases a <;> first | (cases h; done) | (cases ha; done)
  · cases b <;> first | (cases h; done) | (cases hb; done)
theorem no_swap1 {e t : Expr} {l : Nat} {env : Env} (h : noComp e = true) : swapsWithSole [t] e l env = pure false := no_swap h
theorem nodup_sw {env : Env} {xs : List Expr} {k : Nat} {pt : Pos} {e : Expr} (h : (match e with | .Tuple _ _ _ => false | _ => true) = true) : swappedStores [.Tuple xs k pt] e env = pure none := by
  cases e <;> first | rfl | (cases h; done)
theorem s_par {i j : Nat} {x y : Str} {px py pt pt2 : Pos} {k1 k2 : Nat} (hc : X.calm = true) (hN : X.N.Nodup) (hi : X.N[i]? = some x) (hj : X.N[j]? = some y) (hij : i ≠ j) (hx : X.env.scope.names.lookup x = some .local) (hy : X.env.scope.names.lookup y = some .local)
    (ha : PE X a (LE G W wa)) (hb : PE X b (LE G W wb)) (na : noStar a = true) (nb : noStar b = true) (hw : swappedStores [.Tuple [.Name x px, .Name y py] k1 pt] (.Tuple [a, b] k2 pt2) X.env = pure (some [x, y])) :
    PS X (.Assign [.Tuple [.Name x px, .Name y py] k1 pt] (.Tuple [a, b] k2 pt2) pos) (LS G W (fun fr S P => wa fr S (fun d S1 => wb fr S1 (fun d' S2 => P.nx ((fr.set i (some d)).set j (some d')) S2) (fun x S2 => P.xc x fr S2)) (fun x S1 => P.xc x fr S1))) := by
  refine ⟨fun pins s σ H D I hh => (ps_par (pos := pos) hc hN hi hj hij hx hy (pa_cons ha (pa_cons hb pa_nil (star_cons nb)) (star_cons na)) hw (no_swap1 rfl)).run pins s σ H D I ?_⟩
  obtain ⟨fr, S, P, rf, rs, hw, fs⟩ := hh
  refine ⟨fr, S, _, _, rf, rs, hw, fun d S1 v H1 k1 rs1 r1 h1 => ⟨fr, S1, _, _, rf.tk k1, rs1, h1, fun d2 S2 v2 H2 k2 rs2 r2 h2 => ?_, (fs.tk k1).fx (rf.tk k1)⟩, fs.fx rf⟩
  exact ⟨v, v2, rfl, fs.nx _ S2 _ H2 (k1.trans k2) (((rf.tk (k1.trans k2)).set i (Rp.tk k2 _ _ r1)).set j r2) rs2 h2⟩
/-- what a target wants -/
def LG (G : Gd) (W : WX) (w : D → Fr → Sto → Po → Prop) : TG := fun v σ H Q => ∃ d fr S P, Rp G H d v ∧ RF G H fr σ ∧ RS G S H ∧ w d fr S P ∧ (∀ fr' S' σ' H', TK G H H' → RF G H' fr' σ' → RS G S' H' → P.nx fr' S' → Q σ' H') ∧
  (∀ x fr' S' c d' σ' H', TK G H H' → RF G H' fr' σ' → RS G S' H' → RX G H' x c d' → P.xc x fr' S' → W c d' σ' H')
def LGs (G : Gd) (W : WX) (w : List D → Fr → Sto → Po → Prop) : TGs := fun vs σ H Q => ∃ ds fr S P, Rps G H ds vs ∧ RF G H fr σ ∧ RS G S H ∧ w ds fr S P ∧ (∀ fr' S' σ' H', TK G H H' → RF G H' fr' σ' → RS G S' H' → P.nx fr' S' → Q σ' H') ∧
  (∀ x fr' S' c d' σ' H', TK G H H' → RF G H' fr' σ' → RS G S' H' → RX G H' x c d' → P.xc x fr' S' → W c d' σ' H')
theorem g_name {i : Nat} {x : Str} (hN : X.N.Nodup) (hi : X.N[i]? = some x) (hx : Loc X.env.scope x) (hf : X.fn x = true ∨ X.env.scope.names.lookup x = some .local) : PG X (.Name x pos) (LG G W (fun d fr S P => P.nx (fr.set i (some d)) S)) := by
  refine ⟨fun pins s σ H v u Q I r h => (pg_name (pos := pos) hN hi hx hf).run pins s σ H v u Q I r ?_⟩
  obtain ⟨d, fr, S, P, rd, rf, rs, hw, nx, xc⟩ := h
  exact nx _ S _ H (TK.refl G H) (rf.set i rd) rs hw
theorem plain_sub {o i : Expr} (h : plainIx i = true) : ∀ v, assign (.Subscript o i pos) X.env v = (do
      let ov ← holding [v] (eval o X.env)
      let iv ← holding [v, ov] (eval i X.env)
      standAt pos
      holding [v, ov, iv] (setItem ov iv v)
      release [v, ov, iv] []) := by
  intro v
  cases i <;> first | rfl | (cases h; done)
theorem sub_red {wo wi : WEx} {v : V} {d : D} {fr : Fr} {S : Sto} {P : Po} {σ : L2.St} {H : Hp} {Q : L2.St → Hp → Prop} (rd : Rp G H d v) (rf : RF G H fr σ) (rs : RS G S H)
    (hw : wo fr S (fun x S2 => wi fr S2 (fun y S3 => match x, y with
      | .ref p, .int j => match S3 p with
        | some (.lst xs) => match ixN xs.length j with
          | some n => P.nx fr (S3.set p (.lst (xs.set n d)))
          | none => False
        | _ => False
      | _, _ => False) (fun x S3 => P.xc x fr S3)) (fun x S2 => P.xc x fr S2))
    (nx : ∀ fr' S' σ' H', TK G H H' → RF G H' fr' σ' → RS G S' H' → P.nx fr' S' → Q σ' H') (xc : ∀ x fr' S' c d' σ' H', TK G H H' → RF G H' fr' σ' → RS G S' H' → RX G H' x c d' → P.xc x fr' S' → W c d' σ' H') :
    gSub (LE G W wo) (LE G W wi) rSetL v σ H Q := by
  refine ⟨fr, S, _, _, rf, rs, hw, fun x S2 vo H2 k2 rs2 ro h2 => ⟨fr, S2, _, _, rf.tk k2, rs2, h2, fun y S3 vi H3 k3 rs3 ri h3 => ?_, fun e S' c d' H' k' rs' rx h' => xc e fr S' c d' σ H' (k2.trans k') (rf.tk (k2.trans k')) rs' rx h'⟩, fun e S' c d' H' k' rs' rx h' => xc e fr S' c d' σ H' k' (rf.tk k') rs' rx h'⟩
  (try dsimp only at h3)
  split at h3
  · rename_i p j
    split at h3
    · rename_i _ xs e0
      split at h3
      · rename_i _ n en
        cases Rp.ref.mp (Rp.tk k3 _ _ ro)
        cases Rp.int.mp ri
        obtain ⟨ws, e1, r1⟩ := sl_of rs3 e0
        have rd3 := Rp.tk (k2.trans k3) _ _ rd
        obtain ⟨k4, rs4⟩ := rs3.setList e1 (Rps.set rd3 n r1)
        refine ⟨p, ws, j, n, rfl, rfl, e1, by rw [← r1.len]; exact en, ?_⟩
        exact nx _ _ _ _ ((k2.trans k3).trans k4) (rf.tk ((k2.trans k3).trans k4)) rs4 h3
      · exact h3.elim
    · exact h3.elim
  · exact h3.elim
theorem g_sub {o i : Expr} {wo wi : WEx} (ho : PE X o (LE G W wo)) (hi : PE X i (LE G W wi)) (hp : plainIx i = true) : PG X (.Subscript o i pos) (LG G W (fun d fr S P => wo fr S (fun x S2 => wi fr S2 (fun y S3 => match x, y with
      | .ref p, .int j => match S3 p with
        | some (.lst xs) => match ixN xs.length j with
          | some n => P.nx fr (S3.set p (.lst (xs.set n d)))
          | none => False
        | _ => False
      | _, _ => False) (fun x S3 => P.xc x fr S3)) (fun x S2 => P.xc x fr S2))) := by
  refine ⟨fun pins s σ H v u Q I r h => (pg_sub (pos := pos) ho hi set_list (plain_sub hp)).run pins s σ H v u Q I r ?_⟩
  obtain ⟨d, fr, S, P, rd, rf, rs, hw, nx, xc⟩ := h
  exact sub_red rd rf rs hw nx xc
theorem gs_nil : PGs X [] (LGs G W (fun ds fr S P => match ds with
    | [] => P.nx fr S
    | _ => False)) := by
  refine ⟨fun pins s σ H vs us Q I r h => pgs_nil.run pins s σ H vs us Q I r ?_⟩
  obtain ⟨ds, fr, S, P, rd, rf, rs, hw, nx, xc⟩ := h
  (try dsimp only at hw)
  split at hw
  · exact ⟨Rps.nil.mp rd, nx _ S _ H (TK.refl G H) rf rs hw⟩
  · exact hw.elim
theorem gs_cons {e : Expr} {es : List Expr} {w1 : D → Fr → Sto → Po → Prop} {w2 : List D → Fr → Sto → Po → Prop} (h1 : PG X e (LG G W w1)) (h2 : PGs X es (LGs G W w2)) (hs : (assignEach (e :: es) X.env).map (·.2) = assign e X.env :: (assignEach es X.env).map (·.2)) :
    PGs X (e :: es) (LGs G W (fun ds fr S P => match ds with
    | d :: r => w1 d fr S { nx := fun fr' S' => w2 r fr' S' P, rt := P.rt, bk := P.bk, ct := P.ct, xc := P.xc }
    | [] => False)) := by
  refine ⟨fun pins s σ H vs us Q I r h => (pgs_cons h1 h2 hs).run pins s σ H vs us Q I r ?_⟩
  obtain ⟨ds, fr, S, P, rd, rf, rs, hw, nx, xc⟩ := h
  (try dsimp only at hw)
  split at hw
  · rename_i d rt
    obtain ⟨v, vr, rfl, r1, r2⟩ := Rps.cons.mp rd
    exact ⟨v, vr, rfl, d, fr, S, _, r1, rf, rs, hw, fun fr' S' σ' H' k' rf' rs' h' => ⟨rt, fr', S', P, Rps.tk k' _ _ r2, rf', rs', h', fun fr2 S2 σ2 H2 k2 => nx fr2 S2 σ2 H2 (k'.trans k2), fun x fr2 S2 c d' σ2 H2 k2 => xc x fr2 S2 c d' σ2 H2 (k'.trans k2)⟩, xc⟩
  · exact hw.elim
theorem s_asgt {xs : List Expr} {e : Expr} {k n : Nat} {pt : Pos} {we : WEx} {ws : List D → Fr → Sto → Po → Prop} (hK : X.K = G.K) (hc : X.calm = true) (he : PE X e (LE G W we)) (hs : PGs X xs (LGs G W ws)) (hn : (assignEach xs X.env).length = n) (hst : (assignEach xs X.env).findIdx? (·.1) = none)
    (nc : noComp e = true) (hw : swappedStores [.Tuple xs k pt] e X.env = pure none) :
    PS X (.Assign [.Tuple xs k pt] e pos) (LS G W (fun fr S P => we fr S (fun d S1 => match d with
    | .tup ds => ds.length = n ∧ ws ds fr S1 P
    | _ => False) (fun x S1 => P.xc x fr S1))) := by
  refine ⟨fun pins s σ H D I hh => (ps_asg (pos := pos) he (pg_tup (pos := pt) (k := k) hc hs hn hst) (no_swap1 nc) hw).run pins s σ H D I ?_⟩
  obtain ⟨fr, S, P, rf, rs, hw, fs⟩ := hh
  refine ⟨fr, S, _, _, rf, rs, hw, fun d S1 v H1 k1 rs1 r1 h1 => ?_, fs.fx rf⟩
  (try dsimp only at h1)
  split at h1
  · rename_i ds
    obtain ⟨q, vs, rfl, hq, r⟩ := Rp.tup.mp r1
    exact ⟨q, vs, rfl, by rw [hK]; exact hq, by rw [← r.len]; exact h1.1, ds, fr, S1, P, r, rf.tk k1, rs1, h1.2, (fs.tk k1).nx, (fs.tk k1).xc⟩
  · exact h1.elim
theorem s_sub {o i e : Expr} {wo wi we : WEx} {p : Pos} (ho : PE X o (LE G W wo)) (hi : PE X i (LE G W wi)) (he : PE X e (LE G W we)) (hp : plainIx i = true) (nc : noComp e = true) :
    PS X (.Assign [.Subscript o i p] e pos) (LS G W (fun fr S P => we fr S (fun d S1 => wo fr S1 (fun x S2 => wi fr S2 (fun y S3 => match x, y with
      | .ref p, .int j => match S3 p with
        | some (.lst xs) => match ixN xs.length j with
          | some n => P.nx fr (S3.set p (.lst (xs.set n d)))
          | none => False
        | _ => False
      | _, _ => False) (fun x S3 => P.xc x fr S3)) (fun x S2 => P.xc x fr S2)) (fun x S1 => P.xc x fr S1))) := by
  refine ⟨fun pins s σ H D I hh => (ps_asg (pos := pos) he (pg_sub (pos := p) ho hi set_list (plain_sub hp)) (no_swap1 nc) (by cases e <;> rfl)).run pins s σ H D I ?_⟩
  obtain ⟨fr, S, P, rf, rs, hw, fs⟩ := hh
  exact ⟨fr, S, _, _, rf, rs, hw, fun d S1 v H1 k1 rs1 r1 h1 => sub_red r1 (rf.tk k1) rs1 h1 (fs.tk k1).nx (fs.tk k1).xc, fs.fx rf⟩
end
end L3

namespace L3
open PySem PySem.Spec PyProof.Rows L2
def noTup : Expr → Bool
  | .Tuple _ _ _ => false
  | _ => true
theorem noTup_sw {env : Env} {xs : List Expr} {k : Nat} {pt : Pos} {e : Expr} (h : noTup e = true) : swappedStores [.Tuple xs k pt] e env = pure none := by
  cases e <;> first | rfl | (cases h; done)
theorem cell_sw {env : Env} {x : Str} {p : Pos} {l : Nat} {v : Expr} (h : env.kindOf x ≠ some .local) : swapsWith v (some (.Name x p)) l env = pure false := by
  have h' : (env.kindOf x == some NameKind.local) = false := by simpa using h
  cases v <;> first | rfl | (unfold swapsWith; simp [h'])
section
variable (P : PD)
mutual
def chkA (c : Ct) : IT → Expr → Bool
  | .nm i, e => match e with
    | .Name x _ => decide (c.N[i]? = some x) && locC c x
    | _ => false
  | .sub o i, e => match e with
    | .Subscript o' i' _ => chkE P c o o' && chkE P c i i' && plainIx i'
    | _ => false
def chkAs (c : Ct) : ITs → List Expr → Bool
  | .nil, xs => xs.isEmpty
  | .cons t ts, xs => match xs with
    | x :: r => noStar x && chkA c t x && chkAs c ts r
    | [] => false
end
mutual
def chkS (c : Ct) : IS → Stmt → Bool
  | .asg i e, st => match st with
    | .Assign [.Name x _] v _ => decide (c.N[i]? = some x) && locC c x && chkE P c e v && (noComp v || decide (c.sc.names.lookup x ≠ some .local))
    | _ => false
  | .asgc i e, st => match st with
    | .Assign [.Name x px] v _ => match v with
      | .ListComp _ _ scope pv => decide (c.N[i]? = some x) && decide (c.sc.names.lookup x = some .local) && (px.line == pv.line) && !(scope.names.any fun (n, k) => n == x && (k == .local || k == .cell)) &&
          (match e with
          | .comp _ _ _ _ _ => chkE P c e v
          | _ => false)
      | _ => false
    | _ => false
  | .par i j a b, st => match st with
    | .Assign [.Tuple [.Name x px, .Name y py] _ _] (.Tuple [a', b'] _ _) _ => c.calm && decide (c.N[i]? = some x) && decide (c.N[j]? = some y) && decide (i ≠ j) && decide (x ≠ y) && decide (c.sc.names.lookup x = some .local) && decide (c.sc.names.lookup y = some .local) && (py.line == px.line) &&
        noStar a' && noStar b' && !(foldedForSure 8 a' && foldedForSure 8 b') && !(constantsAlone 8 a' && constantsAlone 8 b') && chkE P c a a' && chkE P c b b'
    | _ => false
  | .asgt ts e, st => match st with
    | .Assign [.Tuple xs _ _] v _ => c.calm && chkAs P c ts xs && chkE P c e v && noComp v && noTup v
    | _ => false
  | .sub o i e, st => match st with
    | .Assign [.Subscript o' i' _] v _ => chkE P c o o' && chkE P c i i' && plainIx i' && chkE P c e v && noComp v
    | _ => false
  | .exp e, st => match st with
    | .Expr v _ => chkE P c e v && noComp v
    | _ => false
  | .ret e, st => match st with
    | .Return (some v) _ => chkE P c e v
    | _ => false
  | .retn, st => match st with
    | .Return none _ => true
    | _ => false
  | .ifs t a b, st => match st with
    | .If t' a' b' _ => (chkT P c t t' || (plainTest t' && chkE P c t t')) && chkSs c a a' && chkSs c b b'
    | _ => false
  | .fors tg it b, st => match st with
    | .For tg' it' b' [] _ => c.calm && chkG c tg tg' && chkI P c it it' && noSet it' && chkSs c b b'
    | _ => false
  | .whil t b, st => match st with
    | .While t' b' [] _ => (chkT P c t t' || (plainTest t' && chkE P c t t')) && chkSs c b b'
    | _ => false
  | .rais k, st => match st with
    | .Raise (some (.Call (.Name x _) [] [] _)) none _ => decide (P.cls[k]? = some x) && glC c.sc x && nmC x && c.calm
    | _ => false
  | .tryo k b h, st => match st with
    | .Try b' [.ExceptHandler (some (.Name x _)) none (h0 :: hr) _] [] [] _ => decide (P.cls[k]? = some x) && glC c.sc x && nmC x && chkSs c b b' && chkSs { c with calm := false } h (h0 :: hr)
    | _ => false
  | .pass, st => match st with
    | .Pass _ => true
    | _ => false
def chkSs (c : Ct) : ISs → List Stmt → Bool
  | .nil, xs => xs.isEmpty
  | .cons s ss, xs => match xs with
    | x :: r => chkS c s x && chkSs c ss r
    | [] => false
end
end
structure GoodS (X : Cx) (G : Gd) (P : PD) (n : Nat) (c : Ct) : Prop extends Good X G P n c where
  own : PassesOwn (model X.prog X.w) X.A X.env X.xe
  stk : X.stack = X.env :: X.outer
  frm : X.env.frame = some X.env.locals
  knd : X.env.scope.kind = .function
section
variable {G : Gd} {P : PD} {n : Nat}
theorem GoodS.tr {X : Cx} {c : Ct} (g : GoodS X G P n c) (pn : List (Addr × Obj)) (xe : Value → Shared → Prop) (h : PassesOwn (model X.prog X.w) X.A X.env xe) : GoodS (X.tr pn xe) G P n c :=
  ⟨⟨g.fx.other rfl rfl rfl rfl rfl, g.N, g.nd, g.sc, g.fn, g.gd, g.un, g.calm, g.room⟩, h, g.stk, g.frm, g.knd⟩
theorem GoodS.suite {X : Cx} {c : Ct} (g : GoodS X G P n c) (a : Addr) (pn : List (Addr × Obj)) : GoodS (X.suite a pn) G P n { c with calm := false } :=
  ⟨⟨g.fx.other rfl rfl rfl rfl rfl, g.N, g.nd, g.sc, g.fn, g.gd, g.un, (fun h => nomatch h), (fun h => nomatch h)⟩, PassesOwn.never, g.stk, g.frm, g.knd⟩
theorem sA {X : Cx} {c : Ct} {W : WX} (g : Good X G P n c) (tk : Takes X W) : ∀ (t : IT) (x : Expr), chkA P c t x = true → PG X x (LG G W (wpA (wpCall P n) P.sub t))
  | .nm i, x, h => by
    simp only [chkA] at h
    split at h
    · simp only [Bool.and_eq_true, decide_eq_true_eq] at h
      obtain ⟨l1, l2⟩ := loc_ok g h.2
      exact g_name g.nd (by rw [g.N]; exact h.1) l1 l2
    · cases h
  | .sub o i, x, h => by
    simp only [chkA] at h
    split at h
    · simp only [Bool.and_eq_true] at h
      exact g_sub (sE o X c W _ g tk h.1.1) (sE i X c W _ g tk h.1.2) h.2
    · cases h
theorem sAs {X : Cx} {c : Ct} {W : WX} (g : Good X G P n c) (tk : Takes X W) : ∀ (ts : ITs) (xs : List Expr), chkAs P c ts xs = true → PGs X xs (LGs G W (wpAs (wpCall P n) P.sub ts)) ∧ (assignEach xs X.env).length = ts.len ∧ (assignEach xs X.env).findIdx? (·.1) = none
  | .nil, xs, h => by
    unfold chkAs at h
    rw [List.isEmpty_iff.mp h]
    exact ⟨gs_nil, rfl, rfl⟩
  | .cons t ts, xs, h => by
    unfold chkAs at h
    cases xs with
    | nil => cases h
    | cons x r =>
      dsimp only at h
      simp only [Bool.and_eq_true] at h
      obtain ⟨h1, h2, h3⟩ := sAs g tk ts r h.2
      have ns : assignEach (x :: r) X.env = (false, assign x X.env) :: assignEach r X.env := by
        cases x <;> first | rfl | (cases h.1.1; done)
      rw [ns]
      refine ⟨gs_cons (sA g tk t x h.1.2) h1 (by rw [ns]; rfl), by simp [h2, ITs.len], ?_⟩
      rw [List.findIdx?_cons]
      simp [h3]
theorem sTst {X : Cx} {c : Ct} {W : WX} {t : IE} {x : Expr} (g : Good X G P n c) (tk : Takes X W) (h : (chkT P c t x || (plainTest x && chkE P c t x)) = true) : PT X x (LT G W (wpE (wpCall P n) t)) := by
  simp only [Bool.or_eq_true, Bool.and_eq_true] at h
  rcases h with h | h
  · exact sT t X c W x g tk h
  · exact qt_val (sE t X c W x g tk h.2) h.1
mutual
theorem sS : ∀ (st : IS) (X : Cx) (c : Ct) (W : WX) (x : Stmt), GoodS X G P n c → Takes X W → chkS P c st x = true → PS X x (LS G W (wpS (wpCall P n) P.sub st))
  | .asg i e, X, c, W, x, g, tk, h => by
    unfold chkS at h
    split at h
    · simp only [Bool.and_eq_true, Bool.or_eq_true, decide_eq_true_eq] at h
      obtain ⟨⟨⟨hN, hl⟩, he⟩, hs⟩ := h
      obtain ⟨l1, l2⟩ := loc_ok g.toGood hl
      refine s_store (ps_set g.nd (by rw [g.N]; exact hN) l1 (sE e X c W _ g.toGood tk he) ?_ l2) fun _ _ _ q => q
      rcases hs with hs | hs
      · exact no_swap hs
      · exact cell_sw (by unfold Env.kindOf; rw [g.sc]; exact hs)
    · cases h
  | .asgc i e, X, c, W, x, g, tk, h => by
    unfold chkS at h
    split at h
    · rename_i x0 px0 v0 sp0
      split at h
      · rename_i e0 gs0 scope0 pv0
        simp only [Bool.and_eq_true, decide_eq_true_eq, Bool.not_eq_true'] at h
        obtain ⟨⟨⟨⟨hN, hl⟩, hln⟩, hsc⟩, he⟩ := h
        split at he
        · rename_i tg it ts e' own
          unfold chkE at he
          split at he
          · rename_i elt tgE itE ifs scope p heq
            cases heq
            simp only [Bool.and_eq_true, decide_eq_true_eq, List.all_eq_true, List.contains_iff_mem] at he
            obtain ⟨⟨⟨⟨⟨⟨⟨⟨hc, hb⟩, ho⟩, hsl⟩, hset⟩, hi⟩, htg⟩, hts⟩, he⟩ := he
            have g0 := g.toGood
            have ok : BlkOk X.N X.env.scope scope0 (ownOf c.N own) := by
              rw [g.N, g.sc]
              exact blkOk_by hb
            have hl' := hl
            rw [← g.sc] at hl'
            have q := s_setLc (W := W) (spos := sp0) g.fx.K (g.calm hc) g.nd (by rw [g.N]; exact hN) hl' (sw_true g.knd hl' hln hsc) (sI it X c W _ _ g0 tk hi) ok (fun s H C cl fp => sG (g0.blk hc s H _ C cl fp) tg _ htg)
              (fun s H C cl fp => sTs ts _ _ _ (g0.blk hc s H _ C cl fp) takes0 hts) (fun s H C cl fp => sE e' _ _ Wno _ (g0.blk hc s H _ C cl fp) takes0 he) hset (fun i hi => by rw [ho]; exact hsl i hi)
            rw [ho] at q
            exact s_store q fun _ _ _ q => q
          · cases he
        · cases he
      · cases h
    · cases h
  | .par i j a b, X, c, W, x, g, tk, h => by
    unfold chkS at h
    split at h
    · simp only [Bool.and_eq_true, decide_eq_true_eq, Bool.not_eq_true'] at h
      obtain ⟨⟨⟨⟨⟨⟨⟨⟨⟨⟨⟨⟨⟨hc, hi⟩, hj⟩, hij⟩, hxy⟩, hx⟩, hy⟩, hl⟩, na⟩, nb⟩, hf⟩, hk⟩, ha⟩, hb⟩ := h
      have hx' := hx
      have hy' := hy
      rw [← g.sc] at hx' hy'
      exact s_par (g.calm hc) g.nd (by rw [g.N]; exact hi) (by rw [g.N]; exact hj) hij hx' hy' (sE a X c W _ g.toGood tk ha) (sE b X c W _ g.toGood tk hb) na nb (par_sw g.knd hx' hy' hl hxy na nb hf hk)
    · cases h
  | .asgt ts e, X, c, W, x, g, tk, h => by
    unfold chkS at h
    split at h
    · simp only [Bool.and_eq_true] at h
      obtain ⟨⟨⟨⟨hc, hts⟩, he⟩, nc⟩, nt⟩ := h
      obtain ⟨h1, h2, h3⟩ := sAs g.toGood tk ts _ hts
      exact s_asgt g.fx.K (g.calm hc) (sE e X c W _ g.toGood tk he) h1 h2 h3 nc (noTup_sw nt)
    · cases h
  | .sub o i e, X, c, W, x, g, tk, h => by
    unfold chkS at h
    split at h
    · simp only [Bool.and_eq_true] at h
      obtain ⟨⟨⟨⟨ho, hi⟩, hp⟩, he⟩, nc⟩ := h
      exact s_sub (sE o X c W _ g.toGood tk ho) (sE i X c W _ g.toGood tk hi) (sE e X c W _ g.toGood tk he) hp nc
    · cases h
  | .exp e, X, c, W, x, g, tk, h => by
    unfold chkS at h
    split at h
    · simp only [Bool.and_eq_true] at h
      exact s_exp (sE e X c W _ g.toGood tk h.1) h.2
    · cases h
  | .ret e, X, c, W, x, g, tk, h => by
    unfold chkS at h
    split at h
    · exact s_ret (sE e X c W _ g.toGood tk h)
    · cases h
  | .retn, X, c, W, x, g, tk, h => by
    unfold chkS at h
    split at h
    · exact s_retn
    · cases h
  | .ifs t a b, X, c, W, x, g, tk, h => by
    unfold chkS at h
    split at h
    · rw [Bool.and_eq_true, Bool.and_eq_true] at h
      exact s_if (sTst g.toGood tk h.1.1) (sSs a X c W _ g tk h.1.2) (sSs b X c W _ g tk h.2)
    · cases h
  | .fors tg it b, X, c, W, x, g, tk, h => by
    unfold chkS at h
    split at h
    · simp only [Bool.and_eq_true] at h
      obtain ⟨⟨⟨⟨hc, hg⟩, hi⟩, hs⟩, hb⟩ := h
      exact s_for g.own (g.calm hc) (sI it X c W _ _ g.toGood tk hi) (sG g.toGood tg _ hg) (sSs b X c W _ g tk hb) hs
    · cases h
  | .whil t b, X, c, W, x, g, tk, h => by
    unfold chkS at h
    split at h
    · rw [Bool.and_eq_true] at h
      exact s_while g.own (sTst g.toGood tk h.1) (sSs b X c W _ g tk h.2)
    · cases h
  | .rais k, X, c, W, x, g, tk, h => by
    unfold chkS at h
    split at h
    · simp only [Bool.and_eq_true, decide_eq_true_eq] at h
      obtain ⟨⟨⟨hx, hg⟩, hn⟩, hc⟩ := h
      exact s_raise (g.fx.cls k _ hx) (g.calm hc) tk (gl_ok g.toGood hg) (nm_ok hn).1
    · cases h
  | .tryo k b hh, X, c, W, x, g, tk, h => by
    unfold chkS at h
    split at h
    · simp only [Bool.and_eq_true, decide_eq_true_eq] at h
      obtain ⟨⟨⟨⟨hx, hg⟩, hn⟩, hb⟩, hs⟩ := h
      exact s_try g.fx hx g.stk g.frm (gl_ok g.toGood hg) (nm_ok hn).1 tk (fun W' pn xe tk' own => sSs b (X.tr pn xe) c W' _ (g.tr pn xe own) tk' hb) (fun a oe cls d pn _ _ => sSs hh (X.suite a ((a, oe) :: pn)) _ Wno _ (g.suite a _) takes0 hs)
    · cases h
  | .pass, X, c, W, x, g, tk, h => by
    unfold chkS at h
    split at h
    · exact s_pass
    · cases h
theorem sSs : ∀ (ss : ISs) (X : Cx) (c : Ct) (W : WX) (xs : List Stmt), GoodS X G P n c → Takes X W → chkSs P c ss xs = true → PSs X xs (LS G W (wpSs (wpCall P n) P.sub ss))
  | .nil, X, c, W, xs, g, tk, h => by
    unfold chkSs at h
    rw [List.isEmpty_iff.mp h]
    exact s_nil
  | .cons s ss, X, c, W, xs, g, tk, h => by
    unfold chkSs at h
    cases xs with
    | nil => cases h
    | cons x r =>
      dsimp only at h
      rw [Bool.and_eq_true] at h
      exact s_cons (w1 := wpS (wpCall P n) P.sub s) (w2 := wpSs (wpCall P n) P.sub ss) (sS s X c W x g tk h.1) (sSs ss X c W r g tk h.2)
end
end
end L3

namespace L3
open PySem PySem.Spec PyProof.Rows L2
/-- the def number k as it stands behind the top -/
structure DefAt (K : PySem.W.Frag) (G : Gd) (P : PD) (k : Nat) (f : Fn) (fd : FuncData) : Prop where
  rcd : ∃ (oc : Value) (od an : Option Addr) (osl : Array (Option Value)) (name qual : Str) (params : Arguments) (body : List Stmt) (scope : Scope) (dV kV doc pm cdv ct : Value),
    fd = PySem.W.fnOf name qual params body scope dV kV doc pm an cdv ct ∧ K.lookup (G.fa k) = some ⟨oc, od, .func fd, osl⟩ ∧ PySem.W.codeIn K cdv qual = true ∧ FnScope f.N f.ps scope ∧ chkSs P ⟨f.N, scope, fun _ => true, true⟩ f.body body = true
  bnd : Binds K fd f.ps []
  kwb : ∀ q ∈ f.kw, ∀ (s : Shared) (us ws : List Value), K.In s.heap → us.length = q.1 → ws.length = q.2.1.length → BindsTo s fd ⟨us, q.2.1.zip ws⟩ (f.ps.zip (pick q.2.2 (us ++ ws)))
/-- all that stands behind the top -/
structure Top (K : PySem.W.Frag) (mg : Str → Option Value) (G : Gd) (P : PD) : Prop where
  kg : K = G.K
  fns : ∀ k f, P.fns[k]? = some f → ∃ fd, DefAt K G P k f fd
  kp : ∀ k, PySem.W.keepIn K (.ref (G.fa k)) = true
  gl : ∀ k f, P.fns[k]? = some f → mg f.name = some (.ref (G.fa k))
  blt : ∀ x, x ∈ P.blts → mg x = none
  cgl : ∀ k x, P.cls[k]? = some x → mg x = some (.ref (G.ca k))
  ckp : ∀ k x, P.cls[k]? = some x → PySem.W.keepIn K (.ref (G.ca k)) = true
  cxc : ∀ k x, P.cls[k]? = some x → ∃ bmB B newId initId, ExcBaseFacts B newId initId bmB ∧ PySem.W.excIn K (G.ca k) bmB newId = true
  csub : ∀ k x, P.cls[k]? = some x → PySem.W.subIn K (.ref (G.ca k)) (.type "BaseException") = some true
  cty : ∀ k x, P.cls[k]? = some x → PySem.W.typeIn K (.ref (G.ca k)) = some (.type "type")
  exm : ∀ i j y, P.cls[j]? = some y → PySem.W.exmOne K (.ref (G.ca i)) (.ref (G.ca j)) = some (P.sub i j)
section
variable {prog : Program} {w : World} {K : PySem.W.Frag} {mg : Str → Option Value} {base : Heap} {G : Gd} {P : PD}
theorem startD_rf {H : Hp} {ds : List D} {vs : List V} {N : List Str} (r : Rps G H ds vs) : RF G H (startD N.length ds) (L2.start N vs) := by
  unfold startD L2.start
  refine ⟨by simp [r.len], fun i d e => ?_⟩
  by_cases hi : i < ds.length
  · rw [List.getElem?_append_left (by simpa using hi), List.getElem?_map] at e
    cases e1 : ds[i]? with
    | none => rw [e1] at e; cases e
    | some d' =>
      rw [e1] at e
      cases e
      obtain ⟨v, h1, h2⟩ := r.get e1
      refine ⟨v, ?_, h2⟩
      rw [List.getElem?_append_left (by rw [List.length_map, ← r.len]; exact hi), List.getElem?_map, h1]
      rfl
  · rw [List.getElem?_append_right (by simpa using hi), List.getElem?_replicate] at e
    split at e <;> cases e
theorem facts_of (T : Top K mg G P) {n : Nat} (ih : ∀ k f fd, P.fns[k]? = some f → DefAt K G P k f fd → FnG prog w K mg base (lev n) (G.fa k) fd f.ps (SpD G P n k)) (X : Cx) (h1 : X.prog = prog) (h2 : X.w = w) (h3 : X.K = K) (h4 : X.mg = mg) (h5 : X.base = base) : Facts X G P n := by
  subst h1 h2 h3 h4 h5
  exact ⟨T.kg, fun k f e => let ⟨fd, d⟩ := T.fns k f e; ⟨fd, ih k f fd e d, d.bnd, d.kwb⟩, T.kp, T.gl, T.blt, fun k x e => ⟨T.cgl k x e, T.ckp k x e, T.cxc k x e, T.csub k x e, T.cty k x e⟩, T.exm⟩
/-- every def keeps its word at every depth -/
theorem sound (T : Top K mg G P) : ∀ (n k : Nat) (f : Fn) (fd : FuncData), P.fns[k]? = some f → DefAt K G P k f fd → FnG prog w K mg base (lev n) (G.fa k) fd f.ps (SpD G P n k) := by
  intro n
  induction n with
  | zero =>
    intro k f fd e d
    refine ⟨fun vs H Q E h => ?_, fun A outer s H args us vs Q E hg hr e0 rv hb h => ?_⟩
    · obtain ⟨_, _, _, _, _, _, _, _, _, hw, _⟩ := h
      exact hw.elim
    · obtain ⟨_, _, _, _, _, _, _, _, _, hw, _⟩ := h
      exact hw.elim
  | succ n ih =>
    intro k f fd e d
    obtain ⟨oc, od, an, osl, name, qual, params, body, scope, dV, kV, doc, pm, cdv, ct, rfl, lk, hcd, sc, chk⟩ := d.rcd
    have spl : ∀ vs H Q E, SpD G P (n + 1) k vs H Q E → vs.length = f.ps.length := fun vs H Q E h => by
      obtain ⟨f', _, _, _, _, e', hl, _⟩ := h
      rw [e] at e'; cases e'
      exact hl
    refine ⟨spl, fun A outer s H args us vs Q E hg hr e0 rv hb h => ?_⟩
    have hl := spl _ _ _ _ h
    obtain ⟨f', ds, S, Qd, Ed, e', _, rs, r, hw, fe, fx⟩ := h
    rw [e] at e'; cases e'
    unfold wpCall at hw
    rw [e] at hw
    dsimp only at hw
    have kin : K.In s.heap := e0.mod.kin.keeps fun b o q => (e0.bs b o q).1
    have lim := e0.mod.nolimit.keeps fun b o q => (e0.bs b o q).1
    have knd : ∀ y ∈ f.ps.zip us, scope.names.lookup y.1 = some .local ∨ (scope.names.lookup y.1 = some .cell ∧ ((cellsFrom (s.heap.objs.size + 1) scope.names []).lookup y.1).isSome = true) := by
      rintro ⟨y, v⟩ hy
      rcases sc.par y (List.of_mem_zip hy).1 with q | q
      · exact .inl q
      · exact .inr ⟨q, PySem.W.cellsFrom_some _ _ _ (.inl q)⟩
    refine codeAny_call_function hr.depth (kin _ _ lk) rfl sc.co sc.gen rfl (PySem.W.codeRec_of kin hcd) (hb _ _ _ _ ?_)
    refine wpAny_newFunctionEnv_cells sc.kind knd fun env he s1 ic => ?_
    subst he
    refine ⟨lim.keeps ic.toInCall.keep, codeAny_func ?_⟩
    -- the body's place
    have I := inv_start (CX := L2.CX prog w) (w := w) (P := prog) (E := E) sc hr.hd e0 hl rv ic
    have hr' : Room (lev n + 1) (A.deeper (envOfC qual scope s.heap.objs.size (G.fa k) cdv)) := Room.deeper (k := lev n + 1) hr _
    have g : GoodS (cxOf (L2.CX prog w) prog w K mg base f.N qual scope (G.fa k) cdv A outer s H E) G P n ⟨f.N, scope, fun _ => true, true⟩ :=
      ⟨⟨facts_of T ih _ rfl rfl rfl rfl rfl, rfl, sc.nd, rfl, fun _ _ => rfl, hg, hr'.units, fun _ => rfl, fun _ => hr'⟩, passes_of rfl, rfl, rfl, sc.kind⟩
    have tk : Takes (cxOf (L2.CX prog w) prog w K mg base f.N qual scope (G.fa k) cdv A outer s H E) (fun cls d _ H' => E cls d H') := takes_of rfl rfl rfl rfl
    have body_ok := sSs f.body _ _ _ body g tk chk
    refine wpAny_mono (body_ok.run [] s1 (L2.start f.N vs) H { nx := fun _ H' => Q .non H', rt := Q } I ⟨startD f.N.length ds, S, _, startD_rf r, rs, hw.2, ⟨fun fr S' σ' H' k' _ rs' q => fe _ S' _ H' k' rs' (Rp.non.mpr rfl) q, fe, fun _ _ _ _ _ _ _ z => z.elim, fun _ _ _ _ _ _ _ z => z.elim, fun x fr S' c d' σ' H' k' _ rs' rx q => fx x S' c d' H' k' rs' rx q⟩⟩) (fun fl s' hs => ?_) fun _ _ hs => hs
    match fl, hs with
    | .ret u, ⟨v, σ', H', J, rw', q⟩ => exact ⟨v, H', J.os, J.bare, J.base, J.hok, rw', q⟩
    | .next, ⟨σ', H', J, q⟩ => exact ⟨V.non, H', J.os, J.bare, J.base, J.hok, rfl, q⟩
    | .brk, ⟨_, _, _, q⟩ => exact q.elim
    | .cont, ⟨_, _, _, q⟩ => exact q.elim
end
end L3

namespace L3
open PySem PySem.Spec PyProof.Rows L2
theorem rps_ints {G : Gd} {H : Hp} : ∀ ns : List Int, Rps G H (ns.map D.int) (ns.map V.int)
  | [] => Rps.mk0
  | n :: ns => Rps.mk (Rp.int.mpr rfl) (rps_ints ns)
section
variable {prog : Program} {w : World} {K : PySem.W.Frag} {mg mb : Str → Option Value} {G : Gd} {P : PD} {a : Addr} {vs : List Value} {ns : List Int} {s₁ : Shared} {n kl : Nat} {f : Fn} {fd : FuncData} {x : Str}
/-- from an abstract heap that tells of the script alone -/
theorem law_from (T : Top K mg G P) (ef : P.fns[kl]? = some f) (d : DefAt K G P kl f fd) (hps : f.ps = [x]) (hr : Room (lev n) callerA) (hw : wpCall P n kl [.scr (ns.map D.int)] (fun _ => none) (fun d _ => d = .bl true) (fun _ _ => False))
    (kin : K.In s₁.heap) (gl : s₁.heap.Ns mainGlobals mg) (bl : s₁.heap.Ns builtinsNs mb) (bb : ∀ x : Str, x ≠ "__name__" → mb x = bootBuiltins x) (lim : s₁.heap.NoLimit) (gn : s₁.gens = #[])
    (ha : s₁.heap.get? a = some { cls := .type "list", data := .seq vs.toArray })
    (H : Hp) (fz : FzL K H a (ns.map V.int)) (ok : HOk prog w H s₁.heap) (only : ∀ b u, H b = some u → b = a ∧ ∃ o xs, u = .frz o (.lst xs)) (free : H a ≠ none → K.lookup a = none) :
    codeAny (model prog w) callerA (.call (.ref (G.fa kl)) ⟨[.ref a], []⟩) (fun r s' => r = .ok (.ret (.bool true)) ∧ OldK s₁.heap s'.heap ∧ s'.os = s₁.os ∧ AllBare s'.gens) s₁ := by
  -- what stands as a dict is not the script
  have dict_free : ∀ {b : Addr} {o : Obj} {es : Array DictEntry} {ep : Nat}, s₁.heap.get? b = some o → o.data = .dict es ep → H b = none := by
    intro b o es ep e dd
    cases q : H b with
    | none => rfl
    | some u =>
      obtain ⟨rfl, _⟩ := only b u q
      rw [ha] at e
      cases e
      exact nomatch (show Data.seq vs.toArray _ = Data.dict es ep from dd)
  have nsB : ∀ {b : Addr} {m : Str → Option Value}, s₁.heap.Ns b m → (hidT s₁.heap H).Ns b m := by
    rintro b m ⟨o, es, ep, e, dd, r⟩
    exact ⟨o, es, ep, hidT_get e (dict_free e dd), dd, r⟩
  have kinB : K.In (hidT s₁.heap H) := by
    intro b o e
    refine hidT_get (kin b o e) ?_
    cases q : H b with
    | none => rfl
    | some u =>
      obtain ⟨rfl, _⟩ := only b u q
      rw [free (by rw [q]; intro z; cases z)] at e
      cases e
  obtain ⟨mc, c1, c2⟩ := lim
  have e0 : Env0 prog w K mg (hidT s₁.heap H) callerA [] s₁ H := by
    refine ⟨rfl, ⟨kinB, nsB gl, ⟨mb, nsB bl, bb⟩, ⟨mc, nsB c1, c2⟩⟩, fun b o e => of_hidT e, Nat.le_of_eq (hidT_size _ _), trivial, fun b z => ?_, ok, .of_eq gn⟩
    exact nomatch (show b ∈ ([] : List Addr) from z)
  have G1 : K = G.K := T.kg
  have rs : RS G (fun _ => none) H := fun _ _ z => nomatch z
  have rp : Rps G H [.scr (ns.map D.int)] [.ref a] := Rps.mk (Rp.scr.mpr ⟨a, _, rfl, by rw [← G1]; exact fz, rps_ints ns⟩) Rps.mk0
  have sp : SpD G P n kl [.ref a] H (fun v _ => v = .bl true) (fun _ _ _ => False) := SpD.of rs rp hw (fun d S v H' _ _ r q => by subst q; exact Rp.bl.mp r) (fun _ _ _ _ _ _ _ _ z => z)
  have F := sound (prog := prog) (w := w) (base := hidT s₁.heap H) T n kl f fd ef d
  have bt := d.bnd s₁ [.ref a] kin (by rw [hps]; rfl)
  rw [List.append_nil] at bt
  refine codeAny_mono (F.go callerA [] s₁ H ⟨[.ref a], []⟩ [.ref a] [.ref a] _ _ rfl hr e0 (.cons rfl .nil) bt sp) fun r s' h => ?_
  match r, h with
  | .error e, h =>
    obtain ⟨_, _, _, _, _, _, _, _, _, _, _, _, z⟩ := h
    exact z.elim
  | .ok .next, h => exact h.elim
  | .ok .brk, h => exact h.elim
  | .ok .cont, h => exact h.elim
  | .ok (.ret u), h =>
    obtain ⟨v, H', os, bare, un, hok', rv, q⟩ := h
    have q : v = .bl true := q
    subst q
    cases rv
    refine ⟨rfl, OldK.of_keep fun b o e => ?_, os, bare⟩
    cases q : H b with
    | none => exact un.keep b o e q (fun z => nomatch (show b ∈ ([] : List Addr) from z)) (by simp)
    | some u =>
      obtain ⟨rfl, ob, xs, rfl⟩ := only b u q
      obtain ⟨e1, _⟩ := ok b _ q
      obtain ⟨e2, _⟩ := hok' b _ (un.frzs b ob _ q)
      rw [e] at e1
      cases e1
      exact e2
theorem law_go (T : Top K mg G P) (ef : P.fns[kl]? = some f) (d : DefAt K G P kl f fd) (hps : f.ps = [x]) (hr : Room (lev n) callerA) (hw : wpCall P n kl [.scr (ns.map D.int)] (fun _ => none) (fun d _ => d = .bl true) (fun _ _ => False))
    (kin : K.In s₁.heap) (gl : s₁.heap.Ns mainGlobals mg) (bl : s₁.heap.Ns builtinsNs mb) (bb : ∀ x : Str, x ≠ "__name__" → mb x = bootBuiltins x) (lim : s₁.heap.NoLimit) (gn : s₁.gens = #[])
    (ha : s₁.heap.get? a = some { cls := .type "list", data := .seq vs.toArray }) (hi : IntsAre vs ns) (hl : ns.length ≤ 63) :
    codeAny (model prog w) callerA (.call (.ref (G.fa kl)) ⟨[.ref a], []⟩) (fun r s' => r = .ok (.ret (.bool true)) ∧ OldK s₁.heap s'.heap ∧ s'.os = s₁.os ∧ AllBare s'.gens) s₁ := by
  have rv := vals_ints hi
  have lv := hi.length
  have hz : ns.length ≤ sizeLine := Nat.le_trans hl (by rw [sizeLine_eq]; decide)
  cases hk : K.lookup a with
  | some o =>
    have e := kin a o hk
    rw [ha] at e
    cases e
    refine law_from T ef d hps hr hw kin gl bl bb lim gn ha (fun _ => none) ?_ (fun _ _ z => nomatch z) (fun _ _ z => nomatch z) (fun z => absurd rfl z)
    exact .inr ⟨_, vs.toArray, _, hk, rfl, rfl, rfl, by rw [List.size_toArray, lv]; exact hz, rv⟩
  | none =>
    let fo : HO := .frz { cls := .type "list", data := .seq vs.toArray } (.lst (ns.map V.int))
    refine law_from T ef d hps hr hw kin gl bl bb lim gn ha (upd (fun _ => none) a fo) ?_ (fun b u z => ?_) (fun b u z => ?_) (fun _ => hk)
    · exact .inl ⟨_, upd_same⟩
    · by_cases hb : b = a
      · subst hb
        rw [upd_same] at z
        cases z
        exact ⟨ha, by rw [List.length_map]; exact hz, vs, _, rv, ha⟩
      · rw [upd_ne hb] at z
        cases z
    · by_cases hb : b = a
      · subst hb
        rw [upd_same] at z
        cases z
        exact ⟨rfl, _, _, rfl⟩
      · rw [upd_ne hb] at z
        cases z
end
/-- the goal that the head leaves -/
theorem walk_L {l : PySem.W.OpenLaw} {q : Program} {loose : List Str} {XP : (Str → Option Value) → Heap → Prop} {YP : World → Heap → Prop} {d : DefRec} {x : Str} {P : PD} {n kl : Nat} {f : Fn}
    (hn : l.most = some 63) (hdf : d.params.defaults = []) (hr : Room (lev n) callerA) (ef : P.fns[kl]? = some f) (hps : f.ps = [x])
    (hT : ∀ (w : World) (mg : Str → Option Value) (h : Heap) (fa : Addr), YP w h → h.Ns mainGlobals mg → mg d.name = some (.ref fa) → ∃ (K : PySem.W.Frag) (G : Gd) (fd : FuncData), K.In h ∧ Top K mg G P ∧ DefAt K G P kl f fd ∧ G.fa kl = fa)
    (hw : ∀ ns : List Int, ns.length ≤ 63 → wpCall P n kl [.scr (ns.map D.int)] (fun _ => none) (fun d _ => d = .bl true) (fun _ _ => False)) :
    PySem.W.WalkO q loose XP YP l.row.toRowW d [] (fun f vs => PySem.call f vs) := by
  refine Att.attach_call hn hdf fun w s₀ s₁ mg mb fa o pm cd doc a vs ns Gr Y ho hd hcd hmg hobj hints hlen hg => ?_
  obtain ⟨K, G, fd, kin, T, D, rfl⟩ := hT w mg _ fa Y Gr.T.g hmg
  exact law_go T ef D hps hr (hw ns hlen) kin Gr.T.g Gr.T.b Gr.T.builtins Gr.T.nolimit hg hobj hints hlen
end L3

namespace L3
open PySem PySem.Spec PyProof.Rows L2
/-! ### reading the facts of a top -/
def AllAt {α : Type} (Q : Nat → α → Prop) : Nat → List α → Prop
  | _, [] => True
  | i, x :: xs => Q i x ∧ AllAt Q (i + 1) xs
theorem allAt_get {α : Type} {Q : Nat → α → Prop} : ∀ {fs : List α} {i k : Nat} {f : α}, AllAt Q i fs → fs[k]? = some f → Q (i + k) f
  | [], _, _, _, _, e => by cases e
  | x :: xs, i, 0, f, h, e => by cases e; exact h.1
  | x :: xs, i, k + 1, f, h, e => by
    have := allAt_get (k := k) h.2 e
    rwa [Nat.add_assoc, Nat.add_comm 1 k] at this
theorem all_at {α : Type} {Q : Nat → α → Prop} {fs : List α} (h : AllAt Q 0 fs) (k : Nat) (f : α) (e : fs[k]? = some f) : Q k f := by
  have := allAt_get h e
  rwa [Nat.zero_add] at this
def AllL {α : Type} (Q : α → Prop) : List α → Prop
  | [] => True
  | x :: xs => Q x ∧ AllL Q xs
theorem getD_all {α : Type} {Q : α → Prop} {d : α} : ∀ {xs : List α}, AllL Q xs → Q d → ∀ k, Q (xs.getD k d)
  | [], _, hd, k => hd
  | x :: xs, h, hd, 0 => h.1
  | x :: xs, h, hd, k + 1 => getD_all (xs := xs) h.2 hd k
def AllT {α β : Type} (Q : α → β → Prop) : List α → List β → Prop
  | [], _ => True
  | _ :: _, [] => False
  | x :: xs, y :: ys => Q x y ∧ AllT Q xs ys
theorem getD_two {α β : Type} {Q : α → β → Prop} {d : α} {e : β} : ∀ {xs : List α} {ys : List β} {i : Nat}, xs.length = ys.length → AllT Q xs ys → Q d e → Q (xs.getD i d) (ys.getD i e)
  | [], [], i, _, _, hd => hd
  | x :: xs, y :: ys, 0, _, h, hd => h.1
  | x :: xs, y :: ys, k + 1, l, h, hd => getD_two (xs := xs) (ys := ys) (Nat.succ.inj l) h.2 hd
  | [], _ :: _, _, l, _, _ => by cases l
  | _ :: _, [], _, l, _, _ => by cases l
theorem exm_two {K : PySem.W.Frag} {S C : Addr} {b : Bool} (h1 : PySem.W.subIn K (.ref C) (.type "BaseException") = some true) (h2 : PySem.W.isClsIn K C = true) (h3 : PySem.W.typeIn K (.ref C) = some (.type "type")) (h4 : PySem.W.subIn K (.ref S) (.ref C) = some b) :
    PySem.W.exmOne K (.ref S) (.ref C) = some b := by
  have e1 : (PySem.W.subIn K (.ref C) (.type "BaseException") == some true) = true := by rw [h1]; rfl
  have e2 : ((PySem.W.clsIn K C).isSome && PySem.W.typeIn K (.ref C) == some (.type "type")) = true := by
    have h2' : (PySem.W.clsIn K C).isSome = true := h2
    rw [h2', h3]; rfl
  show (if (PySem.W.subIn K (.ref C) (.type "BaseException") == some true) = true then (if ((PySem.W.clsIn K C).isSome && PySem.W.typeIn K (.ref C) == some (.type "type")) = true then PySem.W.subIn K (.ref S) (.ref C) else none) else none) = some b
  rw [if_pos e1, if_pos e2]
  exact h4
/-- what the facts come to, in the walk's words -/
theorem hT_of {K : PySem.W.Frag} {G : Gd} {P : PD} {h : Heap} {mg : Str → Option Value} {kl : Nat} {f : Fn} {name : Str} {fa : Addr} (F : Top K mg G P ∧ ∃ fd, DefAt K G P kl f fd) (X : K.In h) (Gn : h.Ns mainGlobals mg) (hmg : mg name = some (.ref fa)) (hn : PySem.W.nsIn K mainGlobals name = some (some (.ref (G.fa kl)))) :
    ∃ (K : PySem.W.Frag) (G : Gd) (fd : FuncData), K.In h ∧ Top K mg G P ∧ DefAt K G P kl f fd ∧ G.fa kl = fa := by
  obtain ⟨T, fd, D⟩ := F
  have e := PySem.W.mg_of X Gn hn
  rw [hmg] at e
  cases e
  exact ⟨K, G, fd, X, T, D, rfl⟩
end L3

set_option exponentiation.threshold 500000
namespace L3
open PySem PySem.Spec PyProof.Rows L2
/-! ### reading a body, one statement after the other -/
section
variable {C : CallF} {sb : Nat → Nat → Bool} {b ss : ISs} {s : IS} {fr : Fr} {S : Sto} {P : Po}
theorem stepS (e : b = .cons s ss) (h : wpS C sb s fr S { nx := fun fr' S' => wpSs C sb ss fr' S' P, rt := P.rt, bk := P.bk, ct := P.ct, xc := P.xc }) : wpSs C sb b fr S P := by subst e; exact h
theorem nilS (e : b = .nil) (h : P.nx fr S) : wpSs C sb b fr S P := by subst e; exact h
end
theorem Sto.set_at {S : Sto} {p q : Addr} {o : O} : S.set p o q = if q = p then some o else S q := rfl
theorem Sto.set_set {S : Sto} {p : Addr} {o u : O} : (S.set p o).set p u = S.set p u := by
  funext q
  rw [Sto.set_at, Sto.set_at, Sto.set_at]
  by_cases h : q = p
  · rw [if_pos h, if_pos h]
  · rw [if_neg h, if_neg h, if_neg h]
/-- a new address is none of the known -/
theorem Sto.fresh {S : Sto} {p q : Addr} {o : O} (n : S q = none) (h : S p = some o) : p ≠ q := fun e => by subst e; rw [n] at h; cases h
/-- by a test's answer -/
def onB (d : D) (A B : Prop) : Prop := match d with
  | .bl true => A
  | .bl false => B
  | _ => False
def onI (d : D) (A : Int → Prop) : Prop := match d with
  | .int i => A i
  | _ => False
def onV (o : Option (Option D)) (A : D → Prop) : Prop := match o with
  | some (some d) => A d
  | _ => False
def onF (d : D) (A : Nat → Prop) : Prop := match d with
  | .fn k => A k
  | _ => False
/-- a new object -/
def newL (S : Sto) (o : O) (Q : Addr → Sto → Prop) : Prop := ∀ p, S p = none → Q p (S.set p o)
/-- an item of a list is put -/
def putL (S : Sto) (x y d : D) (K : Sto → Prop) : Prop := match x, y with
  | .ref p, .int j => match S p with
    | some (.lst xs) => match ixN xs.length j with
      | some n => K (S.set p (.lst (xs.set n d)))
      | none => False
    | _ => False
  | _, _ => False
theorem onB_t {A B : Prop} : onB (.bl true) A B = A := rfl
theorem onB_f {A B : Prop} : onB (.bl false) A B = B := rfl
theorem onB_n {A B : Prop} {b : Bool} : onB (.bl (!b)) A B = onB (.bl b) B A := by cases b <;> rfl
theorem onV_s {A : D → Prop} {d : D} : onV (some (some d)) A = A d := rfl
theorem onF_f {A : Nat → Prop} {k : Nat} : onF (.fn k) A = A k := rfl
theorem onI_i {A : Int → Prop} {i : Int} : onI (.int i) A = A i := rfl
/-- a test: both ways -/
theorem onB_d {A B c : Prop} [i : Decidable c] (h1 : c → A) (h2 : ¬c → B) : onB (.bl (decide c)) A B := by
  cases i with
  | isTrue h => exact h1 h
  | isFalse h => exact h2 h
theorem onB_b {A B : Prop} {b : Bool} (h1 : b = true → A) (h2 : b = false → B) : onB (.bl b) A B := by
  cases b
  · exact h2 rfl
  · exact h1 rfl
theorem putL_at {S : Sto} {p : Addr} {xs : List D} {j : Int} {n : Nat} {d : D} {K : Sto → Prop} (h : S p = some (.lst xs)) (e : ixN xs.length j = some n) (k : K (S.set p (.lst (xs.set n d)))) : putL S (.ref p) (.int j) d K := by
  unfold putL
  dsimp only
  rw [h]
  dsimp only
  rw [e]
  exact k
theorem putL_eq {S : Sto} {p : Addr} {xs : List D} {j : Int} {d : D} {K : Sto → Prop} (h : S p = some (.lst xs)) : putL S (.ref p) (.int j) d K = match ixN xs.length j with
      | some n => K (S.set p (.lst (xs.set n d)))
      | none => False := by
  unfold putL
  dsimp only
  rw [h]
/-- what stood stands -/
def Ext (S S' : Sto) : Prop := ∀ q o, S q = some o → S' q = some o
theorem Ext.refl {S : Sto} : Ext S S := fun _ _ h => h
theorem Ext.trans {S S1 S2 : Sto} (h : Ext S S1) (k : Ext S1 S2) : Ext S S2 := fun q o e => k q o (h q o e)
theorem Ext.new {S : Sto} {p : Addr} {o : O} (n : S p = none) : Ext S (S.set p o) := fun q u e => by rw [Sto.ne (fun z => by subst z; rw [n] at e; cases e)]; exact e
/-- what stood stands, but at p -/
def ExtX (p : Addr) (S S' : Sto) : Prop := ∀ q o, q ≠ p → S q = some o → S' q = some o
theorem Ext.x {S S' : Sto} {p : Addr} (h : Ext S S') : ExtX p S S' := fun q o _ e => h q o e
theorem ExtX.refl {S : Sto} {p : Addr} : ExtX p S S := fun _ _ _ h => h
theorem ExtX.trans {S S1 S2 : Sto} {p : Addr} (h : ExtX p S S1) (k : ExtX p S1 S2) : ExtX p S S2 := fun q o n e => k q o n (h q o n e)
theorem ExtX.put {S : Sto} {p : Addr} {o : O} : ExtX p S (S.set p o) := fun q u n e => by rw [Sto.ne n]; exact e
/-- a thing that was laid behind the first heap may change -/
theorem ExtX.ext {S S1 S2 : Sto} {p : Addr} (n : S p = none) (h : Ext S S1) (k : ExtX p S1 S2) : Ext S S2 := fun q o e => k q o (fun z => by subst z; rw [n] at e; cases e) (h q o e)
/-- the new object's place, the heap with it -/
theorem newL_i {S : Sto} {o : O} {Q : Addr → Sto → Prop} (h : ∀ p S', Ext S S' → S' p = some o → S p = none → Q p S') : newL S o Q := fun p n => h p _ (Ext.new n) Sto.same n
theorem r_var {C : CallF} {fr : Fr} {S : Sto} {Q : PoE} {E : PoX} {i : Nat} : wpE C (.var i) fr S Q E = (onV fr[i]? fun d => Q d S) := by
  simp only [wpE]
  rfl
theorem r_cst {C : CallF} {fr : Fr} {S : Sto} {Q : PoE} {E : PoX} {d : D} : wpE C (.cst d) fr S Q E = (Q d S) := by
  simp only [wpE]
theorem r_fnv {C : CallF} {fr : Fr} {S : Sto} {Q : PoE} {E : PoX} {k : Nat} : wpE C (.fnv k) fr S Q E = (Q (.fn k) S) := by
  simp only [wpE]
theorem r_bin {C : CallF} {fr : Fr} {S : Sto} {Q : PoE} {E : PoX} {o : BOp} {a b : IE} : wpE C (.bin o a b) fr S Q E = (wpE C a fr S (fun x S1 => wpE C b fr S1 (fun y S2 => wpBin o x y S2 Q) E) E) := by
  simp only [wpE]
theorem r_neg {C : CallF} {fr : Fr} {S : Sto} {Q : PoE} {E : PoX} {a : IE} : wpE C (.neg a) fr S Q E = (wpE C a fr S (fun x S1 => onI x fun i => Q (.int (-i)) S1) E) := by
  simp only [wpE]
  rfl
theorem r_nt {C : CallF} {fr : Fr} {S : Sto} {Q : PoE} {E : PoX} {a : IE} : wpE C (.nt a) fr S Q E = (wpE C a fr S (fun x S1 => onB x (Q (.bl false) S1) (Q (.bl true) S1)) E) := by
  simp only [wpE]
  refine congrArg (fun z => wpE C a fr S z E) (funext fun x => funext fun S1 => ?_)
  unfold onB
  cases x <;> first | rfl | (rename_i b; cases b <;> rfl)
theorem r_cmp {C : CallF} {fr : Fr} {S : Sto} {Q : PoE} {E : PoX} {o : COp} {a b : IE} : wpE C (.cmp o a b) fr S Q E = (wpE C a fr S (fun x S1 => wpE C b fr S1 (fun y S2 => wpCmp o x y S2 Q) E) E) := by
  simp only [wpE]
theorem r_conj {C : CallF} {fr : Fr} {S : Sto} {Q : PoE} {E : PoX} {es : IEs} : wpE C (.conj es) fr S Q E = (wpConj C es fr S Q E) := by
  simp only [wpE]
theorem r_disj {C : CallF} {fr : Fr} {S : Sto} {Q : PoE} {E : PoX} {es : IEs} : wpE C (.disj es) fr S Q E = (wpDisj C es fr S Q E) := by
  simp only [wpE]
theorem r_ite {C : CallF} {fr : Fr} {S : Sto} {Q : PoE} {E : PoX} {t a b : IE} : wpE C (.ite t a b) fr S Q E = (wpE C t fr S (fun x S1 => onB x (wpE C a fr S1 Q E) (wpE C b fr S1 Q E)) E) := by
  simp only [wpE]
  rfl
theorem r_tup {C : CallF} {fr : Fr} {S : Sto} {Q : PoE} {E : PoX} {es : IEs} : wpE C (.tup es) fr S Q E = (wpEs C es fr S (fun ds S1 => ds.length ≤ 1000 ∧ Q (.tup ds) S1) E) := by
  simp only [wpE]
theorem r_lst {C : CallF} {fr : Fr} {S : Sto} {Q : PoE} {E : PoX} {es : IEs} : wpE C (.lst es) fr S Q E = (wpEs C es fr S (fun ds S1 => ds.length ≤ 1000 ∧ newL S1 (.lst ds) fun p S2 => Q (.ref p) S2) E) := by
  simp only [wpE]
  rfl
theorem r_idx {C : CallF} {fr : Fr} {S : Sto} {Q : PoE} {E : PoX} {a i : IE} : wpE C (.idx a i) fr S Q E = (wpE C a fr S (fun x S1 => wpE C i fr S1 (fun y S2 => wpIdx x y S2 Q) E) E) := by
  simp only [wpE]
theorem r_call {C : CallF} {fr : Fr} {S : Sto} {Q : PoE} {E : PoX} {k : Nat} {es : IEs} : wpE C (.call k es) fr S Q E = (wpEs C es fr S (fun ds S1 => C k ds S1 Q E) E) := by
  simp only [wpE]
theorem r_callk {C : CallF} {fr : Fr} {S : Sto} {Q : PoE} {E : PoX} {k : Nat} {nm : List Str} {pt : List Nat} {es ks : IEs} : wpE C (.callk k nm pt es ks) fr S Q E = (wpEs C es fr S (fun ds S1 => wpEs C ks fr S1 (fun zs S2 => (ds.length = es.len ∧ zs.length = nm.length) ∧ C k (pick pt (ds ++ zs)) S2 Q E) E) E) := by
  simp only [wpE]
theorem r_callv {C : CallF} {fr : Fr} {S : Sto} {Q : PoE} {E : PoX} {i : Nat} {es : IEs} : wpE C (.callv i es) fr S Q E = (onV fr[i]? fun d => onF d fun k => wpEs C es fr S (fun ds S1 => C k ds S1 Q E) E) := by
  simp only [wpE]
  unfold onV onF
  rcases fr[i]? with _ | _ | d <;> first | rfl | (cases d <;> rfl)
theorem r_blt {C : CallF} {fr : Fr} {S : Sto} {Q : PoE} {E : PoX} {f : Bf} {es : IEs} : wpE C (.blt f es) fr S Q E = (wpEs C es fr S (fun ds S1 => wpB f ds S1 Q) E) := by
  simp only [wpE]
theorem r_fst {C : CallF} {fr : Fr} {S : Sto} {Q : PoE} {E : PoX} {es : IEs} : wpE C (.fst es) fr S Q E = (wpF C es Str.empty fr S (fun x S1 => Q (.str x) S1) E) := by
  simp only [wpE]
theorem r_conj1 {C : CallF} {fr : Fr} {S : Sto} {Q : PoE} {E : PoX} {e : IE} : wpConj C (.cons e .nil) fr S Q E = (wpE C e fr S Q E) := by
  simp only [wpConj]
theorem r_conj2 {C : CallF} {fr : Fr} {S : Sto} {Q : PoE} {E : PoX} {e e2 : IE} {es2 : IEs} : wpConj C (.cons e (.cons e2 es2)) fr S Q E = (wpE C e fr S (fun x S1 => onB x (wpConj C (.cons e2 es2) fr S1 Q E) (Q (.bl false) S1)) E) := by
  simp only [wpConj]
  rfl
theorem r_disj1 {C : CallF} {fr : Fr} {S : Sto} {Q : PoE} {E : PoX} {e : IE} : wpDisj C (.cons e .nil) fr S Q E = (wpE C e fr S Q E) := by
  simp only [wpDisj]
theorem r_disj2 {C : CallF} {fr : Fr} {S : Sto} {Q : PoE} {E : PoX} {e e2 : IE} {es2 : IEs} : wpDisj C (.cons e (.cons e2 es2)) fr S Q E = (wpE C e fr S (fun x S1 => onB x (Q (.bl true) S1) (wpDisj C (.cons e2 es2) fr S1 Q E)) E) := by
  simp only [wpDisj]
  rfl
theorem r_ts0 {C : CallF} {fr : Fr} {S : Sto} {Q : PoE} {E : PoX} : wpTs C .nil fr S Q E = (Q (.bl true) S) := by
  simp only [wpTs]
theorem r_ts1 {C : CallF} {fr : Fr} {S : Sto} {Q : PoE} {E : PoX} {e : IE} {es : IEs} : wpTs C (.cons e es) fr S Q E = (wpE C e fr S (fun x S1 => onB x (wpTs C es fr S1 Q E) (Q (.bl false) S1)) E) := by
  simp only [wpTs]
  rfl
theorem r_asg {C : CallF} {sb : Nat → Nat → Bool} {fr : Fr} {S : Sto} {P : Po} {i : Nat} {e : IE} : wpS C sb (.asg i e) fr S P = (wpE C e fr S (fun d S1 => P.nx (fr.set i (some d)) S1) (fun x S1 => P.xc x fr S1)) := by
  simp only [wpS]
theorem r_asgc {C : CallF} {sb : Nat → Nat → Bool} {fr : Fr} {S : Sto} {P : Po} {i : Nat} {e : IE} : wpS C sb (.asgc i e) fr S P = (wpE C e fr S (fun d S1 => P.nx (fr.set i (some d)) S1) (fun x S1 => P.xc x fr S1)) := by
  simp only [wpS]
theorem r_par {C : CallF} {sb : Nat → Nat → Bool} {fr : Fr} {S : Sto} {P : Po} {i j : Nat} {a b : IE} : wpS C sb (.par i j a b) fr S P = (wpE C a fr S (fun d S1 => wpE C b fr S1 (fun d' S2 => P.nx ((fr.set i (some d)).set j (some d')) S2) (fun x S2 => P.xc x fr S2)) (fun x S1 => P.xc x fr S1)) := by
  simp only [wpS]
theorem r_asgt {C : CallF} {sb : Nat → Nat → Bool} {fr : Fr} {S : Sto} {P : Po} {ts : ITs} {e : IE} : wpS C sb (.asgt ts e) fr S P = (wpE C e fr S (fun d S1 => match d with
    | .tup ds => ds.length = ts.len ∧ wpAs C sb ts ds fr S1 P
    | _ => False) (fun x S1 => P.xc x fr S1)) := by
  simp only [wpS]
  first | done | rfl
theorem r_exp {C : CallF} {sb : Nat → Nat → Bool} {fr : Fr} {S : Sto} {P : Po} {e : IE} : wpS C sb (.exp e) fr S P = (wpE C e fr S (fun _ S1 => P.nx fr S1) (fun x S1 => P.xc x fr S1)) := by
  simp only [wpS]
theorem r_ret {C : CallF} {sb : Nat → Nat → Bool} {fr : Fr} {S : Sto} {P : Po} {e : IE} : wpS C sb (.ret e) fr S P = (wpE C e fr S P.rt (fun x S1 => P.xc x fr S1)) := by
  simp only [wpS]
theorem r_retn {C : CallF} {sb : Nat → Nat → Bool} {fr : Fr} {S : Sto} {P : Po} : wpS C sb (.retn) fr S P = (P.rt .non S) := by
  simp only [wpS]
theorem r_ifs {C : CallF} {sb : Nat → Nat → Bool} {fr : Fr} {S : Sto} {P : Po} {t : IE} {a b : ISs} : wpS C sb (.ifs t a b) fr S P = (wpE C t fr S (fun d S1 => onB d (wpSs C sb a fr S1 P) (wpSs C sb b fr S1 P)) (fun x S1 => P.xc x fr S1)) := by
  simp only [wpS]
  rfl
theorem r_rais {C : CallF} {sb : Nat → Nat → Bool} {fr : Fr} {S : Sto} {P : Po} {k : Nat} : wpS C sb (.rais k) fr S P = (P.xc ⟨.cls k, []⟩ fr S) := by
  simp only [wpS]
theorem r_pass {C : CallF} {sb : Nat → Nat → Bool} {fr : Fr} {S : Sto} {P : Po} : wpS C sb (.pass) fr S P = (P.nx fr S) := by
  simp only [wpS]
theorem r_whil {C : CallF} {sb : Nat → Nat → Bool} {fr : Fr} {S : Sto} {P : Po} {t : IE} {b : ISs} : wpS C sb (.whil t b) fr S P = (∃ W : Nat → Fr → Sto → Prop, (∃ m, W m fr S) ∧ ∀ m fr2 S2, W m fr2 S2 →
      wpE C t fr2 S2 (fun d S3 => onB d (wpSs C sb b fr2 S3 { nx := fun fr' S' => ∃ m', m' < m ∧ W m' fr' S', rt := P.rt, bk := P.nx, ct := fun fr' S' => ∃ m', m' < m ∧ W m' fr' S', xc := P.xc }) (P.nx fr2 S3)) (fun x S3 => P.xc x fr2 S3)) := by
  simp only [wpS]
  rfl
theorem r_fors {C : CallF} {sb : Nat → Nat → Bool} {fr : Fr} {S : Sto} {P : Po} {tg : Tg} {it : II} {b : ISs} : wpS C sb (.fors tg it b) fr S P = (wpI C it fr S (fun J S1 => ∃ W : Nat → Nat → Fr → Sto → Prop, (∃ m, W 0 m fr S1) ∧ ∀ i m fr2 S2, W i m fr2 S2 →
      match J i S2 with
      | none => False
      | some none => P.nx fr2 S2
      | some (some d) => match bindG tg d fr2 with
        | none => False
        | some fr3 => wpSs C sb b fr3 S2 { nx := fun fr' S' => ∃ m', m' < m ∧ W (i + 1) m' fr' S', rt := P.rt, bk := P.nx, ct := fun fr' S' => ∃ m', m' < m ∧ W (i + 1) m' fr' S', xc := P.xc }) (fun x S1 => P.xc x fr S1)) := by
  simp only [wpS]
  first | done | rfl
theorem r_sub {C : CallF} {sb : Nat → Nat → Bool} {fr : Fr} {S : Sto} {P : Po} {o i e : IE} : wpS C sb (.sub o i e) fr S P = (wpE C e fr S (fun d S1 => wpE C o fr S1 (fun x S2 => wpE C i fr S2 (fun y S3 => putL S3 x y d fun S4 => P.nx fr S4) (fun x S3 => P.xc x fr S3)) (fun x S2 => P.xc x fr S2)) (fun x S1 => P.xc x fr S1)) := by
  simp only [wpS]
  rfl
theorem r_tryo {C : CallF} {sb : Nat → Nat → Bool} {fr : Fr} {S : Sto} {P : Po} {k : Nat} {b h : ISs} : wpS C sb (.tryo k b h) fr S P = (wpSs C sb b fr S { nx := P.nx, rt := P.rt, bk := P.bk, ct := P.ct, xc := fun x fr' S' => match x.cls with
      | .cls j => if sb j k = true then wpSs C sb h fr' S' { nx := P.nx, rt := P.rt, bk := P.bk, ct := P.ct, xc := fun _ _ _ => False } else P.xc x fr' S'
      | _ => False }) := by
  simp only [wpS]
  first | done | rfl
theorem r_anm {C : CallF} {sb : Nat → Nat → Bool} {fr : Fr} {S : Sto} {P : Po} {d : D} {i : Nat} : wpA C sb (.nm i) d fr S P = (P.nx (fr.set i (some d)) S) := by
  simp only [wpA]
theorem r_asub {C : CallF} {sb : Nat → Nat → Bool} {fr : Fr} {S : Sto} {P : Po} {d : D} {o i : IE} : wpA C sb (.sub o i) d fr S P = (wpE C o fr S (fun x S2 => wpE C i fr S2 (fun y S3 => putL S3 x y d fun S4 => P.nx fr S4) (fun x S3 => P.xc x fr S3)) (fun x S2 => P.xc x fr S2)) := by
  simp only [wpA]
  rfl
theorem r_as0 {C : CallF} {sb : Nat → Nat → Bool} {fr : Fr} {S : Sto} {P : Po} : wpAs C sb .nil [] fr S P = (P.nx fr S) := by
  simp only [wpAs]
theorem r_as1 {C : CallF} {sb : Nat → Nat → Bool} {fr : Fr} {S : Sto} {P : Po} {d : D} {ds : List D} {t : IT} {ts : ITs} : wpAs C sb (.cons t ts) (d :: ds) fr S P = (wpA C sb t d fr S { nx := fun fr' S' => wpAs C sb ts ds fr' S' P, rt := P.rt, bk := P.bk, ct := P.ct, xc := P.xc }) := by
  simp only [wpAs]
theorem bin_add {i j : Int} {S Q} : wpBin .add (.int i) (.int j) S Q = Q (.int (i + j)) S := rfl
theorem bin_cat {i j : Str} {S Q} : wpBin .add (.str i) (.str j) S Q = (Line (i.length + j.length) ∧ Q (.str (i ++ j)) S) := rfl
theorem bin_adds {p q : Addr} {S : Sto} {Q} {xs ys : List D} (h1 : S p = some (.lst xs)) (h2 : S q = some (.lst ys)) : wpBin .add (.ref p) (.ref q) S Q = (Line (xs.length + ys.length) ∧ newL S (.lst (xs ++ ys)) fun r S2 => Q (.ref r) S2) := by
  show (match S p, S q with
      | some (.lst xs), some (.lst ys) => Line (xs.length + ys.length) ∧ ∀ r, S r = none → Q (.ref r) (S.set r (.lst (xs ++ ys)))
      | _, _ => False) = _
  rw [h1, h2]
  rfl
theorem bin_sub {i j : Int} {S Q} : wpBin .sub (.int i) (.int j) S Q = Q (.int (i - j)) S := rfl
theorem bin_mul {i j : Int} {S Q} : wpBin .mul (.int i) (.int j) S Q = (Mul i j ∧ Q (.int (i * j)) S) := rfl
theorem bin_mod {i j : Int} {S Q} : wpBin .mod (.int i) (.int j) S Q = (j ≠ 0 ∧ Q (.int (i.fmod j)) S) := rfl
theorem bin_fdiv {i j : Int} {S Q} : wpBin .fdiv (.int i) (.int j) S Q = ((j ≠ 0 ∧ j.natAbs < 2 ^ 8900) ∧ Q (.int (i.fdiv j)) S) := rfl
theorem bin_pow {i j : Int} {S Q} : wpBin .pow (.int i) (.int j) S Q = ((0 ≤ j ∧ j ≤ 1000 ∧ i.natAbs < 2 ^ 64) ∧ Q (.int (i ^ j.toNat)) S) := rfl
theorem idx_tup {ds : List D} {i : Int} {S Q} : wpIdx (.tup ds) (.int i) S Q = (match atI ds i with
    | some d => Q d S
    | none => False) := rfl
theorem idx_scr {ds : List D} {i : Int} {S Q} : wpIdx (.scr ds) (.int i) S Q = (match atI ds i with
    | some d => Q d S
    | none => False) := rfl
theorem idx_ref {p : Addr} {ds : List D} {i : Int} {S : Sto} {Q} (h : S p = some (.lst ds)) : wpIdx (.ref p) (.int i) S Q = (match atI ds i with
    | some d => Q d S
    | none => False) := by
  show (match S p with
    | some (.lst ds) => match atI ds i with
      | some d => Q d S
      | none => False
    | _ => False) = _
  rw [h]
theorem atI_nat {ds : List D} {i : Nat} : atI ds (i : Int) = ds[i]? := by
  unfold atI ixN
  rw [if_pos (by omega)]
  by_cases h : i < ds.length
  · rw [if_pos (by omega), Int.toNat_natCast]; rfl
  · rw [if_neg (by omega), List.getElem?_eq_none (by omega)]; rfl
theorem atI_0 {ds : List D} : atI ds 0 = ds[0]? := atI_nat (i := 0)
theorem atI_1 {ds : List D} : atI ds 1 = ds[1]? := atI_nat (i := 1)
theorem atI_2 {ds : List D} : atI ds 2 = ds[2]? := atI_nat (i := 2)
theorem atI_3 {ds : List D} : atI ds 3 = ds[3]? := atI_nat (i := 3)
theorem atI_4 {ds : List D} : atI ds 4 = ds[4]? := atI_nat (i := 4)
theorem atI_5 {ds : List D} : atI ds 5 = ds[5]? := atI_nat (i := 5)
theorem atI_6 {ds : List D} : atI ds 6 = ds[6]? := atI_nat (i := 6)
theorem atI_7 {ds : List D} : atI ds 7 = ds[7]? := atI_nat (i := 7)
theorem atI_8 {ds : List D} : atI ds 8 = ds[8]? := atI_nat (i := 8)
theorem atI_bit {d e : D} {b : Bool} : atI [d, e] (if b then 1 else 0) = some (if b then e else d) := by
  cases b
  · exact atI_0
  · exact atI_1
theorem mul_ok {i j : Int} (h1 : i.natAbs < 2 ^ 4000) (h2 : j.natAbs < 2 ^ 4000) : Mul i j := ⟨Nat.lt_of_lt_of_le h1 (Nat.pow_le_pow_right (by decide) (by decide)), Nat.lt_of_lt_of_le h2 (Nat.pow_le_pow_right (by decide) (by decide))⟩
end L3

namespace L3
open PySem
/-! ### fractions in lowest terms -/
theorem gcd_fmod (a b : Int) : Int.gcd b (a.fmod b) = Int.gcd a b := by
  have e : a.fmod b = a + b * (-(a.fdiv b)) := by rw [Int.fmod_def, Int.mul_neg, Int.sub_eq_add_neg]
  rw [e, Int.gcd_add_mul_left_right, Int.gcd_comm]
theorem fmod_lt (a b : Int) (h : b ≠ 0) : (a.fmod b).natAbs < b.natAbs := by
  rcases Int.lt_or_gt_of_ne h with h | h
  · have h1 := @Int.fmod_eq_emod a b
    have h2 := Int.emod_nonneg a (Int.ne_of_lt h)
    have h3 := Int.emod_lt a (Int.ne_of_lt h)
    have h4 := @Int.emod_add_mul_ediv a b
    split at h1
    · omega
    · rename_i h5
      have h6 : a % b ≠ 0 := fun z => h5 (.inr (Int.dvd_of_emod_eq_zero z))
      omega
  · have h1 := Int.fmod_nonneg_of_pos a h
    have h2 := Int.fmod_lt_of_pos a h
    omega
def lowG (n d : Int) : Int := if d < 0 then -(Int.gcd n d : Int) else Int.gcd n d
/-- n/d in lowest terms -/
def low (n d : Int) : Int × Int := (n.fdiv (lowG n d), d.fdiv (lowG n d))
def frD (x : Int × Int) : D := .tup [.int x.1, .int x.2]
theorem gcd_pos {n d : Int} (h : d ≠ 0) : 0 < Int.gcd n d := Nat.pos_of_ne_zero fun z => h (Int.gcd_eq_zero_iff.mp z).2
theorem lowG_ne {n d : Int} (h : d ≠ 0) : lowG n d ≠ 0 := by
  have := gcd_pos (n := n) h
  unfold lowG
  split <;> omega
theorem lowG_abs {n d : Int} : (lowG n d).natAbs = Int.gcd n d := by
  unfold lowG
  split <;> omega
theorem lowG_le {n d : Int} (h : d ≠ 0) : (lowG n d).natAbs ≤ d.natAbs := by
  rw [lowG_abs]
  exact Nat.le_of_dvd (by omega) (Int.gcd_dvd_natAbs_right n d)
theorem lowG_dvd1 {n d : Int} : lowG n d ∣ n := by
  unfold lowG
  split
  · exact Int.neg_dvd.mpr (Int.gcd_dvd_left ..)
  · exact Int.gcd_dvd_left ..
theorem lowG_dvd2 {n d : Int} : lowG n d ∣ d := by
  unfold lowG
  split
  · exact Int.neg_dvd.mpr (Int.gcd_dvd_right ..)
  · exact Int.gcd_dvd_right ..
theorem low1 {n d : Int} (h : d ≠ 0) : (low n d).1 * lowG n d = n := Int.fdiv_mul_cancel lowG_dvd1
theorem low2 {n d : Int} (h : d ≠ 0) : (low n d).2 * lowG n d = d := Int.fdiv_mul_cancel lowG_dvd2
theorem low_pos {n d : Int} (h : d ≠ 0) : 0 < (low n d).2 := by
  have e := low2 (n := n) h
  have g := gcd_pos (n := n) h
  by_cases hd : d < 0
  · have : lowG n d = -(Int.gcd n d : Int) := if_pos hd
    rw [this] at e
    refine Int.not_le.mp fun z => ?_
    have : 0 ≤ (low n d).2 * -(Int.gcd n d : Int) := Int.mul_nonneg_of_nonpos_of_nonpos z (by omega)
    omega
  · have : lowG n d = (Int.gcd n d : Int) := if_neg hd
    rw [this] at e
    refine Int.not_le.mp fun z => ?_
    have : (low n d).2 * (Int.gcd n d : Int) ≤ 0 := Int.mul_nonpos_of_nonpos_of_nonneg z (by omega)
    omega
theorem low_gcd {n d : Int} (h : d ≠ 0) : Int.gcd (low n d).1 (low n d).2 = 1 := by
  have g := gcd_pos (n := n) h
  have e : Int.gcd ((low n d).1 * lowG n d) ((low n d).2 * lowG n d) = Int.gcd n d := by rw [low1 h, low2 h]
  rw [Int.gcd_mul_right, lowG_abs] at e
  exact Nat.eq_of_mul_eq_mul_right g (by rw [e, Nat.one_mul])
theorem low_cross {n d : Int} (h : d ≠ 0) : (low n d).1 * d = n * (low n d).2 := by
  have e1 := low1 (n := n) h
  have e2 := low2 (n := n) h
  calc (low n d).1 * d = (low n d).1 * ((low n d).2 * lowG n d) := by rw [e2]
    _ = ((low n d).1 * lowG n d) * (low n d).2 := by rw [Int.mul_comm (low n d).2, Int.mul_assoc]
    _ = n * (low n d).2 := by rw [e1]
theorem dvd_left {a b d : Int} (h : b ∣ a * d) (g : Int.gcd a b = 1) : b ∣ d := by
  rw [← Int.natAbs_dvd_natAbs, Int.natAbs_mul] at h
  refine Int.natAbs_dvd_natAbs.mp (Nat.Coprime.dvd_of_dvd_mul_left ?_ h)
  have : Nat.gcd a.natAbs b.natAbs = 1 := g
  exact (Nat.gcd_comm ..).trans this
/-- a reduced fraction is the only one of its worth -/
theorem red_uniq {a b c d : Int} (hb : 0 < b) (hd : 0 < d) (h1 : Int.gcd a b = 1) (h2 : Int.gcd c d = 1) (e : a * d = c * b) : a = c ∧ b = d := by
  have k1 : b ∣ d := by
    have : b ∣ a * d := ⟨c, by rw [e, Int.mul_comm]⟩
    exact dvd_left this h1
  have k2 : d ∣ b := by
    have : d ∣ c * b := ⟨a, by rw [← e, Int.mul_comm]⟩
    exact dvd_left this h2
  have eb : b = d := Int.dvd_antisymm (by omega) (by omega) k1 k2
  subst eb
  exact ⟨Int.eq_of_mul_eq_mul_right (by omega) e, rfl⟩
theorem low_uniq {n d a b : Int} (h : d ≠ 0) (hb : 0 < b) (h1 : Int.gcd a b = 1) (e : a * d = n * b) : low n d = (a, b) := by
  have hc := low_cross (n := n) h
  obtain ⟨k1, k2⟩ := red_uniq (low_pos (n := n) h) hb (low_gcd (n := n) h) h1 (by
    have : (low n d).1 * b * d = a * (low n d).2 * d := by
      calc (low n d).1 * b * d = (low n d).1 * d * b := by rw [Int.mul_assoc, Int.mul_comm b, ← Int.mul_assoc]
        _ = n * (low n d).2 * b := by rw [hc]
        _ = n * b * (low n d).2 := by rw [Int.mul_assoc, Int.mul_comm (low n d).2, ← Int.mul_assoc]
        _ = a * d * (low n d).2 := by rw [e]
        _ = a * (low n d).2 * d := by rw [Int.mul_assoc, Int.mul_comm d, ← Int.mul_assoc]
    exact Int.eq_of_mul_eq_mul_right h this)
  exact Prod.ext k1 k2
theorem natAbs_le_mul {a g : Int} (h : g ≠ 0) : a.natAbs ≤ (a * g).natAbs := by
  rw [Int.natAbs_mul]
  exact Nat.le_mul_of_pos_right _ (by omega)
theorem low_le1 {n d : Int} (h : d ≠ 0) : (low n d).1.natAbs ≤ n.natAbs := by
  have := natAbs_le_mul (a := (low n d).1) (lowG_ne (n := n) h)
  rwa [low1 h] at this
theorem low_le2 {n d : Int} (h : d ≠ 0) : (low n d).2.natAbs ≤ d.natAbs := by
  have := natAbs_le_mul (a := (low n d).2) (lowG_ne (n := n) h)
  rwa [low2 h] at this
/-- a reduced fraction -/
structure Red (x : Int × Int) : Prop where
  pos : 0 < x.2
  gcd : Int.gcd x.1 x.2 = 1
theorem low_red {n d : Int} (h : d ≠ 0) : Red (low n d) := ⟨low_pos h, low_gcd h⟩
theorem low_self {x : Int × Int} (r : Red x) : low x.1 x.2 = x := low_uniq (by have := r.pos; omega) r.pos r.gcd rfl
/-- what is added and taken away again -/
theorem low_back {a b c d : Int} (rb : Red (a, b)) (hd : d ≠ 0) : low ((low (a * d + c * b) (b * d)).1 * d - c * (low (a * d + c * b) (b * d)).2) ((low (a * d + c * b) (b * d)).2 * d) = (a, b) := by
  have hb : b ≠ 0 := by have := rb.pos; simp only at this; omega
  have hbd : b * d ≠ 0 := Int.mul_ne_zero hb hd
  have hx := low_cross (n := a * d + c * b) hbd
  have hp := low_pos (n := a * d + c * b) hbd
  generalize low (a * d + c * b) (b * d) = z at hx hp ⊢
  obtain ⟨p, q⟩ := z
  simp only at hx hp ⊢
  refine low_uniq (Int.mul_ne_zero (by omega) hd) rb.pos rb.gcd ?_
  have e : p * (b * d) = (a * d + c * b) * q := hx
  rw [Int.sub_mul]
  have e1 : p * d * b = p * (b * d) := by rw [Int.mul_assoc, Int.mul_comm d b]
  rw [e1, e, Int.add_mul]
  have e2 : c * b * q = c * q * b := by rw [Int.mul_assoc, Int.mul_comm b q, ← Int.mul_assoc]
  rw [e2, Int.add_sub_cancel, Int.mul_comm q d, ← Int.mul_assoc]
/-! ### the size of a repr -/
theorem pow_lt {i : Int} {a b : Nat} (h : i.natAbs < 2 ^ a) (hab : a ≤ b) : i.natAbs < 2 ^ b := Nat.lt_of_lt_of_le h (Nat.pow_le_pow_right (by decide) hab)
theorem mul_lt {i j : Int} {a b c : Nat} (h1 : i.natAbs < 2 ^ a) (h2 : j.natAbs < 2 ^ b) (hc : a + b ≤ c) : (i * j).natAbs < 2 ^ c := by
  rw [Int.natAbs_mul]
  refine Nat.lt_of_lt_of_le ?_ (Nat.pow_le_pow_right (by decide) hc)
  rw [Nat.pow_add]
  exact Nat.mul_lt_mul'' h1 h2
theorem add_lt {i j : Int} {a b c : Nat} (h1 : i.natAbs < 2 ^ a) (h2 : j.natAbs < 2 ^ b) (ha : a < c) (hb : b < c) : (i + j).natAbs < 2 ^ c := by
  have k1 := pow_lt h1 (Nat.le_sub_one_of_lt ha)
  have k2 := pow_lt h2 (Nat.le_sub_one_of_lt hb)
  have e : 2 ^ c = 2 ^ (c - 1) + 2 ^ (c - 1) := by
    obtain ⟨k, rfl⟩ : ∃ k, c = k + 1 := ⟨c - 1, by omega⟩
    rw [Nat.add_sub_cancel, Nat.pow_succ]; omega
  rw [e]
  omega
theorem sub_lt {i j : Int} {a b c : Nat} (h1 : i.natAbs < 2 ^ a) (h2 : j.natAbs < 2 ^ b) (ha : a < c) (hb : b < c) : (i - j).natAbs < 2 ^ c := by
  rw [Int.sub_eq_add_neg]
  exact add_lt h1 (by rw [Int.natAbs_neg]; exact h2) ha hb
/-- a fraction as a text -/
def frT (a b : Int) : Str := if b = 1 then (toString a : Str) else (toString a : Str) ++ ("/" ++ (toString b : Str))
end L3

namespace L3
open PySem PySem.Spec PyProof.Rows L2
/-- a thing that repr shows, in at most B signs -/
structure Tell (p : PyData) (B d : Nat) : Prop where
  sh : p.showable = true
  nd : p.hasDict = false
  dp : p.depth ≤ d
  ln : p.shown.length ≤ B
theorem Tell.mono {p : PyData} {B d B' d' : Nat} (t : Tell p B d) (hB : B ≤ B') (hd : d ≤ d') : Tell p B' d' := ⟨t.sh, t.nd, Nat.le_trans t.dp hd, Nat.le_trans t.ln hB⟩
theorem len_int {i : Int} (h : i.natAbs < 2 ^ 1900) : (toString i : Str).length ≤ 1921 := int_text_len_1921 (small_log h)
theorem tell_int {i : Int} (h : i.natAbs < 2 ^ 1900) : Tell (.int i) 1921 1 := by
  refine ⟨by unfold PyData.showable; exact decide_eq_true (small_log h), by unfold PyData.hasDict; rfl, by unfold PyData.depth; omega, by unfold PyData.shown; exact len_int h⟩
theorem tell_bool {b : Bool} : Tell (.bool b) 5 1 := by
  refine ⟨by unfold PyData.showable; rfl, by unfold PyData.hasDict; rfl, by unfold PyData.depth; omega, by unfold PyData.shown; cases b <;> decide⟩
theorem tell_none : Tell .none 4 1 := by
  refine ⟨by unfold PyData.showable; rfl, by unfold PyData.hasDict; rfl, by unfold PyData.depth; omega, by unfold PyData.shown; decide⟩
theorem tell_str {x : Str} : Tell (.str x) (reprText x).length 1 := by
  refine ⟨by unfold PyData.showable; rfl, by unfold PyData.hasDict; rfl, by unfold PyData.depth; omega, by unfold PyData.shown; exact Nat.le_refl _⟩
theorem tell_str_le {x : Str} (hx : ∀ c ∈ x.cps.toList, c < 16 ^ 8) : Tell (.str x) (10 * x.length + 2) 1 := tell_str.mono (PySem.StrLaws.reprText_len x hx) (Nat.le_refl _)
theorem all_show : ∀ {xs : List PyData} {B d : Nat}, (∀ x ∈ xs, Tell x B d) → PyData.showableAll xs = true ∧ PyData.hasDictAll xs = false ∧ PyData.depthAll xs ≤ d ∧ piled (PyData.shownAll xs) ≤ xs.length * (B + 2) ∧ (PyData.shownAll xs).length = xs.length
  | [], B, d, h => by
    unfold PyData.showableAll PyData.hasDictAll PyData.depthAll PyData.shownAll
    exact ⟨rfl, rfl, Nat.zero_le _, Nat.zero_le _, rfl⟩
  | x :: xs, B, d, h => by
    obtain ⟨h1, h2, h3, h4, h5⟩ := all_show (xs := xs) fun y hy => h y (List.mem_cons_of_mem _ hy)
    have t := h x (List.mem_cons_self ..)
    unfold PyData.showableAll PyData.hasDictAll PyData.depthAll PyData.shownAll
    refine ⟨by rw [t.sh, h1]; rfl, by rw [t.nd, h2]; rfl, ?_, ?_, by rw [List.length_cons, List.length_cons, h5]⟩
    · have := t.dp
      omega
    · rw [piled_cons, List.length_cons, Nat.succ_mul]
      have := t.ln
      omega
theorem text_from : ∀ (ts : List Str) (k : Nat) (acc : Str), (textFrom k acc ts).length ≤ acc.length + piled ts
  | [], k, acc => Nat.le_refl _
  | t :: ts, k, acc => by
    refine Nat.le_trans (text_from ts (k + 1) _) ?_
    rw [strLen_append, strLen_append, piled_cons]
    have : (((if k > 0 then ", " else "" : String) : Str)).length ≤ 2 := by split <;> decide
    omega
theorem list_text (ts : List Str) : (listText ts).length ≤ 2 + piled ts := by
  unfold listText
  rw [strLen_append]
  have := text_from ts 0 "["
  have e1 : ((("[" : String) : Str)).length = 1 := rfl
  have e2 : ((("]" : String) : Str)).length = 1 := rfl
  omega
theorem tuple_text (ts : List Str) : (tupleText ts).length ≤ 3 + piled ts := by
  unfold tupleText
  rw [strLen_append, strLen_append]
  have e1 : ((("(" : String) : Str)).length = 1 := rfl
  have e3 : (((if ts.length == 1 then ",)" else ")" : String) : Str)).length ≤ 2 := by split <;> decide
  by_cases h : ts = []
  · subst h
    have : (Str.join ", " []).length = 0 := rfl
    omega
  · have := join_length_add ts h
    omega
theorem tell_list {xs : List PyData} {B d : Nat} (h : ∀ x ∈ xs, Tell x B d) : Tell (.list xs) (3 + xs.length * (B + 2)) (d + 1) := by
  obtain ⟨h1, h2, h3, h4, h5⟩ := all_show h
  refine ⟨by unfold PyData.showable; exact h1, by unfold PyData.hasDict; exact h2, by unfold PyData.depth; omega, ?_⟩
  unfold PyData.shown
  have := list_text (PyData.shownAll xs)
  omega
theorem tell_tup {xs : List PyData} {B d : Nat} (h : ∀ x ∈ xs, Tell x B d) : Tell (.tuple xs) (3 + xs.length * (B + 2)) (d + 1) := by
  obtain ⟨h1, h2, h3, h4, h5⟩ := all_show h
  refine ⟨by unfold PyData.showable; exact h1, by unfold PyData.hasDict; exact h2, by unfold PyData.depth; omega, ?_⟩
  unfold PyData.shown
  have := tuple_text (PyData.shownAll xs)
  omega
/-! ### built-in functions -/
section
variable {S : Sto} {Q : PoE}
theorem b_len_tup {xs : List D} : wpB .len [.tup xs] S Q = Q (.int xs.length) S := rfl
theorem b_len_scr {xs : List D} : wpB .len [.scr xs] S Q = Q (.int xs.length) S := rfl
theorem b_len_str {z : Str} : wpB .len [.str z] S Q = (Line z.length ∧ Q (.int z.length) S) := rfl
theorem b_len_ref {p : Addr} {xs : List D} (h : S p = some (.lst xs)) : wpB .len [.ref p] S Q = Q (.int xs.length) S := by
  show (match S p with
      | some (.lst xs) => Q (.int xs.length) S
      | _ => False) = _
  rw [h]
theorem b_abs {i : Int} : wpB .abs [.int i] S Q = Q (.int i.natAbs) S := rfl
theorem b_int {i : Int} : wpB .int [.int i] S Q = Q (.int i) S := rfl
theorem b_int_bl {b : Bool} : wpB .int [.bl b] S Q = Q (.int (if b then 1 else 0)) S := rfl
theorem b_max {i j : Int} : wpB .max [.int i, .int j] S Q = Q (.int (max i j)) S := rfl
theorem b_min {i j : Int} : wpB .min [.int i, .int j] S Q = Q (.int (min i j)) S := rfl
theorem b_divmod {i j : Int} : wpB .divmod [.int i, .int j] S Q = (Dvs j ∧ Q (.tup [.int (i / j), .int (i % j)]) S) := rfl
theorem b_str {i : Int} : wpB .str [.int i] S Q = (i.natAbs < 2 ^ 1900 ∧ Q (.str (toString i)) S) := rfl
theorem b_repr_int {i : Int} : wpB .repr [.int i] S Q = (i.natAbs < 2 ^ 1900 ∧ Q (.str (toString i)) S) := rfl
theorem b_repr_ref {p : Addr} {x : PyData} {B d : Nat} (h : toPy S 8 (.ref p) = some x) (t : Tell x B d) (hB : B ≤ 16000000) (hd : d ≤ 20) (hq : Q (.str x.shown) S) : wpB .repr [.ref p] S Q := by
  show (match toPy S 8 (.ref p) with
      | some p => p.showable = true ∧ Line p.shown.length ∧ p.depth ≤ 20 ∧ p.hasDict = false ∧ Q (.str p.shown) S
      | none => False)
  rw [h]
  exact ⟨t.sh, Nat.le_trans t.ln hB, Nat.le_trans t.dp hd, t.nd, hq⟩
theorem b_repr_tup {xs : List D} {x : PyData} {B d : Nat} (h : toPy S 8 (.tup xs) = some x) (t : Tell x B d) (hB : B ≤ 16000000) (hd : d ≤ 20) (hq : Q (.str x.shown) S) : wpB .repr [.tup xs] S Q := by
  show (match toPy S 8 (.tup xs) with
      | some p => p.showable = true ∧ Line p.shown.length ∧ p.depth ≤ 20 ∧ p.hasDict = false ∧ Q (.str p.shown) S
      | none => False)
  rw [h]
  exact ⟨t.sh, Nat.le_trans t.ln hB, Nat.le_trans t.dp hd, t.nd, hq⟩
theorem b_all {p : Addr} {xs : List D} {b : Bool} (h : S p = some (.lst xs)) (h2 : allBl xs = some b) (hq : Q (.bl b) S) : wpB .all [.ref p] S Q := by
  show (match S p with
      | some (.lst xs) => match allBl xs with
        | some b => Q (.bl b) S
        | none => False
      | _ => False)
  rw [h]
  dsimp only
  rw [h2]
  exact hq
end
/-! ### data as the library's data -/
section
variable {S : Sto} {n : Nat}
theorem py_int {i : Int} : toPy S n (.int i) = some (.int i) := by cases n <;> rfl
theorem py_str {i : Str} : toPy S n (.str i) = some (.str i) := by cases n <;> rfl
theorem py_bl {i : Bool} : toPy S n (.bl i) = some (.bool i) := by cases n <;> rfl
theorem py_non : toPy S n .non = some .none := by cases n <;> rfl
/-- many at once -/
inductive Pys (S : Sto) (n : Nat) : List D → List PyData → Prop
  | nil : Pys S n [] []
  | cons {d : D} {ds : List D} {x : PyData} {xs : List PyData} (h : toPy S n d = some x) (r : Pys S n ds xs) : Pys S n (d :: ds) (x :: xs)
theorem Pys.map {ds : List D} {xs : List PyData} (h : Pys S n ds xs) : mapO (toPy S n) ds = some xs := by
  induction h with
  | nil => rfl
  | cons h r ih =>
    show (match toPy S n _, mapO (toPy S n) _ with
    | some x, some xs => some (x :: xs)
    | _, _ => Option.none) = _
    rw [h, ih]
theorem py_tup {ds : List D} {xs : List PyData} (h : Pys S n ds xs) : toPy S (n + 1) (.tup ds) = some (.tuple xs) := by
  show (match mapO (toPy S n) ds with
      | some xs => some (PyData.tuple xs)
      | none => Option.none) = _
  rw [h.map]
theorem py_lst {p : Addr} {ds : List D} {xs : List PyData} (e : S p = some (.lst ds)) (h : Pys S n ds xs) : toPy S (n + 1) (.ref p) = some (.list xs) := by
  show (match S p with
      | some (.lst ds) => match mapO (toPy S n) ds with
        | some xs => some (PyData.list xs)
        | none => Option.none
      | none => Option.none) = _
  rw [e]
  dsimp only
  rw [h.map]
end
theorem ixN_0 {k : Nat} : ixN (k + 1) 0 = some 0 := by unfold ixN; rw [if_pos (by omega), if_pos (by omega)]; rfl
theorem ixN_1 {k : Nat} : ixN (k + 2) 1 = some 1 := by unfold ixN; rw [if_pos (by omega), if_pos (by omega)]; rfl
theorem ixN_2 {k : Nat} : ixN (k + 3) 2 = some 2 := by unfold ixN; rw [if_pos (by omega), if_pos (by omega)]; rfl
end L3

namespace L3
open PySem PySem.Spec PyProof.Rows L2
/-- a list that stood -/
theorem Ext.at {S S' : Sto} {p : Addr} {o : O} (h : S p = some o) (x : Ext S S') : S' p = some o := x _ _ h
/-! ### texts of the common signs -/
def OkS (x : Str) : Prop := ∀ c ∈ x.cps.toList, c < 16 ^ 8
theorem ok_of (s : String) : OkS (Str.ofString s) := by
  intro c hc
  rw [Str.ofString_eq_toList] at hc
  have hc : c ∈ s.toList.map Char.toNat := by simpa using hc
  obtain ⟨d, _, rfl⟩ := List.mem_map.mp hc
  have h1 : d.toNat < 4294967296 := UInt32.toNat_lt d.val
  have h2 : (16 : Nat) ^ 8 = 4294967296 := by decide
  omega
theorem ok_append {x y : Str} (h : OkS x) (k : OkS y) : OkS (x ++ y) := by
  intro c hc
  have e : (x ++ y).cps.toList = x.cps.toList ++ y.cps.toList := Array.toList_append ..
  rw [e, List.mem_append] at hc
  rcases hc with hc | hc
  · exact h c hc
  · exact k c hc
theorem ok_frT {a b : Int} : OkS (frT a b) := by
  unfold frT
  split
  · exact ok_of _
  · exact ok_append (ok_of _) (ok_append (ok_of _) (ok_of _))
theorem frT_len {a b : Int} (ha : a.natAbs < 2 ^ 1900) (hb : b.natAbs < 2 ^ 1900) : (frT a b).length ≤ 3843 := by
  have l1 := len_int ha
  have l2 := len_int hb
  have l3 : ("/" : Str).length = 1 := by decide
  unfold frT
  split
  · omega
  · rw [strLen_append, strLen_append]; omega
theorem tell_ok {x : Str} {n : Nat} (h : OkS x) (l : x.length ≤ n) : Tell (.str x) (10 * n + 2) 1 := (tell_str_le h).mono (by omega) (Nat.le_refl _)
def frP (x : Int × Int) : PyData := .tuple [.int x.1, .int x.2]
theorem py_frD {S : Sto} {n : Nat} {x : Int × Int} : toPy S (n + 1) (frD x) = some (frP x) := py_tup (.cons py_int (.cons py_int .nil))
/-- all of a list -/
inductive Tells (B d : Nat) : List PyData → Prop
  | nil : Tells B d []
  | cons {x : PyData} {xs : List PyData} (h : Tell x B d) (r : Tells B d xs) : Tells B d (x :: xs)
theorem Tells.all {B d : Nat} {xs : List PyData} (h : Tells B d xs) : ∀ x ∈ xs, Tell x B d := by
  induction h with
  | nil => exact fun _ h => nomatch h
  | cons h r ih =>
    intro x hx
    rcases List.mem_cons.mp hx with rfl | hx
    · exact h
    · exact ih x hx
theorem Tells.list {B d : Nat} {xs : List PyData} (h : Tells B d xs) : Tell (.list xs) (3 + xs.length * (B + 2)) (d + 1) := tell_list h.all
theorem Tells.tup {B d : Nat} {xs : List PyData} (h : Tells B d xs) : Tell (.tuple xs) (3 + xs.length * (B + 2)) (d + 1) := tell_tup h.all
theorem tell_fr {x : Int × Int} (h1 : x.1.natAbs < 2 ^ 1900) (h2 : x.2.natAbs < 2 ^ 1900) : Tell (frP x) 50000 4 := (Tells.tup (.cons (tell_int h1) (.cons (tell_int h2) .nil))).mono (Nat.le_of_ble_eq_true rfl) (by decide)
theorem tell_frT {a b : Int} (h1 : a.natAbs < 2 ^ 1900) (h2 : b.natAbs < 2 ^ 1900) : Tell (.str (frT a b)) 50000 4 := (tell_ok ok_frT (frT_len h1 h2)).mono (by decide) (by decide)
theorem tell_int4 {i : Int} (h : i.natAbs < 2 ^ 1900) : Tell (.int i) 50000 4 := (tell_int h).mono (by decide) (by decide)
theorem tell_bool4 {b : Bool} : Tell (.bool b) 50000 4 := tell_bool.mono (by decide) (by decide)
theorem Tells.big {xs : List PyData} (h : Tells 50000 4 xs) (l : xs.length ≤ 300) : Tell (.list xs) 16000000 20 := h.list.mono (by omega) (by decide)
theorem Tells.bigT {xs : List PyData} (h : Tells 50000 4 xs) (l : xs.length ≤ 300) : Tell (.tuple xs) 16000000 20 := h.tup.mono (by omega) (by decide)
theorem tell_low {a b : Int} (h1 : a.natAbs < 2 ^ 1900) (h2 : b.natAbs < 2 ^ 1900) (b0 : b ≠ 0) : Tell (frP (low a b)) 50000 4 := tell_fr (Nat.lt_of_le_of_lt (low_le1 b0) h1) (Nat.lt_of_le_of_lt (low_le2 b0) h2)
theorem p_ref {S : Sto} {Q : PoE} {p : Addr} {x : PyData} (h : toPy S 8 (.ref p) = some x) (t : Tell x 16000000 20) (hq : Q (.str x.shown) S) : wpB .repr [.ref p] S Q := b_repr_ref h t (Nat.le_refl _) (Nat.le_refl _) hq
theorem p_tup {S : Sto} {Q : PoE} {p : List D} {x : PyData} (h : toPy S 8 (.tup p) = some x) (t : Tell x 16000000 20) (hq : Q (.str x.shown) S) : wpB .repr [.tup p] S Q := b_repr_tup h t (Nat.le_refl _) (Nat.le_refl _) hq
theorem eqD_str {x y : Str} : eqD (.str x) (.str y) = decide (x = y) := rfl
theorem allBl_true : ∀ n : Nat, allBl (List.replicate n (.bl true)) = some true
  | 0 => rfl
  | n + 1 => by
    show (match allBl (List.replicate n (.bl true)) with
    | some c => some (true && c)
    | none => none) = some true
    rw [allBl_true n]
    rfl
theorem rep_snoc {α : Type} {x : α} {n : Nat} : List.replicate n x ++ [x] = List.replicate (n + 1) x := by rw [← List.replicate_append_replicate]; rfl
/-- all([e for k in range(eN)]), each of them true -/
theorem e_all_range {C : CallF} {k : Nat} {eN e : IE} {own : List Nat} {fr : Fr} {S : Sto} {Q : PoE} {E : PoX}
    (h : ∀ R : PoE, (∀ (N : Int) S1, -1000000 ≤ N → N ≤ 1000000 → (∀ (i : Nat) S2, (i : Int) < N → Ext S1 S2 → ∀ Q', (∀ S4, Ext S2 S4 → Q' (.bl true) S4) → wpE C e ((wipeD fr own).set k (some (.int i))) S2 Q' (fun _ _ => False)) → (∀ S', Ext S1 S' → Q (.bl true) S') → R (.int N) S1) → wpE C eN fr S R E) :
    wpE C (.blt .all (.cons (.comp (.nm k) (.rng1 eN) .nil e own) .nil)) fr S Q E := by
  simp only [wpE, wpEs, wpI, wpTs, bindG]
  refine h _ fun N S1 hN0 hN turn done => ?_
  refine ⟨by omega, ?_⟩
  intro p hp
  have x0 := Ext.new (o := .lst []) hp
  refine ⟨fun i m S2 => i ≤ N.toNat ∧ m = N.toNat - i ∧ S2 p = some (.lst (List.replicate i (.bl true))) ∧ Ext S1 S2, ⟨N.toNat, by omega, by omega, Sto.same, x0⟩, ?_⟩
  rintro i m S2 ⟨hi, rfl, h2, x2⟩
  unfold itG
  by_cases hlt : i < N.toNat
  · rw [if_pos hlt]
    refine turn i S2 (by omega) x2 _ fun S4 x4 => ?_
    have h4 := x4 _ _ h2
    rw [h4]
    refine ⟨by rw [List.length_replicate]; omega, N.toNat - (i + 1), by omega, by omega, rfl, by rw [Sto.same, rep_snoc], ?_⟩
    exact (ExtX.put (p := p)).ext hp (x2.trans x4)
  · rw [if_neg hlt]
    exact b_all h2 (allBl_true _) (done _ x2)
theorem e_ret {C : CallF} {sb : Nat → Nat → Bool} {e : IE} {fr : Fr} {S : Sto} {P : Po} (h : wpE C e fr S P.rt (fun x S1 => P.xc x fr S1)) : wpS C sb (.ret e) fr S P := by
  simp only [wpS]
  exact h
end L3

namespace K11
open PySem PySem.Spec PyProof.Rows L2 L3
def b_common_1 : ISs := .cons (.ret (.blt .abs (.cons (.var 0) .nil))) .nil
def b_common_2 : ISs := .cons (.par 0 1 (.var 1) (.bin .mod (.var 0) (.var 1))) .nil
def b_common : ISs := .cons (.whil (.cmp .ne (.var 1) (.cst (.int 0))) b_common_2) b_common_1
def f_common : Fn := { name := "common", ps := ["one", "other"], N := ["one", "other"], kw := [], body := b_common }
def b_fraction_1 : ISs := .cons (.ret (.tup (.cons (.bin .fdiv (.var 0) (.var 2)) (.cons (.bin .fdiv (.var 1) (.var 2)) .nil)))) .nil
def b_fraction_2 : ISs := .cons (.asg 2 (.neg (.var 2))) .nil
def b_fraction_3 : ISs := .cons (.ifs (.cmp .lt (.var 1) (.cst (.int 0))) b_fraction_2 .nil) b_fraction_1
def b_fraction_4 : ISs := .cons (.asg 2 (.call 0 (.cons (.var 0) (.cons (.var 1) .nil)))) b_fraction_3
def b_fraction_5 : ISs := .cons (.rais 1) .nil
def b_fraction : ISs := .cons (.ifs (.cmp .eq (.var 1) (.cst (.int 0))) b_fraction_5 .nil) b_fraction_4
def f_fraction : Fn := { name := "fraction", ps := ["top", "bottom"], N := ["top", "bottom", "by"], kw := [(0, ["bottom", "top"], [1, 0])], body := b_fraction }
def b_plus : ISs := .cons (.ret (.call 1 (.cons (.bin .add (.bin .mul (.idx (.var 0) (.cst (.int 0))) (.idx (.var 1) (.cst (.int 1)))) (.bin .mul (.idx (.var 1) (.cst (.int 0))) (.idx (.var 0) (.cst (.int 1))))) (.cons (.bin .mul (.idx (.var 0) (.cst (.int 1))) (.idx (.var 1) (.cst (.int 1)))) .nil)))) .nil
def f_plus : Fn := { name := "plus", ps := ["one", "other"], N := ["one", "other"], kw := [(0, ["other", "one"], [1, 0])], body := b_plus }
def b_minus : ISs := .cons (.ret (.call 1 (.cons (.bin .sub (.bin .mul (.idx (.var 0) (.cst (.int 0))) (.idx (.var 1) (.cst (.int 1)))) (.bin .mul (.idx (.var 1) (.cst (.int 0))) (.idx (.var 0) (.cst (.int 1))))) (.cons (.bin .mul (.idx (.var 0) (.cst (.int 1))) (.idx (.var 1) (.cst (.int 1)))) .nil)))) .nil
def f_minus : Fn := { name := "minus", ps := ["one", "other"], N := ["one", "other"], kw := [(0, ["one", "other"], [0, 1])], body := b_minus }
def b_times : ISs := .cons (.ret (.call 1 (.cons (.bin .mul (.idx (.var 0) (.cst (.int 0))) (.idx (.var 1) (.cst (.int 0)))) (.cons (.bin .mul (.idx (.var 0) (.cst (.int 1))) (.idx (.var 1) (.cst (.int 1)))) .nil)))) .nil
def f_times : Fn := { name := "times", ps := ["one", "other"], N := ["one", "other"], kw := [(0, ["other", "one"], [1, 0])], body := b_times }
def b_over : ISs := .cons (.ret (.call 1 (.cons (.bin .mul (.idx (.var 0) (.cst (.int 0))) (.idx (.var 1) (.cst (.int 1)))) (.cons (.bin .mul (.idx (.var 0) (.cst (.int 1))) (.idx (.var 1) (.cst (.int 0)))) .nil)))) .nil
def f_over : Fn := { name := "over", ps := ["one", "other"], N := ["one", "other"], kw := [(0, ["other", "one"], [1, 0])], body := b_over }
def b_is_less : ISs := .cons (.ret (.cmp .lt (.bin .mul (.idx (.var 0) (.cst (.int 0))) (.idx (.var 1) (.cst (.int 1)))) (.bin .mul (.idx (.var 1) (.cst (.int 0))) (.idx (.var 0) (.cst (.int 1)))))) .nil
def f_is_less : Fn := { name := "is_less", ps := ["one", "other"], N := ["one", "other"], kw := [(0, ["other", "one"], [1, 0])], body := b_is_less }
def b_fraction_text_1 : ISs := .cons (.ret (.fst (.cons (.idx (.var 0) (.cst (.int 0))) (.cons (.cst (.str "/")) (.cons (.idx (.var 0) (.cst (.int 1))) .nil))))) .nil
def b_fraction_text_2 : ISs := .cons (.ret (.blt .str (.cons (.idx (.var 0) (.cst (.int 0))) .nil))) .nil
def b_fraction_text : ISs := .cons (.ifs (.cmp .eq (.idx (.var 0) (.cst (.int 1))) (.cst (.int 1))) b_fraction_text_2 .nil) b_fraction_text_1
def f_fraction_text : Fn := { name := "fraction_text", ps := ["one"], N := ["one"], kw := [(0, ["one"], [0])], body := b_fraction_text }
def b_law_cell : ISs := .cons (.ret (.ite (.cmp .lt (.var 1) (.blt .len (.cons (.var 0) .nil))) (.idx (.var 0) (.var 1)) (.cst (.int 0)))) .nil
def f_law_cell : Fn := { name := "_law_cell", ps := ["_law_script", "_law_k"], N := ["_law_script", "_law_k"], kw := [], body := b_law_cell }
def b_law_pot : ISs := .cons (.ret (.lst (.cons (.blt .max (.cons (.cst (.int 0)) (.cons (.bin .sub (.var 0) (.bin .pow (.cst (.int 10)) (.cst (.int 18)))) .nil))) (.cons (.bin .mod (.bin .add (.bin .mul (.bin .mod (.var 0) (.cst (.int 2147483629))) (.cst (.int 48271))) (.cst (.int 7919))) (.cst (.int 2147483647))) .nil)))) .nil
def f_law_pot : Fn := { name := "_law_pot", ps := ["_law_cell_here"], N := ["_law_cell_here"], kw := [], body := b_law_pot }
def b_law_draw_1 : ISs := .cons (.ret (.bin .mod (.bin .fdiv (.bin .mod (.bin .mul (.idx (.var 0) (.cst (.int 1))) (.idx (.var 0) (.cst (.int 1)))) (.cst (.int 2147483543))) (.cst (.int 13))) (.var 1))) .nil
def b_law_draw_2 : ISs := .cons (.sub (.var 0) (.cst (.int 1)) (.bin .mod (.bin .add (.bin .mul (.idx (.var 0) (.cst (.int 1))) (.cst (.int 39373))) (.cst (.int 8191))) (.cst (.int 2147483587)))) b_law_draw_1
def b_law_draw_3 : ISs := .cons (.ret (.var 2)) .nil
def b_law_draw_4 : ISs := .cons (.asgt (.cons (.sub (.var 0) (.cst (.int 0))) (.cons (.nm 2) .nil)) (.blt .divmod (.cons (.idx (.var 0) (.cst (.int 0))) (.cons (.var 1) .nil)))) b_law_draw_3
def b_law_draw : ISs := .cons (.ifs (.cmp .gt (.idx (.var 0) (.cst (.int 0))) (.cst (.int 0))) b_law_draw_4 .nil) b_law_draw_2
def f_law_draw : Fn := { name := "_law_draw", ps := ["_law_pot_here", "_law_many"], N := ["_law_pot_here", "_law_many", "_law_digit"], kw := [], body := b_law_draw }
def b_law_low_1 : ISs := .cons (.ret (.tup (.cons (.bin .fdiv (.var 0) (.var 2)) (.cons (.bin .fdiv (.var 1) (.var 2)) .nil)))) .nil
def b_law_low_2 : ISs := .cons (.asg 2 (.neg (.var 2))) .nil
def b_law_low_3 : ISs := .cons (.ifs (.cmp .lt (.var 1) (.cst (.int 0))) b_law_low_2 .nil) b_law_low_1
def b_law_low_4 : ISs := .cons (.par 2 3 (.var 3) (.bin .mod (.var 2) (.var 3))) .nil
def b_law_low_5 : ISs := .cons (.whil (.cmp .gt (.var 3) (.cst (.int 0))) b_law_low_4) b_law_low_3
def b_law_low : ISs := .cons (.par 2 3 (.blt .abs (.cons (.var 0) .nil)) (.blt .abs (.cons (.var 1) .nil))) b_law_low_5
def f_law_low : Fn := { name := "_law_low", ps := ["_law_n", "_law_d"], N := ["_law_n", "_law_d", "_law_by", "_law_rest"], kw := [], body := b_law_low }
def b_law_number_1 : ISs := .cons (.ret (.bin .add (.bin .sub (.call 10 (.cons (.var 0) (.cons (.bin .sub (.bin .mul (.cst (.int 2)) (.bin .pow (.cst (.int 10)) (.cst (.int 12)))) (.cst (.int 1))) .nil))) (.bin .pow (.cst (.int 10)) (.cst (.int 12)))) (.cst (.int 1)))) .nil
def b_law_number_2 : ISs := .cons (.ret (.bin .sub (.call 10 (.cons (.var 0) (.cons (.cst (.int 41)) .nil))) (.cst (.int 20)))) .nil
def b_law_number : ISs := .cons (.ifs (.cmp .eq (.call 10 (.cons (.var 0) (.cons (.cst (.int 2)) .nil))) (.cst (.int 0))) b_law_number_2 .nil) b_law_number_1
def f_law_number : Fn := { name := "_law_number", ps := ["_law_pot_here"], N := ["_law_pot_here"], kw := [], body := b_law_number }
def b_law_pair_1 : ISs := .cons (.ret (.tup (.cons (.var 1) (.cons (.idx (.lst (.cons (.var 2) (.cons (.cst (.int 1)) .nil))) (.blt .int (.cons (.cmp .eq (.var 2) (.cst (.int 0))) .nil))) .nil)))) .nil
def b_law_pair : ISs := .cons (.par 1 2 (.call 12 (.cons (.var 0) .nil)) (.call 12 (.cons (.var 0) .nil))) b_law_pair_1
def f_law_pair : Fn := { name := "_law_pair", ps := ["_law_pot_here"], N := ["_law_pot_here", "_law_n", "_law_d"], kw := [], body := b_law_pair }
def b_law_text : ISs := .cons (.ret (.bin .add (.blt .str (.cons (.idx (.var 0) (.cst (.int 0))) .nil)) (.idx (.lst (.cons (.bin .add (.cst (.str "/")) (.blt .str (.cons (.idx (.var 0) (.cst (.int 1))) .nil))) (.cons (.cst (.str "")) .nil))) (.blt .int (.cons (.cmp .eq (.idx (.var 0) (.cst (.int 1))) (.cst (.int 1))) .nil))))) .nil
def f_law_text : Fn := { name := "_law_text", ps := ["_law_pair_here"], N := ["_law_pair_here"], kw := [], body := b_law_text }
def b_law_is_refused_1 : ISs := .cons (.ret (.var 3)) .nil
def b_law_is_refused_2 : ISs := .cons (.exp (.callv 0 (.cons (.var 1) (.cons (.var 2) .nil)))) .nil
def b_law_is_refused_3 : ISs := .cons (.asg 3 (.cst (.bl true))) .nil
def b_law_is_refused_4 : ISs := .cons (.tryo 1 b_law_is_refused_2 b_law_is_refused_3) b_law_is_refused_1
def b_law_is_refused : ISs := .cons (.asg 3 (.cst (.bl false))) b_law_is_refused_4
def f_law_is_refused : Fn := { name := "_law_is_refused", ps := ["_law_deed", "_law_here", "_law_behind"], N := ["_law_deed", "_law_here", "_law_behind", "_law_refused"], kw := [], body := b_law_is_refused }
def b_law_sums_right_1 : ISs := .cons (.ret (.cmp .eq (.blt .repr (.cons (.lst (.cons (.call 5 (.cons (.var 0) (.cons (.var 1) .nil))) (.cons (.callk 5 ["other", "one"] [1, 0] .nil (.cons (.var 1) (.cons (.var 0) .nil))) .nil))) .nil)) (.blt .repr (.cons (.lst (.cons (.var 2) (.cons (.var 2) .nil))) .nil)))) .nil
def b_law_sums_right_2 : ISs := .cons (.asg 2 (.call 11 (.cons (.bin .mul (.var 4) (.var 7)) (.cons (.bin .mul (.var 5) (.var 6)) .nil)))) b_law_sums_right_1
def b_law_sums_right_3 : ISs := .cons (.ret (.call 15 (.cons (.fnv 5) (.cons (.var 0) (.cons (.var 1) .nil))))) .nil
def b_law_sums_right_4 : ISs := .cons (.ifs (.cmp .eq (.var 6) (.cst (.int 0))) b_law_sums_right_3 .nil) b_law_sums_right_2
def b_law_sums_right_5 : ISs := .cons (.ret (.cst (.bl false))) .nil
def b_law_sums_right_6 : ISs := .cons (.ifs (.disj (.cons (.cmp .ne (.blt .repr (.cons (.var 3) .nil)) (.blt .repr (.cons (.var 2) .nil))) (.cons (.cmp .ne (.blt .repr (.cons (.call 3 (.cons (.idx (.var 3) (.cst (.int 0))) (.cons (.var 1) .nil))) .nil)) (.blt .repr (.cons (.var 0) .nil))) .nil))) b_law_sums_right_5 .nil) b_law_sums_right_4
def b_law_sums_right_7 : ISs := .cons (.asg 3 (.bin .add (.var 3) (.lst (.cons (.call 7 (.cons (.var 0) .nil)) (.cons (.callk 7 ["one"] [0] .nil (.cons (.var 1) .nil)) .nil))))) b_law_sums_right_6
def b_law_sums_right_8 : ISs := .cons (.asg 3 (.bin .add (.var 3) (.lst (.cons (.call 6 (.cons (.var 0) (.cons (.var 1) .nil))) (.cons (.callk 6 ["other", "one"] [1, 0] .nil (.cons (.var 0) (.cons (.var 1) .nil))) .nil))))) b_law_sums_right_7
def b_law_sums_right_9 : ISs := .cons (.ret (.cst (.bl false))) .nil
def b_law_sums_right_10 : ISs := .cons (.ifs (.cmp .ne (.blt .repr (.cons (.lst (.cons (.callk 2 ["other", "one"] [1, 0] .nil (.cons (.var 1) (.cons (.var 0) .nil))) (.cons (.call 3 (.cons (.var 0) (.cons (.var 1) .nil))) (.cons (.call 4 (.cons (.var 0) (.cons (.var 1) .nil))) .nil)))) .nil)) (.blt .repr (.cons (.var 3) .nil))) b_law_sums_right_9 .nil) b_law_sums_right_8
def b_law_sums_right_11 : ISs := .cons (.asg 3 (.lst (.cons (.call 2 (.cons (.var 0) (.cons (.var 1) .nil))) (.cons (.callk 3 ["one", "other"] [0, 1] .nil (.cons (.var 0) (.cons (.var 1) .nil))) (.cons (.callk 4 ["other", "one"] [1, 0] .nil (.cons (.var 1) (.cons (.var 0) .nil))) .nil))))) b_law_sums_right_10
def b_law_sums_right_12 : ISs := .cons (.asg 2 (.bin .add (.var 2) (.lst (.cons (.cmp .lt (.bin .mul (.var 4) (.var 7)) (.bin .mul (.var 6) (.var 5))) (.cons (.cmp .lt (.bin .mul (.var 6) (.var 5)) (.bin .mul (.var 4) (.var 7))) (.cons (.call 14 (.cons (.var 0) .nil)) (.cons (.call 14 (.cons (.var 1) .nil)) .nil))))))) b_law_sums_right_11
def b_law_sums_right_13 : ISs := .cons (.asg 2 (.lst (.cons (.call 11 (.cons (.bin .add (.bin .mul (.var 4) (.var 7)) (.bin .mul (.var 6) (.var 5))) (.cons (.bin .mul (.var 5) (.var 7)) .nil))) (.cons (.call 11 (.cons (.bin .sub (.bin .mul (.var 4) (.var 7)) (.bin .mul (.var 6) (.var 5))) (.cons (.bin .mul (.var 5) (.var 7)) .nil))) (.cons (.call 11 (.cons (.bin .mul (.var 4) (.var 6)) (.cons (.bin .mul (.var 5) (.var 7)) .nil))) .nil))))) b_law_sums_right_12
def b_law_sums_right_14 : ISs := .cons (.asgt (.cons (.nm 6) (.cons (.nm 7) .nil)) (.var 1)) b_law_sums_right_13
def b_law_sums_right : ISs := .cons (.asgt (.cons (.nm 4) (.cons (.nm 5) .nil)) (.var 0)) b_law_sums_right_14
def f_law_sums_right : Fn := { name := "_law_sums_right", ps := ["_law_here", "_law_beside"], N := ["_law_here", "_law_beside", "_law_due", "_law_found", "_law_a", "_law_b", "_law_c", "_law_d"], kw := [], body := b_law_sums_right }
def b_law_right_1 : ISs := .cons (.ret (.conj (.cons (.call 16 (.cons (.var 4) (.cons (.var 5) .nil))) (.cons (.call 16 (.cons (.var 5) (.cons (.var 4) .nil))) (.cons (.call 16 (.cons (.var 4) (.cons (.var 4) .nil))) .nil))))) .nil
def b_law_right_2 : ISs := .cons (.ret (.cst (.bl false))) .nil
def b_law_right_3 : ISs := .cons (.ifs (.disj (.cons (.cmp .ne (.blt .repr (.cons (.var 1) .nil)) (.blt .repr (.cons (.lst (.cons (.var 4) (.cons (.var 5) .nil))) .nil))) (.cons (.nt (.call 15 (.cons (.fnv 1) (.cons (.idx (.var 2) (.cst (.int 0))) (.cons (.cst (.int 0)) .nil))))) .nil))) b_law_right_2 .nil) b_law_right_1
def b_law_right_4 : ISs := .cons (.asg 1 (.lst (.cons (.call 1 (.cons (.idx (.var 2) (.cst (.int 0))) (.cons (.idx (.var 2) (.cst (.int 1))) .nil))) (.cons (.callk 1 ["bottom", "top"] [1, 0] .nil (.cons (.idx (.var 3) (.cst (.int 1))) (.cons (.idx (.var 3) (.cst (.int 0))) .nil))) .nil)))) b_law_right_3
def b_law_right_5 : ISs := .cons (.par 4 5 (.call 11 (.cons (.idx (.var 2) (.cst (.int 0))) (.cons (.idx (.var 2) (.cst (.int 1))) .nil))) (.call 11 (.cons (.idx (.var 3) (.cst (.int 0))) (.cons (.idx (.var 3) (.cst (.int 1))) .nil)))) b_law_right_4
def b_law_right : ISs := .cons (.par 2 3 (.call 13 (.cons (.var 0) .nil)) (.call 13 (.cons (.var 0) .nil))) b_law_right_5
def f_law_right : Fn := { name := "_law_right", ps := ["_law_pot_here"], N := ["_law_pot_here", "_law_told", "_law_first", "_law_second", "_law_here", "_law_beside"], kw := [], body := b_law_right }
def b_law : ISs := .cons (.ret (.blt .all (.cons (.comp (.nm 1) (.rng1 (.blt .max (.cons (.cst (.int 1)) (.cons (.blt .min (.cons (.blt .len (.cons (.var 0) .nil)) (.cons (.cst (.int 12)) .nil))) .nil)))) .nil (.call 17 (.cons (.call 9 (.cons (.call 8 (.cons (.var 0) (.cons (.var 1) .nil))) .nil)) .nil)) [1]) .nil))) .nil
def f_law : Fn := { name := "law", ps := ["_law_script"], N := ["_law_script", "_law_k"], kw := [], body := b_law }
def tbl : List (List Bool) := [[true, false], [true, true]]
def pd : PD := { fns := [f_common, f_fraction, f_plus, f_minus, f_times, f_over, f_is_less, f_fraction_text, f_law_cell, f_law_pot, f_law_draw, f_law_low, f_law_number, f_law_pair, f_law_text, f_law_is_refused, f_law_sums_right, f_law_right, f_law], cls := ["LoafError", "NoFraction"], sub := fun i j => (tbl.getD i [true, false]).getD j false, blts := ["abs", "all", "divmod", "int", "len", "max", "min", "range", "repr", "str"] }
def top (i : Nat) : Stmt := PySem.Challenge.pw_loafshares_k11_fractions_told.main.body.getD i (.Pass ⟨0, 0, 0, 0⟩)
theorem c_common {n : Nat} {ds : List D} {S : Sto} {Q : PoE} {E : PoX} (hl : ds.length = 2) (h : wpSs (wpCall pd n) pd.sub b_common (startD 2 ds) S { nx := fun _ S' => Q .non S', rt := Q, xc := fun x _ S' => E x S' }) : wpCall pd (n + 1) 0 ds S Q E := ⟨hl, h⟩
theorem c_fraction {n : Nat} {ds : List D} {S : Sto} {Q : PoE} {E : PoX} (hl : ds.length = 2) (h : wpSs (wpCall pd n) pd.sub b_fraction (startD 3 ds) S { nx := fun _ S' => Q .non S', rt := Q, xc := fun x _ S' => E x S' }) : wpCall pd (n + 1) 1 ds S Q E := ⟨hl, h⟩
theorem c_plus {n : Nat} {ds : List D} {S : Sto} {Q : PoE} {E : PoX} (hl : ds.length = 2) (h : wpSs (wpCall pd n) pd.sub b_plus (startD 2 ds) S { nx := fun _ S' => Q .non S', rt := Q, xc := fun x _ S' => E x S' }) : wpCall pd (n + 1) 2 ds S Q E := ⟨hl, h⟩
theorem c_minus {n : Nat} {ds : List D} {S : Sto} {Q : PoE} {E : PoX} (hl : ds.length = 2) (h : wpSs (wpCall pd n) pd.sub b_minus (startD 2 ds) S { nx := fun _ S' => Q .non S', rt := Q, xc := fun x _ S' => E x S' }) : wpCall pd (n + 1) 3 ds S Q E := ⟨hl, h⟩
theorem c_times {n : Nat} {ds : List D} {S : Sto} {Q : PoE} {E : PoX} (hl : ds.length = 2) (h : wpSs (wpCall pd n) pd.sub b_times (startD 2 ds) S { nx := fun _ S' => Q .non S', rt := Q, xc := fun x _ S' => E x S' }) : wpCall pd (n + 1) 4 ds S Q E := ⟨hl, h⟩
theorem c_over {n : Nat} {ds : List D} {S : Sto} {Q : PoE} {E : PoX} (hl : ds.length = 2) (h : wpSs (wpCall pd n) pd.sub b_over (startD 2 ds) S { nx := fun _ S' => Q .non S', rt := Q, xc := fun x _ S' => E x S' }) : wpCall pd (n + 1) 5 ds S Q E := ⟨hl, h⟩
theorem c_is_less {n : Nat} {ds : List D} {S : Sto} {Q : PoE} {E : PoX} (hl : ds.length = 2) (h : wpSs (wpCall pd n) pd.sub b_is_less (startD 2 ds) S { nx := fun _ S' => Q .non S', rt := Q, xc := fun x _ S' => E x S' }) : wpCall pd (n + 1) 6 ds S Q E := ⟨hl, h⟩
theorem c_fraction_text {n : Nat} {ds : List D} {S : Sto} {Q : PoE} {E : PoX} (hl : ds.length = 1) (h : wpSs (wpCall pd n) pd.sub b_fraction_text (startD 1 ds) S { nx := fun _ S' => Q .non S', rt := Q, xc := fun x _ S' => E x S' }) : wpCall pd (n + 1) 7 ds S Q E := ⟨hl, h⟩
theorem c_law_cell {n : Nat} {ds : List D} {S : Sto} {Q : PoE} {E : PoX} (hl : ds.length = 2) (h : wpSs (wpCall pd n) pd.sub b_law_cell (startD 2 ds) S { nx := fun _ S' => Q .non S', rt := Q, xc := fun x _ S' => E x S' }) : wpCall pd (n + 1) 8 ds S Q E := ⟨hl, h⟩
theorem c_law_pot {n : Nat} {ds : List D} {S : Sto} {Q : PoE} {E : PoX} (hl : ds.length = 1) (h : wpSs (wpCall pd n) pd.sub b_law_pot (startD 1 ds) S { nx := fun _ S' => Q .non S', rt := Q, xc := fun x _ S' => E x S' }) : wpCall pd (n + 1) 9 ds S Q E := ⟨hl, h⟩
theorem c_law_draw {n : Nat} {ds : List D} {S : Sto} {Q : PoE} {E : PoX} (hl : ds.length = 2) (h : wpSs (wpCall pd n) pd.sub b_law_draw (startD 3 ds) S { nx := fun _ S' => Q .non S', rt := Q, xc := fun x _ S' => E x S' }) : wpCall pd (n + 1) 10 ds S Q E := ⟨hl, h⟩
theorem c_law_low {n : Nat} {ds : List D} {S : Sto} {Q : PoE} {E : PoX} (hl : ds.length = 2) (h : wpSs (wpCall pd n) pd.sub b_law_low (startD 4 ds) S { nx := fun _ S' => Q .non S', rt := Q, xc := fun x _ S' => E x S' }) : wpCall pd (n + 1) 11 ds S Q E := ⟨hl, h⟩
theorem c_law_number {n : Nat} {ds : List D} {S : Sto} {Q : PoE} {E : PoX} (hl : ds.length = 1) (h : wpSs (wpCall pd n) pd.sub b_law_number (startD 1 ds) S { nx := fun _ S' => Q .non S', rt := Q, xc := fun x _ S' => E x S' }) : wpCall pd (n + 1) 12 ds S Q E := ⟨hl, h⟩
theorem c_law_pair {n : Nat} {ds : List D} {S : Sto} {Q : PoE} {E : PoX} (hl : ds.length = 1) (h : wpSs (wpCall pd n) pd.sub b_law_pair (startD 3 ds) S { nx := fun _ S' => Q .non S', rt := Q, xc := fun x _ S' => E x S' }) : wpCall pd (n + 1) 13 ds S Q E := ⟨hl, h⟩
theorem c_law_text {n : Nat} {ds : List D} {S : Sto} {Q : PoE} {E : PoX} (hl : ds.length = 1) (h : wpSs (wpCall pd n) pd.sub b_law_text (startD 1 ds) S { nx := fun _ S' => Q .non S', rt := Q, xc := fun x _ S' => E x S' }) : wpCall pd (n + 1) 14 ds S Q E := ⟨hl, h⟩
theorem c_law_is_refused {n : Nat} {ds : List D} {S : Sto} {Q : PoE} {E : PoX} (hl : ds.length = 3) (h : wpSs (wpCall pd n) pd.sub b_law_is_refused (startD 4 ds) S { nx := fun _ S' => Q .non S', rt := Q, xc := fun x _ S' => E x S' }) : wpCall pd (n + 1) 15 ds S Q E := ⟨hl, h⟩
theorem c_law_sums_right {n : Nat} {ds : List D} {S : Sto} {Q : PoE} {E : PoX} (hl : ds.length = 2) (h : wpSs (wpCall pd n) pd.sub b_law_sums_right (startD 8 ds) S { nx := fun _ S' => Q .non S', rt := Q, xc := fun x _ S' => E x S' }) : wpCall pd (n + 1) 16 ds S Q E := ⟨hl, h⟩
theorem c_law_right {n : Nat} {ds : List D} {S : Sto} {Q : PoE} {E : PoX} (hl : ds.length = 1) (h : wpSs (wpCall pd n) pd.sub b_law_right (startD 6 ds) S { nx := fun _ S' => Q .non S', rt := Q, xc := fun x _ S' => E x S' }) : wpCall pd (n + 1) 17 ds S Q E := ⟨hl, h⟩
theorem c_law {n : Nat} {ds : List D} {S : Sto} {Q : PoE} {E : PoX} (hl : ds.length = 1) (h : wpSs (wpCall pd n) pd.sub b_law (startD 2 ds) S { nx := fun _ S' => Q .non S', rt := Q, xc := fun x _ S' => E x S' }) : wpCall pd (n + 1) 18 ds S Q E := ⟨hl, h⟩
theorem sc_common : FnScope f_common.N f_common.ps (defScope (top 4)) := ⟨rfl, rfl, rfl, by decide +kernel, rfl, by decide +kernel, by decide +kernel⟩
theorem ck_common : chkSs pd ⟨f_common.N, defScope (top 4), fun _ => true, true⟩ f_common.body (defBody (top 4)) = true := by decide +kernel
theorem sc_fraction : FnScope f_fraction.N f_fraction.ps (defScope (top 5)) := ⟨rfl, rfl, rfl, by decide +kernel, rfl, by decide +kernel, by decide +kernel⟩
theorem ck_fraction : chkSs pd ⟨f_fraction.N, defScope (top 5), fun _ => true, true⟩ f_fraction.body (defBody (top 5)) = true := by decide +kernel
theorem sc_plus : FnScope f_plus.N f_plus.ps (defScope (top 6)) := ⟨rfl, rfl, rfl, by decide +kernel, rfl, by decide +kernel, by decide +kernel⟩
theorem ck_plus : chkSs pd ⟨f_plus.N, defScope (top 6), fun _ => true, true⟩ f_plus.body (defBody (top 6)) = true := by decide +kernel
theorem sc_minus : FnScope f_minus.N f_minus.ps (defScope (top 7)) := ⟨rfl, rfl, rfl, by decide +kernel, rfl, by decide +kernel, by decide +kernel⟩
theorem ck_minus : chkSs pd ⟨f_minus.N, defScope (top 7), fun _ => true, true⟩ f_minus.body (defBody (top 7)) = true := by decide +kernel
theorem sc_times : FnScope f_times.N f_times.ps (defScope (top 8)) := ⟨rfl, rfl, rfl, by decide +kernel, rfl, by decide +kernel, by decide +kernel⟩
theorem ck_times : chkSs pd ⟨f_times.N, defScope (top 8), fun _ => true, true⟩ f_times.body (defBody (top 8)) = true := by decide +kernel
theorem sc_over : FnScope f_over.N f_over.ps (defScope (top 9)) := ⟨rfl, rfl, rfl, by decide +kernel, rfl, by decide +kernel, by decide +kernel⟩
theorem ck_over : chkSs pd ⟨f_over.N, defScope (top 9), fun _ => true, true⟩ f_over.body (defBody (top 9)) = true := by decide +kernel
theorem sc_is_less : FnScope f_is_less.N f_is_less.ps (defScope (top 10)) := ⟨rfl, rfl, rfl, by decide +kernel, rfl, by decide +kernel, by decide +kernel⟩
theorem ck_is_less : chkSs pd ⟨f_is_less.N, defScope (top 10), fun _ => true, true⟩ f_is_less.body (defBody (top 10)) = true := by decide +kernel
theorem sc_fraction_text : FnScope f_fraction_text.N f_fraction_text.ps (defScope (top 11)) := ⟨rfl, rfl, rfl, by decide +kernel, rfl, by decide +kernel, by decide +kernel⟩
theorem ck_fraction_text : chkSs pd ⟨f_fraction_text.N, defScope (top 11), fun _ => true, true⟩ f_fraction_text.body (defBody (top 11)) = true := by decide +kernel
theorem sc_law_cell : FnScope f_law_cell.N f_law_cell.ps (defScope (top 13)) := ⟨rfl, rfl, rfl, by decide +kernel, rfl, by decide +kernel, by decide +kernel⟩
theorem ck_law_cell : chkSs pd ⟨f_law_cell.N, defScope (top 13), fun _ => true, true⟩ f_law_cell.body (defBody (top 13)) = true := by decide +kernel
theorem sc_law_pot : FnScope f_law_pot.N f_law_pot.ps (defScope (top 14)) := ⟨rfl, rfl, rfl, by decide +kernel, rfl, by decide +kernel, by decide +kernel⟩
theorem ck_law_pot : chkSs pd ⟨f_law_pot.N, defScope (top 14), fun _ => true, true⟩ f_law_pot.body (defBody (top 14)) = true := by decide +kernel
theorem sc_law_draw : FnScope f_law_draw.N f_law_draw.ps (defScope (top 15)) := ⟨rfl, rfl, rfl, by decide +kernel, rfl, by decide +kernel, by decide +kernel⟩
theorem ck_law_draw : chkSs pd ⟨f_law_draw.N, defScope (top 15), fun _ => true, true⟩ f_law_draw.body (defBody (top 15)) = true := by decide +kernel
theorem sc_law_low : FnScope f_law_low.N f_law_low.ps (defScope (top 16)) := ⟨rfl, rfl, rfl, by decide +kernel, rfl, by decide +kernel, by decide +kernel⟩
theorem ck_law_low : chkSs pd ⟨f_law_low.N, defScope (top 16), fun _ => true, true⟩ f_law_low.body (defBody (top 16)) = true := by decide +kernel
theorem sc_law_number : FnScope f_law_number.N f_law_number.ps (defScope (top 17)) := ⟨rfl, rfl, rfl, by decide +kernel, rfl, by decide +kernel, by decide +kernel⟩
theorem ck_law_number : chkSs pd ⟨f_law_number.N, defScope (top 17), fun _ => true, true⟩ f_law_number.body (defBody (top 17)) = true := by decide +kernel
theorem sc_law_pair : FnScope f_law_pair.N f_law_pair.ps (defScope (top 18)) := ⟨rfl, rfl, rfl, by decide +kernel, rfl, by decide +kernel, by decide +kernel⟩
theorem ck_law_pair : chkSs pd ⟨f_law_pair.N, defScope (top 18), fun _ => true, true⟩ f_law_pair.body (defBody (top 18)) = true := by decide +kernel
theorem sc_law_text : FnScope f_law_text.N f_law_text.ps (defScope (top 19)) := ⟨rfl, rfl, rfl, by decide +kernel, rfl, by decide +kernel, by decide +kernel⟩
theorem ck_law_text : chkSs pd ⟨f_law_text.N, defScope (top 19), fun _ => true, true⟩ f_law_text.body (defBody (top 19)) = true := by decide +kernel
theorem sc_law_is_refused : FnScope f_law_is_refused.N f_law_is_refused.ps (defScope (top 20)) := ⟨rfl, rfl, rfl, by decide +kernel, rfl, by decide +kernel, by decide +kernel⟩
theorem ck_law_is_refused : chkSs pd ⟨f_law_is_refused.N, defScope (top 20), fun _ => true, true⟩ f_law_is_refused.body (defBody (top 20)) = true := by decide +kernel
theorem sc_law_sums_right : FnScope f_law_sums_right.N f_law_sums_right.ps (defScope (top 21)) := ⟨rfl, rfl, rfl, by decide +kernel, rfl, by decide +kernel, by decide +kernel⟩
theorem ck_law_sums_right : chkSs pd ⟨f_law_sums_right.N, defScope (top 21), fun _ => true, true⟩ f_law_sums_right.body (defBody (top 21)) = true := by decide +kernel
theorem sc_law_right : FnScope f_law_right.N f_law_right.ps (defScope (top 22)) := ⟨rfl, rfl, rfl, by decide +kernel, rfl, by decide +kernel, by decide +kernel⟩
theorem ck_law_right : chkSs pd ⟨f_law_right.N, defScope (top 22), fun _ => true, true⟩ f_law_right.body (defBody (top 22)) = true := by decide +kernel
theorem sc_law : FnScope f_law.N f_law.ps (defScope (top 23)) := ⟨rfl, rfl, rfl, by decide +kernel, rfl, by decide +kernel, by decide +kernel⟩
theorem ck_law : chkSs pd ⟨f_law.N, defScope (top 23), fun _ => true, true⟩ f_law.body (defBody (top 23)) = true := by decide +kernel
end K11


namespace K11
open PySem PySem.Spec PyProof.Rows L2 L3
theorem facts {K : PySem.W.Frag} {h : Heap} {mg : Str → Option Value} (X : K.In h) (Gn : h.Ns mainGlobals mg)
    {f0 f1 f2 f3 f4 f5 f6 f7 f8 f9 f10 f11 f12 f13 f14 f15 f16 f17 f18 c0 c1 : Addr}
    {od0 an0 od1 an1 od2 an2 od3 an3 od4 an4 od5 an5 od6 an6 od7 an7 od8 an8 od9 an9 od10 an10 od11 an11 od12 an12 od13 an13 od14 an14 od15 an15 od16 an16 od17 an17 od18 an18 : Option Addr} {sl0 sl1 sl2 sl3 sl4 sl5 sl6 sl7 sl8 sl9 sl10 sl11 sl12 sl13 sl14 sl15 sl16 sl17 sl18 : Array (Option Value)} {oc0 kV0 dc0 pm0 cd0 ct0 oc1 kV1 dc1 pm1 cd1 ct1 oc2 kV2 dc2 pm2 cd2 ct2 oc3 kV3 dc3 pm3 cd3 ct3 oc4 kV4 dc4 pm4 cd4 ct4 oc5 kV5 dc5 pm5 cd5 ct5 oc6 kV6 dc6 pm6 cd6 ct6 oc7 kV7 dc7 pm7 cd7 ct7 oc8 kV8 dc8 pm8 cd8 ct8 oc9 kV9 dc9 pm9 cd9 ct9 oc10 kV10 dc10 pm10 cd10 ct10 oc11 kV11 dc11 pm11 cd11 ct11 oc12 kV12 dc12 pm12 cd12 ct12 oc13 kV13 dc13 pm13 cd13 ct13 oc14 kV14 dc14 pm14 cd14 ct14 oc15 kV15 dc15 pm15 cd15 ct15 oc16 kV16 dc16 pm16 cd16 ct16 oc17 kV17 dc17 pm17 cd17 ct17 oc18 kV18 dc18 pm18 cd18 ct18 : Value}
    (a0 : PySem.W.nsIn K mainGlobals "common" = some (some (.ref f0)))
    (l0 : K.lookup f0 = some ⟨oc0, od0, .func (PySem.W.fnOf "common" "common" (defArgs (top 4)) (defBody (top 4)) (defScope (top 4)) .none kV0 dc0 pm0 an0 cd0 ct0), sl0⟩)
    (d0 : PySem.W.codeIn K cd0 "common" = true)
    (k0 : PySem.W.keepIn K (.ref f0) = true)
    (a1 : PySem.W.nsIn K mainGlobals "fraction" = some (some (.ref f1)))
    (l1 : K.lookup f1 = some ⟨oc1, od1, .func (PySem.W.fnOf "fraction" "fraction" (defArgs (top 5)) (defBody (top 5)) (defScope (top 5)) .none kV1 dc1 pm1 an1 cd1 ct1), sl1⟩)
    (d1 : PySem.W.codeIn K cd1 "fraction" = true)
    (k1 : PySem.W.keepIn K (.ref f1) = true)
    (a2 : PySem.W.nsIn K mainGlobals "plus" = some (some (.ref f2)))
    (l2 : K.lookup f2 = some ⟨oc2, od2, .func (PySem.W.fnOf "plus" "plus" (defArgs (top 6)) (defBody (top 6)) (defScope (top 6)) .none kV2 dc2 pm2 an2 cd2 ct2), sl2⟩)
    (d2 : PySem.W.codeIn K cd2 "plus" = true)
    (k2 : PySem.W.keepIn K (.ref f2) = true)
    (a3 : PySem.W.nsIn K mainGlobals "minus" = some (some (.ref f3)))
    (l3 : K.lookup f3 = some ⟨oc3, od3, .func (PySem.W.fnOf "minus" "minus" (defArgs (top 7)) (defBody (top 7)) (defScope (top 7)) .none kV3 dc3 pm3 an3 cd3 ct3), sl3⟩)
    (d3 : PySem.W.codeIn K cd3 "minus" = true)
    (k3 : PySem.W.keepIn K (.ref f3) = true)
    (a4 : PySem.W.nsIn K mainGlobals "times" = some (some (.ref f4)))
    (l4 : K.lookup f4 = some ⟨oc4, od4, .func (PySem.W.fnOf "times" "times" (defArgs (top 8)) (defBody (top 8)) (defScope (top 8)) .none kV4 dc4 pm4 an4 cd4 ct4), sl4⟩)
    (d4 : PySem.W.codeIn K cd4 "times" = true)
    (k4 : PySem.W.keepIn K (.ref f4) = true)
    (a5 : PySem.W.nsIn K mainGlobals "over" = some (some (.ref f5)))
    (l5 : K.lookup f5 = some ⟨oc5, od5, .func (PySem.W.fnOf "over" "over" (defArgs (top 9)) (defBody (top 9)) (defScope (top 9)) .none kV5 dc5 pm5 an5 cd5 ct5), sl5⟩)
    (d5 : PySem.W.codeIn K cd5 "over" = true)
    (k5 : PySem.W.keepIn K (.ref f5) = true)
    (a6 : PySem.W.nsIn K mainGlobals "is_less" = some (some (.ref f6)))
    (l6 : K.lookup f6 = some ⟨oc6, od6, .func (PySem.W.fnOf "is_less" "is_less" (defArgs (top 10)) (defBody (top 10)) (defScope (top 10)) .none kV6 dc6 pm6 an6 cd6 ct6), sl6⟩)
    (d6 : PySem.W.codeIn K cd6 "is_less" = true)
    (k6 : PySem.W.keepIn K (.ref f6) = true)
    (a7 : PySem.W.nsIn K mainGlobals "fraction_text" = some (some (.ref f7)))
    (l7 : K.lookup f7 = some ⟨oc7, od7, .func (PySem.W.fnOf "fraction_text" "fraction_text" (defArgs (top 11)) (defBody (top 11)) (defScope (top 11)) .none kV7 dc7 pm7 an7 cd7 ct7), sl7⟩)
    (d7 : PySem.W.codeIn K cd7 "fraction_text" = true)
    (k7 : PySem.W.keepIn K (.ref f7) = true)
    (a8 : PySem.W.nsIn K mainGlobals "_law_cell" = some (some (.ref f8)))
    (l8 : K.lookup f8 = some ⟨oc8, od8, .func (PySem.W.fnOf "_law_cell" "_law_cell" (defArgs (top 13)) (defBody (top 13)) (defScope (top 13)) .none kV8 dc8 pm8 an8 cd8 ct8), sl8⟩)
    (d8 : PySem.W.codeIn K cd8 "_law_cell" = true)
    (k8 : PySem.W.keepIn K (.ref f8) = true)
    (a9 : PySem.W.nsIn K mainGlobals "_law_pot" = some (some (.ref f9)))
    (l9 : K.lookup f9 = some ⟨oc9, od9, .func (PySem.W.fnOf "_law_pot" "_law_pot" (defArgs (top 14)) (defBody (top 14)) (defScope (top 14)) .none kV9 dc9 pm9 an9 cd9 ct9), sl9⟩)
    (d9 : PySem.W.codeIn K cd9 "_law_pot" = true)
    (k9 : PySem.W.keepIn K (.ref f9) = true)
    (a10 : PySem.W.nsIn K mainGlobals "_law_draw" = some (some (.ref f10)))
    (l10 : K.lookup f10 = some ⟨oc10, od10, .func (PySem.W.fnOf "_law_draw" "_law_draw" (defArgs (top 15)) (defBody (top 15)) (defScope (top 15)) .none kV10 dc10 pm10 an10 cd10 ct10), sl10⟩)
    (d10 : PySem.W.codeIn K cd10 "_law_draw" = true)
    (k10 : PySem.W.keepIn K (.ref f10) = true)
    (a11 : PySem.W.nsIn K mainGlobals "_law_low" = some (some (.ref f11)))
    (l11 : K.lookup f11 = some ⟨oc11, od11, .func (PySem.W.fnOf "_law_low" "_law_low" (defArgs (top 16)) (defBody (top 16)) (defScope (top 16)) .none kV11 dc11 pm11 an11 cd11 ct11), sl11⟩)
    (d11 : PySem.W.codeIn K cd11 "_law_low" = true)
    (k11 : PySem.W.keepIn K (.ref f11) = true)
    (a12 : PySem.W.nsIn K mainGlobals "_law_number" = some (some (.ref f12)))
    (l12 : K.lookup f12 = some ⟨oc12, od12, .func (PySem.W.fnOf "_law_number" "_law_number" (defArgs (top 17)) (defBody (top 17)) (defScope (top 17)) .none kV12 dc12 pm12 an12 cd12 ct12), sl12⟩)
    (d12 : PySem.W.codeIn K cd12 "_law_number" = true)
    (k12 : PySem.W.keepIn K (.ref f12) = true)
    (a13 : PySem.W.nsIn K mainGlobals "_law_pair" = some (some (.ref f13)))
    (l13 : K.lookup f13 = some ⟨oc13, od13, .func (PySem.W.fnOf "_law_pair" "_law_pair" (defArgs (top 18)) (defBody (top 18)) (defScope (top 18)) .none kV13 dc13 pm13 an13 cd13 ct13), sl13⟩)
    (d13 : PySem.W.codeIn K cd13 "_law_pair" = true)
    (k13 : PySem.W.keepIn K (.ref f13) = true)
    (a14 : PySem.W.nsIn K mainGlobals "_law_text" = some (some (.ref f14)))
    (l14 : K.lookup f14 = some ⟨oc14, od14, .func (PySem.W.fnOf "_law_text" "_law_text" (defArgs (top 19)) (defBody (top 19)) (defScope (top 19)) .none kV14 dc14 pm14 an14 cd14 ct14), sl14⟩)
    (d14 : PySem.W.codeIn K cd14 "_law_text" = true)
    (k14 : PySem.W.keepIn K (.ref f14) = true)
    (a15 : PySem.W.nsIn K mainGlobals "_law_is_refused" = some (some (.ref f15)))
    (l15 : K.lookup f15 = some ⟨oc15, od15, .func (PySem.W.fnOf "_law_is_refused" "_law_is_refused" (defArgs (top 20)) (defBody (top 20)) (defScope (top 20)) .none kV15 dc15 pm15 an15 cd15 ct15), sl15⟩)
    (d15 : PySem.W.codeIn K cd15 "_law_is_refused" = true)
    (k15 : PySem.W.keepIn K (.ref f15) = true)
    (a16 : PySem.W.nsIn K mainGlobals "_law_sums_right" = some (some (.ref f16)))
    (l16 : K.lookup f16 = some ⟨oc16, od16, .func (PySem.W.fnOf "_law_sums_right" "_law_sums_right" (defArgs (top 21)) (defBody (top 21)) (defScope (top 21)) .none kV16 dc16 pm16 an16 cd16 ct16), sl16⟩)
    (d16 : PySem.W.codeIn K cd16 "_law_sums_right" = true)
    (k16 : PySem.W.keepIn K (.ref f16) = true)
    (a17 : PySem.W.nsIn K mainGlobals "_law_right" = some (some (.ref f17)))
    (l17 : K.lookup f17 = some ⟨oc17, od17, .func (PySem.W.fnOf "_law_right" "_law_right" (defArgs (top 22)) (defBody (top 22)) (defScope (top 22)) .none kV17 dc17 pm17 an17 cd17 ct17), sl17⟩)
    (d17 : PySem.W.codeIn K cd17 "_law_right" = true)
    (k17 : PySem.W.keepIn K (.ref f17) = true)
    (a18 : PySem.W.nsIn K mainGlobals "law" = some (some (.ref f18)))
    (l18 : K.lookup f18 = some ⟨oc18, od18, .func (PySem.W.fnOf "law" "law" (defArgs (top 23)) (defBody (top 23)) (defScope (top 23)) .none kV18 dc18 pm18 an18 cd18 ct18), sl18⟩)
    (d18 : PySem.W.codeIn K cd18 "law" = true)
    (k18 : PySem.W.keepIn K (.ref f18) = true)
    (ca0 : PySem.W.nsIn K mainGlobals "LoafError" = some (some (.ref c0)))
    (ck0 : PySem.W.keepIn K (.ref c0) = true)
    (cx0 : PySem.W.excIn K c0 [.type "ValueError", .type "Exception", .type "BaseException", .type "object"] "ValueError.__new__" = true)
    (cb0 : PySem.W.subIn K (.ref c0) (.type "BaseException") = some true)
    (ct0x : PySem.W.typeIn K (.ref c0) = some (.type "type"))
    (ci0 : PySem.W.isClsIn K c0 = true)
    (ca1 : PySem.W.nsIn K mainGlobals "NoFraction" = some (some (.ref c1)))
    (ck1 : PySem.W.keepIn K (.ref c1) = true)
    (cx1 : PySem.W.excIn K c1 [.type "ValueError", .type "Exception", .type "BaseException", .type "object"] "ValueError.__new__" = true)
    (cb1 : PySem.W.subIn K (.ref c1) (.type "BaseException") = some true)
    (ct1x : PySem.W.typeIn K (.ref c1) = some (.type "type"))
    (ci1 : PySem.W.isClsIn K c1 = true)
    (e0_0 : PySem.W.subIn K (.ref c0) (.ref c0) = some true)
    (e0_1 : PySem.W.subIn K (.ref c0) (.ref c1) = some false)
    (e1_0 : PySem.W.subIn K (.ref c1) (.ref c0) = some true)
    (e1_1 : PySem.W.subIn K (.ref c1) (.ref c1) = some true)
    (z_abs : PySem.W.nsIn K mainGlobals "abs" = some none)
    (z_all : PySem.W.nsIn K mainGlobals "all" = some none)
    (z_divmod : PySem.W.nsIn K mainGlobals "divmod" = some none)
    (z_int : PySem.W.nsIn K mainGlobals "int" = some none)
    (z_len : PySem.W.nsIn K mainGlobals "len" = some none)
    (z_max : PySem.W.nsIn K mainGlobals "max" = some none)
    (z_min : PySem.W.nsIn K mainGlobals "min" = some none)
    (z_range : PySem.W.nsIn K mainGlobals "range" = some none)
    (z_repr : PySem.W.nsIn K mainGlobals "repr" = some none)
    (z_str : PySem.W.nsIn K mainGlobals "str" = some none) :
    Top K mg ⟨K, fun k => [f0, f1, f2, f3, f4, f5, f6, f7, f8, f9, f10, f11, f12, f13, f14, f15, f16, f17, f18].getD k f0, fun k => [c0, c1].getD k c0⟩ pd ∧ ∃ fd, DefAt K ⟨K, fun k => [f0, f1, f2, f3, f4, f5, f6, f7, f8, f9, f10, f11, f12, f13, f14, f15, f16, f17, f18].getD k f0, fun k => [c0, c1].getD k c0⟩ pd 18 f_law fd := by
  have D0 : ∀ fa ca, fa 0 = f0 → DefAt K ⟨K, fa, ca⟩ pd 0 f_common _ := fun fa ca e => ⟨⟨_, _, _, _, _, _, _, _, _, _, _, _, _, _, _, rfl, (by rw [show (Gd.mk K fa ca).fa 0 = f0 from e]; exact l0), d0, sc_common, ck_common⟩, .all (fun us hl => match us, hl with | [_, _], _ => rfl), List.forall_mem_nil _⟩
  have D1 : ∀ fa ca, fa 1 = f1 → DefAt K ⟨K, fa, ca⟩ pd 1 f_fraction _ := fun fa ca e => ⟨⟨_, _, _, _, _, _, _, _, _, _, _, _, _, _, _, rfl, (by rw [show (Gd.mk K fa ca).fa 1 = f1 from e]; exact l1), d1, sc_fraction, ck_fraction⟩, .all (fun us hl => match us, hl with | [_, _], _ => rfl), List.forall_mem_cons.mpr ⟨fun s us ws _ h1 h2 => (match us, ws, h1, h2 with | [], [_, _], _, _ => .of_eq rfl), List.forall_mem_nil _⟩⟩
  have D2 : ∀ fa ca, fa 2 = f2 → DefAt K ⟨K, fa, ca⟩ pd 2 f_plus _ := fun fa ca e => ⟨⟨_, _, _, _, _, _, _, _, _, _, _, _, _, _, _, rfl, (by rw [show (Gd.mk K fa ca).fa 2 = f2 from e]; exact l2), d2, sc_plus, ck_plus⟩, .all (fun us hl => match us, hl with | [_, _], _ => rfl), List.forall_mem_cons.mpr ⟨fun s us ws _ h1 h2 => (match us, ws, h1, h2 with | [], [_, _], _, _ => .of_eq rfl), List.forall_mem_nil _⟩⟩
  have D3 : ∀ fa ca, fa 3 = f3 → DefAt K ⟨K, fa, ca⟩ pd 3 f_minus _ := fun fa ca e => ⟨⟨_, _, _, _, _, _, _, _, _, _, _, _, _, _, _, rfl, (by rw [show (Gd.mk K fa ca).fa 3 = f3 from e]; exact l3), d3, sc_minus, ck_minus⟩, .all (fun us hl => match us, hl with | [_, _], _ => rfl), List.forall_mem_cons.mpr ⟨fun s us ws _ h1 h2 => (match us, ws, h1, h2 with | [], [_, _], _, _ => .of_eq rfl), List.forall_mem_nil _⟩⟩
  have D4 : ∀ fa ca, fa 4 = f4 → DefAt K ⟨K, fa, ca⟩ pd 4 f_times _ := fun fa ca e => ⟨⟨_, _, _, _, _, _, _, _, _, _, _, _, _, _, _, rfl, (by rw [show (Gd.mk K fa ca).fa 4 = f4 from e]; exact l4), d4, sc_times, ck_times⟩, .all (fun us hl => match us, hl with | [_, _], _ => rfl), List.forall_mem_cons.mpr ⟨fun s us ws _ h1 h2 => (match us, ws, h1, h2 with | [], [_, _], _, _ => .of_eq rfl), List.forall_mem_nil _⟩⟩
  have D5 : ∀ fa ca, fa 5 = f5 → DefAt K ⟨K, fa, ca⟩ pd 5 f_over _ := fun fa ca e => ⟨⟨_, _, _, _, _, _, _, _, _, _, _, _, _, _, _, rfl, (by rw [show (Gd.mk K fa ca).fa 5 = f5 from e]; exact l5), d5, sc_over, ck_over⟩, .all (fun us hl => match us, hl with | [_, _], _ => rfl), List.forall_mem_cons.mpr ⟨fun s us ws _ h1 h2 => (match us, ws, h1, h2 with | [], [_, _], _, _ => .of_eq rfl), List.forall_mem_nil _⟩⟩
  have D6 : ∀ fa ca, fa 6 = f6 → DefAt K ⟨K, fa, ca⟩ pd 6 f_is_less _ := fun fa ca e => ⟨⟨_, _, _, _, _, _, _, _, _, _, _, _, _, _, _, rfl, (by rw [show (Gd.mk K fa ca).fa 6 = f6 from e]; exact l6), d6, sc_is_less, ck_is_less⟩, .all (fun us hl => match us, hl with | [_, _], _ => rfl), List.forall_mem_cons.mpr ⟨fun s us ws _ h1 h2 => (match us, ws, h1, h2 with | [], [_, _], _, _ => .of_eq rfl), List.forall_mem_nil _⟩⟩
  have D7 : ∀ fa ca, fa 7 = f7 → DefAt K ⟨K, fa, ca⟩ pd 7 f_fraction_text _ := fun fa ca e => ⟨⟨_, _, _, _, _, _, _, _, _, _, _, _, _, _, _, rfl, (by rw [show (Gd.mk K fa ca).fa 7 = f7 from e]; exact l7), d7, sc_fraction_text, ck_fraction_text⟩, .all (fun us hl => match us, hl with | [_], _ => rfl), List.forall_mem_cons.mpr ⟨fun s us ws _ h1 h2 => (match us, ws, h1, h2 with | [], [_], _, _ => .of_eq rfl), List.forall_mem_nil _⟩⟩
  have D8 : ∀ fa ca, fa 8 = f8 → DefAt K ⟨K, fa, ca⟩ pd 8 f_law_cell _ := fun fa ca e => ⟨⟨_, _, _, _, _, _, _, _, _, _, _, _, _, _, _, rfl, (by rw [show (Gd.mk K fa ca).fa 8 = f8 from e]; exact l8), d8, sc_law_cell, ck_law_cell⟩, .all (fun us hl => match us, hl with | [_, _], _ => rfl), List.forall_mem_nil _⟩
  have D9 : ∀ fa ca, fa 9 = f9 → DefAt K ⟨K, fa, ca⟩ pd 9 f_law_pot _ := fun fa ca e => ⟨⟨_, _, _, _, _, _, _, _, _, _, _, _, _, _, _, rfl, (by rw [show (Gd.mk K fa ca).fa 9 = f9 from e]; exact l9), d9, sc_law_pot, ck_law_pot⟩, .all (fun us hl => match us, hl with | [_], _ => rfl), List.forall_mem_nil _⟩
  have D10 : ∀ fa ca, fa 10 = f10 → DefAt K ⟨K, fa, ca⟩ pd 10 f_law_draw _ := fun fa ca e => ⟨⟨_, _, _, _, _, _, _, _, _, _, _, _, _, _, _, rfl, (by rw [show (Gd.mk K fa ca).fa 10 = f10 from e]; exact l10), d10, sc_law_draw, ck_law_draw⟩, .all (fun us hl => match us, hl with | [_, _], _ => rfl), List.forall_mem_nil _⟩
  have D11 : ∀ fa ca, fa 11 = f11 → DefAt K ⟨K, fa, ca⟩ pd 11 f_law_low _ := fun fa ca e => ⟨⟨_, _, _, _, _, _, _, _, _, _, _, _, _, _, _, rfl, (by rw [show (Gd.mk K fa ca).fa 11 = f11 from e]; exact l11), d11, sc_law_low, ck_law_low⟩, .all (fun us hl => match us, hl with | [_, _], _ => rfl), List.forall_mem_nil _⟩
  have D12 : ∀ fa ca, fa 12 = f12 → DefAt K ⟨K, fa, ca⟩ pd 12 f_law_number _ := fun fa ca e => ⟨⟨_, _, _, _, _, _, _, _, _, _, _, _, _, _, _, rfl, (by rw [show (Gd.mk K fa ca).fa 12 = f12 from e]; exact l12), d12, sc_law_number, ck_law_number⟩, .all (fun us hl => match us, hl with | [_], _ => rfl), List.forall_mem_nil _⟩
  have D13 : ∀ fa ca, fa 13 = f13 → DefAt K ⟨K, fa, ca⟩ pd 13 f_law_pair _ := fun fa ca e => ⟨⟨_, _, _, _, _, _, _, _, _, _, _, _, _, _, _, rfl, (by rw [show (Gd.mk K fa ca).fa 13 = f13 from e]; exact l13), d13, sc_law_pair, ck_law_pair⟩, .all (fun us hl => match us, hl with | [_], _ => rfl), List.forall_mem_nil _⟩
  have D14 : ∀ fa ca, fa 14 = f14 → DefAt K ⟨K, fa, ca⟩ pd 14 f_law_text _ := fun fa ca e => ⟨⟨_, _, _, _, _, _, _, _, _, _, _, _, _, _, _, rfl, (by rw [show (Gd.mk K fa ca).fa 14 = f14 from e]; exact l14), d14, sc_law_text, ck_law_text⟩, .all (fun us hl => match us, hl with | [_], _ => rfl), List.forall_mem_nil _⟩
  have D15 : ∀ fa ca, fa 15 = f15 → DefAt K ⟨K, fa, ca⟩ pd 15 f_law_is_refused _ := fun fa ca e => ⟨⟨_, _, _, _, _, _, _, _, _, _, _, _, _, _, _, rfl, (by rw [show (Gd.mk K fa ca).fa 15 = f15 from e]; exact l15), d15, sc_law_is_refused, ck_law_is_refused⟩, .all (fun us hl => match us, hl with | [_, _, _], _ => rfl), List.forall_mem_nil _⟩
  have D16 : ∀ fa ca, fa 16 = f16 → DefAt K ⟨K, fa, ca⟩ pd 16 f_law_sums_right _ := fun fa ca e => ⟨⟨_, _, _, _, _, _, _, _, _, _, _, _, _, _, _, rfl, (by rw [show (Gd.mk K fa ca).fa 16 = f16 from e]; exact l16), d16, sc_law_sums_right, ck_law_sums_right⟩, .all (fun us hl => match us, hl with | [_, _], _ => rfl), List.forall_mem_nil _⟩
  have D17 : ∀ fa ca, fa 17 = f17 → DefAt K ⟨K, fa, ca⟩ pd 17 f_law_right _ := fun fa ca e => ⟨⟨_, _, _, _, _, _, _, _, _, _, _, _, _, _, _, rfl, (by rw [show (Gd.mk K fa ca).fa 17 = f17 from e]; exact l17), d17, sc_law_right, ck_law_right⟩, .all (fun us hl => match us, hl with | [_], _ => rfl), List.forall_mem_nil _⟩
  have D18 : ∀ fa ca, fa 18 = f18 → DefAt K ⟨K, fa, ca⟩ pd 18 f_law _ := fun fa ca e => ⟨⟨_, _, _, _, _, _, _, _, _, _, _, _, _, _, _, rfl, (by rw [show (Gd.mk K fa ca).fa 18 = f18 from e]; exact l18), d18, sc_law, ck_law⟩, .all (fun us hl => match us, hl with | [_], _ => rfl), List.forall_mem_nil _⟩
  refine ⟨⟨rfl, ?_, ?_, ?_, ?_, ?_, ?_, ?_, ?_, ?_, ?_⟩, _, D18 _ _ rfl⟩
  · exact all_at (Q := fun k f => ∃ fd, DefAt K _ pd k f fd) (fs := pd.fns) ⟨⟨_, D0 _ _ rfl⟩, ⟨_, D1 _ _ rfl⟩, ⟨_, D2 _ _ rfl⟩, ⟨_, D3 _ _ rfl⟩, ⟨_, D4 _ _ rfl⟩, ⟨_, D5 _ _ rfl⟩, ⟨_, D6 _ _ rfl⟩, ⟨_, D7 _ _ rfl⟩, ⟨_, D8 _ _ rfl⟩, ⟨_, D9 _ _ rfl⟩, ⟨_, D10 _ _ rfl⟩, ⟨_, D11 _ _ rfl⟩, ⟨_, D12 _ _ rfl⟩, ⟨_, D13 _ _ rfl⟩, ⟨_, D14 _ _ rfl⟩, ⟨_, D15 _ _ rfl⟩, ⟨_, D16 _ _ rfl⟩, ⟨_, D17 _ _ rfl⟩, ⟨_, D18 _ _ rfl⟩, trivial⟩
  · exact getD_all (Q := fun a => PySem.W.keepIn K (.ref a) = true) ⟨k0, k1, k2, k3, k4, k5, k6, k7, k8, k9, k10, k11, k12, k13, k14, k15, k16, k17, k18, trivial⟩ k0
  · exact all_at (Q := fun k (f : Fn) => mg f.name = some (.ref ([f0, f1, f2, f3, f4, f5, f6, f7, f8, f9, f10, f11, f12, f13, f14, f15, f16, f17, f18].getD k f0))) (fs := pd.fns) ⟨PySem.W.mg_of X Gn a0, PySem.W.mg_of X Gn a1, PySem.W.mg_of X Gn a2, PySem.W.mg_of X Gn a3, PySem.W.mg_of X Gn a4, PySem.W.mg_of X Gn a5, PySem.W.mg_of X Gn a6, PySem.W.mg_of X Gn a7, PySem.W.mg_of X Gn a8, PySem.W.mg_of X Gn a9, PySem.W.mg_of X Gn a10, PySem.W.mg_of X Gn a11, PySem.W.mg_of X Gn a12, PySem.W.mg_of X Gn a13, PySem.W.mg_of X Gn a14, PySem.W.mg_of X Gn a15, PySem.W.mg_of X Gn a16, PySem.W.mg_of X Gn a17, PySem.W.mg_of X Gn a18, trivial⟩
  · exact List.forall_mem_cons.mpr ⟨PySem.W.mg_none_of X Gn z_abs, List.forall_mem_cons.mpr ⟨PySem.W.mg_none_of X Gn z_all, List.forall_mem_cons.mpr ⟨PySem.W.mg_none_of X Gn z_divmod, List.forall_mem_cons.mpr ⟨PySem.W.mg_none_of X Gn z_int, List.forall_mem_cons.mpr ⟨PySem.W.mg_none_of X Gn z_len, List.forall_mem_cons.mpr ⟨PySem.W.mg_none_of X Gn z_max, List.forall_mem_cons.mpr ⟨PySem.W.mg_none_of X Gn z_min, List.forall_mem_cons.mpr ⟨PySem.W.mg_none_of X Gn z_range, List.forall_mem_cons.mpr ⟨PySem.W.mg_none_of X Gn z_repr, List.forall_mem_cons.mpr ⟨PySem.W.mg_none_of X Gn z_str, List.forall_mem_nil _⟩⟩⟩⟩⟩⟩⟩⟩⟩⟩
  · exact all_at (Q := fun k (x : Str) => mg x = some (.ref ([c0, c1].getD k c0))) (fs := pd.cls) ⟨PySem.W.mg_of X Gn ca0, PySem.W.mg_of X Gn ca1, trivial⟩
  · exact all_at (Q := fun k (x : Str) => PySem.W.keepIn K (.ref ([c0, c1].getD k c0)) = true) (fs := pd.cls) ⟨ck0, ck1, trivial⟩
  · exact all_at (Q := fun k (x : Str) => ∃ bmB B newId initId, ExcBaseFacts B newId initId bmB ∧ PySem.W.excIn K ([c0, c1].getD k c0) bmB newId = true) (fs := pd.cls) ⟨⟨_, _, _, _, PySem.F.excBase_ValueError, cx0⟩, ⟨_, _, _, _, PySem.F.excBase_ValueError, cx1⟩, trivial⟩
  · exact all_at (Q := fun k (x : Str) => PySem.W.subIn K (.ref ([c0, c1].getD k c0)) (.type "BaseException") = some true) (fs := pd.cls) ⟨cb0, cb1, trivial⟩
  · exact all_at (Q := fun k (x : Str) => PySem.W.typeIn K (.ref ([c0, c1].getD k c0)) = some (.type "type")) (fs := pd.cls) ⟨ct0x, ct1x, trivial⟩
  · intro i
    exact getD_two (Q := fun a r => ∀ j (y : Str), pd.cls[j]? = some y → PySem.W.exmOne K (.ref a) (.ref ([c0, c1].getD j c0)) = some ((r : List Bool).getD j false)) (xs := [c0, c1]) (ys := tbl) (i := i) rfl ⟨all_at (Q := fun j (x : Str) => PySem.W.exmOne K (.ref c0) (.ref ([c0, c1].getD j c0)) = some (([true, false] : List Bool).getD j false)) (fs := pd.cls) ⟨exm_two cb0 ci0 ct0x e0_0, exm_two cb1 ci1 ct1x e0_1, trivial⟩, all_at (Q := fun j (x : Str) => PySem.W.exmOne K (.ref c1) (.ref ([c0, c1].getD j c0)) = some (([true, true] : List Bool).getD j false)) (fs := pd.cls) ⟨exm_two cb0 ci0 ct0x e1_0, exm_two cb1 ci1 ct1x e1_1, trivial⟩, trivial⟩ (all_at (Q := fun j (x : Str) => PySem.W.exmOne K (.ref c0) (.ref ([c0, c1].getD j c0)) = some (([true, false] : List Bool).getD j false)) (fs := pd.cls) ⟨exm_two cb0 ci0 ct0x e0_0, exm_two cb1 ci1 ct1x e0_1, trivial⟩)
end K11


namespace K11
open L3 PySem
local macro_rules | `(tactic| walk_at "l3 wxs") => `(tactic| simp only [r_var, r_cst, r_fnv, r_bin, r_neg, r_nt, r_cmp, r_conj, r_disj, r_ite, r_tup, r_lst, r_idx, r_call, r_callk, r_callv, r_blt, r_fst, r_conj1, r_conj2, r_disj1, r_disj2, r_ts0, r_ts1, r_asg, r_asgc, r_par, r_asgt, r_exp, r_ret, r_retn, r_ifs, r_rais, r_pass, r_whil, r_fors, r_sub, r_tryo, r_anm, r_asub, r_as0, r_as1, onB_t, onB_f, onB_n, onI_i, onV_s, onF_f, wpEs, wpF, wpI, b_len_tup, b_len_scr, b_len_str, b_abs, b_int, b_int_bl, b_max, b_min, b_divmod, b_str, b_repr_int, wpCmp, ixN_0, ixN_1, ixN_2, Sto.same, Sto.set_set, bin_add, bin_cat, bin_sub, bin_mul, bin_mod, bin_fdiv, bin_pow, idx_tup, idx_scr, atI_0, atI_1, atI_2, atI_3, atI_4, atI_5, atI_6, atI_7, atI_8, atI_bit, atI_nat, bindG, bindGs, scalD, eqD, ITs.len, IEs.len, pick, startD, List.map_cons, List.map_nil, List.length_cons, List.length_nil, List.getElem?_cons_zero, List.getElem?_cons_succ, List.set_cons_zero, List.set_cons_succ, List.replicate, List.cons_append, List.nil_append, List.filterMap_cons, List.filterMap_nil, Nat.reduceAdd, Nat.reduceSub, Nat.reduceLeDiff, Nat.reduceEqDiff, Int.reduceToNat, Int.reducePow, Int.reduceMul, Int.reduceSub, Int.reduceAdd, Int.reduceNeg, Int.reduceLE, Int.reduceLT, true_and, and_true, decide_true, decide_false, Bool.not_true, Bool.not_false, reduceCtorEq, ne_eq, not_false_eq_true])
local macro_rules | `(tactic| walk_at "l3 wst") => `(tactic| (refine stepS rfl ?_; walk_at "l3 wxs"))
local macro_rules | `(tactic| walk_at "l3 wnl") => `(tactic| (refine nilS rfl ?_; (try walk_at "l3 wxs")))
local macro_rules | `(tactic| walk_at "l3 wch") => `(tactic| repeat (first | exact Ext.refl | assumption | (apply Ext.trans; assumption)))
local macro_rules | `(tactic| walk_at "l3 wpys") => `(tactic| repeat (first | exact Pys.nil | apply Pys.cons | exact py_int | exact py_str | exact py_bl | exact py_non | exact py_frD | apply py_tup | (apply py_lst; assumption)))
local macro_rules | `(tactic| walk_at "l3 wtls") => `(tactic| ((repeat (first | exact Tells.nil | apply Tells.cons | (apply tell_fr <;> first | assumption | fail) | (apply tell_low <;> first | assumption | fail) | (apply tell_frT <;> first | assumption | fail) | exact tell_bool4 | (apply tell_int4; assumption)))))
local macro_rules | `(tactic| walk_at "l3 wrp") => `(tactic| (refine' p_ref ?h1 ?h2 ?h3; (case h1 => walk_at "l3 wpys"); (case h2 => first | (refine Tells.big ?_ (Nat.le_of_ble_eq_true rfl); walk_at "l3 wtls") | (refine Tells.bigT ?_ (Nat.le_of_ble_eq_true rfl); walk_at "l3 wtls")); (try walk_at "l3 wxs")))
local macro_rules | `(tactic| walk_at "l3 wrpt") => `(tactic| (refine' p_tup ?h1 ?h2 ?h3; (case h1 => walk_at "l3 wpys"); (case h2 => first | (refine Tells.big ?_ (Nat.le_of_ble_eq_true rfl); walk_at "l3 wtls") | (refine Tells.bigT ?_ (Nat.le_of_ble_eq_true rfl); walk_at "l3 wtls")); (try walk_at "l3 wxs")))
section
variable {n : Nat} {S : Sto} {Q : PoE} {E : PoX}
theorem w_common {a b : Int} (h : Q (.int (Int.gcd a b)) S) : wpCall pd (n+1) 0 [.int a, .int b] S Q E := by
  refine c_common rfl ?_
  walk_at "l3 wst"
  refine ⟨fun m fr S' => ∃ x y : Int, fr = [some (.int x), some (.int y)] ∧ S' = S ∧ Int.gcd x y = Int.gcd a b ∧ m = y.natAbs, ⟨_, a, b, rfl, rfl, rfl, rfl⟩, ?_⟩
  rintro m fr S' ⟨x, y, rfl, rfl, hg, rfl⟩
  walk_at "l3 wxs"
  (((try walk_at "l3 wxs"); refine onB_d (fun hy => ?_) (fun hy => ?_) <;> (try walk_at "l3 wxs")))
  · subst hy
    walk_at "l3 wst"
    rw [Int.gcd_zero_right] at hg
    rw [hg]; exact h
  · walk_at "l3 wst"
    refine ⟨hy, ?_⟩
    refine nilS rfl ?_
    exact ⟨_, fmod_lt _ _ hy, _, _, rfl, rfl, by rw [gcd_fmod, hg], rfl⟩
theorem w_fraction0 {a : Int} (h : E ⟨.cls 1, []⟩ S) : wpCall pd (n+2) 1 [.int a, .int 0] S Q E := by
  refine c_fraction rfl ?_
  walk_at "l3 wst"
  walk_at "l3 wst"
  exact h
theorem w_fraction {a b : Int} (hb : b ≠ 0) (hs : b.natAbs < 2 ^ 8900) (h : Q (frD (low a b)) S) : wpCall pd (n+2) 1 [.int a, .int b] S Q E := by
  refine c_fraction rfl ?_
  walk_at "l3 wst"
  (((try walk_at "l3 wxs"); refine onB_d (fun h0 => ?_) (fun h0 => ?_) <;> (try walk_at "l3 wxs")))
  · exact absurd h0 hb
  walk_at "l3 wnl"
  walk_at "l3 wst"
  refine w_common ?_
  have hl := Nat.lt_of_le_of_lt (lowG_le (n := a) hb) hs
  have hn := lowG_ne (n := a) hb
  unfold frD low at h
  unfold lowG at h hl hn
  walk_at "l3 wst"
  (((try walk_at "l3 wxs"); refine onB_d (fun h1 => ?_) (fun h1 => ?_) <;> (try walk_at "l3 wxs")))
  · rw [if_pos h1] at h hl hn
    walk_at "l3 wst"
    walk_at "l3 wnl"
    walk_at "l3 wst"
    exact ⟨⟨hn, hl⟩, ⟨hn, hl⟩, h⟩
  · rw [if_neg h1] at h hl hn
    walk_at "l3 wnl"
    walk_at "l3 wst"
    exact ⟨⟨hn, hl⟩, ⟨hn, hl⟩, h⟩
variable {a b c d : Int} (ha : a.natAbs < 2 ^ 400) (hb : b.natAbs < 2 ^ 400) (hc : c.natAbs < 2 ^ 400) (hd : d.natAbs < 2 ^ 400)
theorem lt4 {i : Int} (h : i.natAbs < 2 ^ 400) : i.natAbs < 2 ^ 4000 := pow_lt h (by decide)
include ha hb hc hd
theorem w_plus (b0 : b ≠ 0) (d0 : d ≠ 0) (h : Q (frD (low (a * d + c * b) (b * d))) S) : wpCall pd (n+3) 2 [.tup [.int a, .int b], .tup [.int c, .int d]] S Q E := by
  refine c_plus rfl ?_
  walk_at "l3 wst"
  refine ⟨mul_ok (lt4 ha) (lt4 hd), mul_ok (lt4 hc) (lt4 hb), mul_ok (lt4 hb) (lt4 hd), ?_⟩
  exact w_fraction (Int.mul_ne_zero b0 d0) (mul_lt hb hd (by decide)) h
theorem w_minus (b0 : b ≠ 0) (d0 : d ≠ 0) (h : Q (frD (low (a * d - c * b) (b * d))) S) : wpCall pd (n+3) 3 [.tup [.int a, .int b], .tup [.int c, .int d]] S Q E := by
  refine c_minus rfl ?_
  walk_at "l3 wst"
  refine ⟨mul_ok (lt4 ha) (lt4 hd), mul_ok (lt4 hc) (lt4 hb), mul_ok (lt4 hb) (lt4 hd), ?_⟩
  exact w_fraction (Int.mul_ne_zero b0 d0) (mul_lt hb hd (by decide)) h
theorem w_times (b0 : b ≠ 0) (d0 : d ≠ 0) (h : Q (frD (low (a * c) (b * d))) S) : wpCall pd (n+3) 4 [.tup [.int a, .int b], .tup [.int c, .int d]] S Q E := by
  refine c_times rfl ?_
  walk_at "l3 wst"
  refine ⟨mul_ok (lt4 ha) (lt4 hc), mul_ok (lt4 hb) (lt4 hd), ?_⟩
  exact w_fraction (Int.mul_ne_zero b0 d0) (mul_lt hb hd (by decide)) h
theorem w_over (b0 : b ≠ 0) (c0 : c ≠ 0) (h : Q (frD (low (a * d) (b * c))) S) : wpCall pd (n+3) 5 [.tup [.int a, .int b], .tup [.int c, .int d]] S Q E := by
  refine c_over rfl ?_
  walk_at "l3 wst"
  refine ⟨mul_ok (lt4 ha) (lt4 hd), mul_ok (lt4 hb) (lt4 hc), ?_⟩
  exact w_fraction (Int.mul_ne_zero b0 c0) (mul_lt hb hc (by decide)) h
theorem w_is_less (h : Q (.bl (decide (a * d < c * b))) S) : wpCall pd (n+1) 6 [.tup [.int a, .int b], .tup [.int c, .int d]] S Q E := by
  refine c_is_less rfl ?_
  walk_at "l3 wst"
  exact ⟨mul_ok (lt4 ha) (lt4 hd), mul_ok (lt4 hc) (lt4 hb), h⟩
omit hc hd
theorem w_over0 (b0 : b ≠ 0) (hd : d.natAbs < 2 ^ 400) (h : E ⟨.cls 1, []⟩ S) : wpCall pd (n+3) 5 [.tup [.int a, .int b], .tup [.int 0, .int d]] S Q E := by
  refine c_over rfl ?_
  walk_at "l3 wst"
  refine ⟨mul_ok (lt4 ha) (lt4 hd), mul_ok (lt4 hb) (by decide), ?_⟩
  rw [Int.mul_zero]
  exact w_fraction0 h
theorem w_fraction_text (h : Q (.str (frT a b)) S) : wpCall pd (n+1) 7 [.tup [.int a, .int b]] S Q E := by
  refine c_fraction_text rfl ?_
  unfold frT at h
  walk_at "l3 wst"
  (((try walk_at "l3 wxs"); refine onB_d (fun h1 => ?_) (fun h1 => ?_) <;> (try walk_at "l3 wxs")))
  · rw [if_pos h1] at h
    walk_at "l3 wst"
    exact ⟨pow_lt ha (by decide), h⟩
  · rw [if_neg h1] at h
    walk_at "l3 wnl"
    walk_at "l3 wst"
    rw [Str.empty_append, Str.append_assoc]
    have l1 := len_int (pow_lt ha (show 400 ≤ 1900 by decide))
    have l2 := len_int (pow_lt hb (show 400 ≤ 1900 by decide))
    have l3 : ("/" : Str).length = 1 := by decide
    have l4 : Str.empty.length = 0 := rfl
    simp only [strLen_append, Line]
    exact ⟨pow_lt ha (by decide), by omega, by omega, by omega, pow_lt hb (by decide), by omega, h⟩
end
section
variable {n : Nat} {S : Sto} {Q : PoE} {E : PoX}
theorem w_cell {ns : List Int} {i : Nat} (h : ∀ x : Int, Q (.int x) S) : wpCall pd (n+1) 8 [.scr (ns.map D.int), .int i] S Q E := by
  refine c_law_cell rfl ?_
  walk_at "l3 wst"
  (((try walk_at "l3 wxs"); refine onB_d (fun h1 => ?_) (fun h1 => ?_) <;> (try walk_at "l3 wxs")))
  · rw [List.getElem?_map]
    rw [List.length_map] at h1
    rw [List.getElem?_eq_getElem (by omega)]
    exact h _
  · exact h 0
/-- the draws' two numbers -/
abbrev pot (x y : Int) : O := .lst [.int x, .int y]
def Pot (y : Int) : Prop := 0 ≤ y ∧ y < 2147483648
theorem fmod_pot {a m : Int} (h : 0 < m) (h2 : m ≤ 2147483648) : Pot (a.fmod m) := ⟨Int.fmod_nonneg_of_pos a h, Int.lt_of_lt_of_le (Int.fmod_lt_of_pos a h) h2⟩
theorem w_pot {c : Int} (h : ∀ p, S p = none → ∀ x y, 0 ≤ x → Pot y → Q (.ref p) (S.set p (pot x y))) : wpCall pd (n+1) 9 [.int c] S Q E := by
  refine c_law_pot rfl ?_
  walk_at "l3 wst"
  have p1 := fmod_pot (a := c) (m := 2147483629) (by decide) (by decide)
  refine ⟨by decide, by decide, mul_ok (by have := p1.1; have := p1.2; omega) (by decide), by decide, fun p hp => h p hp _ _ (by omega) (fmod_pot (by decide) (by decide))⟩
theorem w_draw {p : Addr} {x y m : Int} (hp : S p = some (pot x y)) (hy : Pot y) (hm : 0 < m) (hm2 : m < 2 ^ 64) (h : ∀ r x' y', 0 ≤ r → r < m → Pot y' → Q (.int r) (S.set p (pot x' y'))) : wpCall pd (n+1) 10 [.ref p, .int m] S Q E := by
  refine c_law_draw rfl ?_
  ((refine stepS rfl ?_; (simp only [r_var, r_cst, r_fnv, r_bin, r_neg, r_nt, r_cmp, r_conj, r_disj, r_ite, r_tup, r_lst, r_idx, r_call, r_callk, r_callv, r_blt, r_fst, r_conj1, r_conj2, r_disj1, r_disj2, r_ts0, r_ts1, r_asg, r_asgc, r_par, r_asgt, r_exp, r_ret, r_retn, r_ifs, r_rais, r_pass, r_whil, r_fors, r_sub, r_tryo, r_anm, r_asub, r_as0, r_as1, onB_t, onB_f, onB_n, onI_i, onV_s, onF_f, wpEs, wpF, wpI, b_len_tup, b_len_scr, b_len_str, b_abs, b_int, b_int_bl, b_max, b_min, b_divmod, b_str, b_repr_int, wpCmp, ixN_0, ixN_1, ixN_2, Sto.same, Sto.set_set, bin_add, bin_cat, bin_sub, bin_mul, bin_mod, bin_fdiv, bin_pow, idx_tup, idx_scr, atI_0, atI_1, atI_2, atI_3, atI_4, atI_5, atI_6, atI_7, atI_8, atI_bit, atI_nat, bindG, bindGs, scalD, eqD, ITs.len, IEs.len, pick, startD, List.map_cons, List.map_nil, List.length_cons, List.length_nil, List.getElem?_cons_zero, List.getElem?_cons_succ, List.set_cons_zero, List.set_cons_succ, List.replicate, List.cons_append, List.nil_append, List.filterMap_cons, List.filterMap_nil, Nat.reduceAdd, Nat.reduceSub, Nat.reduceLeDiff, Nat.reduceEqDiff, Int.reduceToNat, Int.reducePow, Int.reduceMul, Int.reduceSub, Int.reduceAdd, Int.reduceNeg, Int.reduceLE, Int.reduceLT, true_and, and_true, decide_true, decide_false, Bool.not_true, Bool.not_false, reduceCtorEq, ne_eq, not_false_eq_true, idx_ref hp])))
  (((try walk_at "l3 wxs"); refine onB_d (fun h1 => ?_) (fun h1 => ?_) <;> (try walk_at "l3 wxs")))
  · ((refine stepS rfl ?_; (simp only [r_var, r_cst, r_fnv, r_bin, r_neg, r_nt, r_cmp, r_conj, r_disj, r_ite, r_tup, r_lst, r_idx, r_call, r_callk, r_callv, r_blt, r_fst, r_conj1, r_conj2, r_disj1, r_disj2, r_ts0, r_ts1, r_asg, r_asgc, r_par, r_asgt, r_exp, r_ret, r_retn, r_ifs, r_rais, r_pass, r_whil, r_fors, r_sub, r_tryo, r_anm, r_asub, r_as0, r_as1, onB_t, onB_f, onB_n, onI_i, onV_s, onF_f, wpEs, wpF, wpI, b_len_tup, b_len_scr, b_len_str, b_abs, b_int, b_int_bl, b_max, b_min, b_divmod, b_str, b_repr_int, wpCmp, ixN_0, ixN_1, ixN_2, Sto.same, Sto.set_set, bin_add, bin_cat, bin_sub, bin_mul, bin_mod, bin_fdiv, bin_pow, idx_tup, idx_scr, atI_0, atI_1, atI_2, atI_3, atI_4, atI_5, atI_6, atI_7, atI_8, atI_bit, atI_nat, bindG, bindGs, scalD, eqD, ITs.len, IEs.len, pick, startD, List.map_cons, List.map_nil, List.length_cons, List.length_nil, List.getElem?_cons_zero, List.getElem?_cons_succ, List.set_cons_zero, List.set_cons_succ, List.replicate, List.cons_append, List.nil_append, List.filterMap_cons, List.filterMap_nil, Nat.reduceAdd, Nat.reduceSub, Nat.reduceLeDiff, Nat.reduceEqDiff, Int.reduceToNat, Int.reducePow, Int.reduceMul, Int.reduceSub, Int.reduceAdd, Int.reduceNeg, Int.reduceLE, Int.reduceLT, true_and, and_true, decide_true, decide_false, Bool.not_true, Bool.not_false, reduceCtorEq, ne_eq, not_false_eq_true, idx_ref hp, putL_eq hp])))
    refine ⟨⟨hm, by omega⟩, ?_⟩
    ((refine stepS rfl ?_; (simp only [r_var, r_cst, r_fnv, r_bin, r_neg, r_nt, r_cmp, r_conj, r_disj, r_ite, r_tup, r_lst, r_idx, r_call, r_callk, r_callv, r_blt, r_fst, r_conj1, r_conj2, r_disj1, r_disj2, r_ts0, r_ts1, r_asg, r_asgc, r_par, r_asgt, r_exp, r_ret, r_retn, r_ifs, r_rais, r_pass, r_whil, r_fors, r_sub, r_tryo, r_anm, r_asub, r_as0, r_as1, onB_t, onB_f, onB_n, onI_i, onV_s, onF_f, wpEs, wpF, wpI, b_len_tup, b_len_scr, b_len_str, b_abs, b_int, b_int_bl, b_max, b_min, b_divmod, b_str, b_repr_int, wpCmp, ixN_0, ixN_1, ixN_2, Sto.same, Sto.set_set, bin_add, bin_cat, bin_sub, bin_mul, bin_mod, bin_fdiv, bin_pow, idx_tup, idx_scr, atI_0, atI_1, atI_2, atI_3, atI_4, atI_5, atI_6, atI_7, atI_8, atI_bit, atI_nat, bindG, bindGs, scalD, eqD, ITs.len, IEs.len, pick, startD, List.map_cons, List.map_nil, List.length_cons, List.length_nil, List.getElem?_cons_zero, List.getElem?_cons_succ, List.set_cons_zero, List.set_cons_succ, List.replicate, List.cons_append, List.nil_append, List.filterMap_cons, List.filterMap_nil, Nat.reduceAdd, Nat.reduceSub, Nat.reduceLeDiff, Nat.reduceEqDiff, Int.reduceToNat, Int.reducePow, Int.reduceMul, Int.reduceSub, Int.reduceAdd, Int.reduceNeg, Int.reduceLE, Int.reduceLT, true_and, and_true, decide_true, decide_false, Bool.not_true, Bool.not_false, reduceCtorEq, ne_eq, not_false_eq_true, idx_ref hp, putL_eq hp])))
    exact h _ _ _ (Int.emod_nonneg _ (by omega)) (Int.emod_lt_of_pos _ hm) hy
  · walk_at "l3 wnl"
    ((refine stepS rfl ?_; (simp only [r_var, r_cst, r_fnv, r_bin, r_neg, r_nt, r_cmp, r_conj, r_disj, r_ite, r_tup, r_lst, r_idx, r_call, r_callk, r_callv, r_blt, r_fst, r_conj1, r_conj2, r_disj1, r_disj2, r_ts0, r_ts1, r_asg, r_asgc, r_par, r_asgt, r_exp, r_ret, r_retn, r_ifs, r_rais, r_pass, r_whil, r_fors, r_sub, r_tryo, r_anm, r_asub, r_as0, r_as1, onB_t, onB_f, onB_n, onI_i, onV_s, onF_f, wpEs, wpF, wpI, b_len_tup, b_len_scr, b_len_str, b_abs, b_int, b_int_bl, b_max, b_min, b_divmod, b_str, b_repr_int, wpCmp, ixN_0, ixN_1, ixN_2, Sto.same, Sto.set_set, bin_add, bin_cat, bin_sub, bin_mul, bin_mod, bin_fdiv, bin_pow, idx_tup, idx_scr, atI_0, atI_1, atI_2, atI_3, atI_4, atI_5, atI_6, atI_7, atI_8, atI_bit, atI_nat, bindG, bindGs, scalD, eqD, ITs.len, IEs.len, pick, startD, List.map_cons, List.map_nil, List.length_cons, List.length_nil, List.getElem?_cons_zero, List.getElem?_cons_succ, List.set_cons_zero, List.set_cons_succ, List.replicate, List.cons_append, List.nil_append, List.filterMap_cons, List.filterMap_nil, Nat.reduceAdd, Nat.reduceSub, Nat.reduceLeDiff, Nat.reduceEqDiff, Int.reduceToNat, Int.reducePow, Int.reduceMul, Int.reduceSub, Int.reduceAdd, Int.reduceNeg, Int.reduceLE, Int.reduceLT, true_and, and_true, decide_true, decide_false, Bool.not_true, Bool.not_false, reduceCtorEq, ne_eq, not_false_eq_true, idx_ref hp, putL_eq hp])))
    have p2 : ∀ a, Pot (Int.fmod a 2147483587) := fun a => fmod_pot (by decide) (by decide)
    have p3 := p2 (y * 39373 + 8191)
    refine ⟨mul_ok (by have := hy.1; have := hy.2; omega) (by decide), by decide, ?_⟩
    have p4 := p3.1
    have p5 := p3.2
    ((refine stepS rfl ?_; (simp only [r_var, r_cst, r_fnv, r_bin, r_neg, r_nt, r_cmp, r_conj, r_disj, r_ite, r_tup, r_lst, r_idx, r_call, r_callk, r_callv, r_blt, r_fst, r_conj1, r_conj2, r_disj1, r_disj2, r_ts0, r_ts1, r_asg, r_asgc, r_par, r_asgt, r_exp, r_ret, r_retn, r_ifs, r_rais, r_pass, r_whil, r_fors, r_sub, r_tryo, r_anm, r_asub, r_as0, r_as1, onB_t, onB_f, onB_n, onI_i, onV_s, onF_f, wpEs, wpF, wpI, b_len_tup, b_len_scr, b_len_str, b_abs, b_int, b_int_bl, b_max, b_min, b_divmod, b_str, b_repr_int, wpCmp, ixN_0, ixN_1, ixN_2, Sto.same, Sto.set_set, bin_add, bin_cat, bin_sub, bin_mul, bin_mod, bin_fdiv, bin_pow, idx_tup, idx_scr, atI_0, atI_1, atI_2, atI_3, atI_4, atI_5, atI_6, atI_7, atI_8, atI_bit, atI_nat, bindG, bindGs, scalD, eqD, ITs.len, IEs.len, pick, startD, List.map_cons, List.map_nil, List.length_cons, List.length_nil, List.getElem?_cons_zero, List.getElem?_cons_succ, List.set_cons_zero, List.set_cons_succ, List.replicate, List.cons_append, List.nil_append, List.filterMap_cons, List.filterMap_nil, Nat.reduceAdd, Nat.reduceSub, Nat.reduceLeDiff, Nat.reduceEqDiff, Int.reduceToNat, Int.reducePow, Int.reduceMul, Int.reduceSub, Int.reduceAdd, Int.reduceNeg, Int.reduceLE, Int.reduceLT, true_and, and_true, decide_true, decide_false, Bool.not_true, Bool.not_false, reduceCtorEq, ne_eq, not_false_eq_true, idx_ref Sto.same])))
    exact ⟨mul_ok (by omega) (by omega), by decide, ⟨by decide, by decide⟩, by omega, h _ _ _ (Int.fmod_nonneg_of_pos _ hm) (Int.fmod_lt_of_pos _ hm) p3⟩
theorem w_low {a b : Int} (hb : b ≠ 0) (hs : b.natAbs < 2 ^ 8900) (h : Q (frD (low a b)) S) : wpCall pd (n+1) 11 [.int a, .int b] S Q E := by
  refine c_law_low rfl ?_
  walk_at "l3 wst"
  walk_at "l3 wst"
  refine ⟨fun m fr S' => ∃ x y : Nat, fr = [some (.int a), some (.int b), some (.int x), some (.int y)] ∧ S' = S ∧ Nat.gcd x y = Int.gcd a b ∧ m = y, ⟨_, a.natAbs, b.natAbs, rfl, rfl, rfl, rfl⟩, ?_⟩
  rintro m fr S' ⟨x, y, rfl, rfl, hg, rfl⟩
  walk_at "l3 wxs"
  (((try walk_at "l3 wxs"); refine onB_d (fun hy => ?_) (fun hy => ?_) <;> (try walk_at "l3 wxs")))
  · walk_at "l3 wst"
    refine ⟨by omega, ?_⟩
    refine nilS rfl ?_
    refine ⟨x % m, Nat.mod_lt _ (by omega), m, x % m, ?_, rfl, ?_, rfl⟩
    · rw [Int.fmod_eq_emod_of_nonneg _ (by omega), Int.natCast_emod]
    · rw [← hg, Nat.gcd_comm, ← Nat.gcd_rec]
      exact Nat.gcd_comm ..
  · have : m = 0 := by omega
    subst this
    rw [Nat.gcd_zero_right] at hg
    subst hg
    have hl := Nat.lt_of_le_of_lt (lowG_le (n := a) hb) hs
    have hn := lowG_ne (n := a) hb
    unfold frD low at h
    unfold lowG at h hl hn
    walk_at "l3 wst"
    (((try walk_at "l3 wxs"); refine onB_d (fun h1 => ?_) (fun h1 => ?_) <;> (try walk_at "l3 wxs")))
    · rw [if_pos h1] at h hl hn
      walk_at "l3 wst"
      walk_at "l3 wnl"
      walk_at "l3 wst"
      exact ⟨⟨hn, hl⟩, ⟨hn, hl⟩, h⟩
    · rw [if_neg h1] at h hl hn
      walk_at "l3 wnl"
      walk_at "l3 wst"
      exact ⟨⟨hn, hl⟩, ⟨hn, hl⟩, h⟩
theorem w_number {p : Addr} {x y : Int} (hp : S p = some (pot x y)) (hy : Pot y) (h : ∀ r x' y', -1000000000000 < r → r < 1000000000000 → Pot y' → Q (.int r) (S.set p (pot x' y'))) : wpCall pd (n+2) 12 [.ref p] S Q E := by
  refine c_law_number rfl ?_
  walk_at "l3 wst"
  refine w_draw hp hy (by decide) (by decide) fun r x1 y1 r1 r2 hy1 => ?_
  (((try walk_at "l3 wxs"); refine onB_d (fun h1 => ?_) (fun h1 => ?_) <;> (try walk_at "l3 wxs")))
  · walk_at "l3 wst"
    refine w_draw Sto.same hy1 (by decide) (by decide) fun r x2 y2 r1 r2 hy2 => ?_
    rw [Sto.set_set]
    exact h _ _ _ (by omega) (by omega) hy2
  · walk_at "l3 wnl"
    walk_at "l3 wst"
    refine ⟨by decide, mul_ok (by decide) (by decide), ?_⟩
    refine w_draw Sto.same hy1 (by decide) (by decide) fun r x2 y2 r1 r2 hy2 => ?_
    rw [Sto.set_set]
    refine ⟨by decide, h _ _ _ (by omega) (by omega) hy2⟩
theorem w_pair {p : Addr} {x y : Int} (hp : S p = some (pot x y)) (hy : Pot y) (h : ∀ a b x' y' S', a.natAbs < 2 ^ 40 → b.natAbs < 2 ^ 40 → b ≠ 0 → Pot y' → S' p = some (pot x' y') → ExtX p S S' → Q (.tup [.int a, .int b]) S') : wpCall pd (n+3) 13 [.ref p] S Q E := by
  refine c_law_pair rfl ?_
  walk_at "l3 wst"
  refine w_number hp hy fun a x1 y1 r1 r2 hy1 => ?_
  refine w_number Sto.same hy1 fun b x2 y2 r3 r4 hy2 => ?_
  rw [Sto.set_set]
  walk_at "l3 wst"
  ((refine newL_i fun q S1 x1 e1 _ => ?_; (try simp only [List.cons_append, List.nil_append] at e1); (try walk_at "l3 wxs")))
  (simp only [r_var, r_cst, r_fnv, r_bin, r_neg, r_nt, r_cmp, r_conj, r_disj, r_ite, r_tup, r_lst, r_idx, r_call, r_callk, r_callv, r_blt, r_fst, r_conj1, r_conj2, r_disj1, r_disj2, r_ts0, r_ts1, r_asg, r_asgc, r_par, r_asgt, r_exp, r_ret, r_retn, r_ifs, r_rais, r_pass, r_whil, r_fors, r_sub, r_tryo, r_anm, r_asub, r_as0, r_as1, onB_t, onB_f, onB_n, onI_i, onV_s, onF_f, wpEs, wpF, wpI, b_len_tup, b_len_scr, b_len_str, b_abs, b_int, b_int_bl, b_max, b_min, b_divmod, b_str, b_repr_int, wpCmp, ixN_0, ixN_1, ixN_2, Sto.same, Sto.set_set, bin_add, bin_cat, bin_sub, bin_mul, bin_mod, bin_fdiv, bin_pow, idx_tup, idx_scr, atI_0, atI_1, atI_2, atI_3, atI_4, atI_5, atI_6, atI_7, atI_8, atI_bit, atI_nat, bindG, bindGs, scalD, eqD, ITs.len, IEs.len, pick, startD, List.map_cons, List.map_nil, List.length_cons, List.length_nil, List.getElem?_cons_zero, List.getElem?_cons_succ, List.set_cons_zero, List.set_cons_succ, List.replicate, List.cons_append, List.nil_append, List.filterMap_cons, List.filterMap_nil, Nat.reduceAdd, Nat.reduceSub, Nat.reduceLeDiff, Nat.reduceEqDiff, Int.reduceToNat, Int.reducePow, Int.reduceMul, Int.reduceSub, Int.reduceAdd, Int.reduceNeg, Int.reduceLE, Int.reduceLT, true_and, and_true, decide_true, decide_false, Bool.not_true, Bool.not_false, reduceCtorEq, ne_eq, not_false_eq_true, idx_ref e1])
  have hx : ExtX p S S1 := ExtX.put.trans x1.x
  have hk := x1 _ _ Sto.same
  by_cases h0 : b = 0
  · simp only [decide_eq_true h0, if_true]
    exact h _ _ _ _ _ (by omega) (by omega) (by omega) hy2 hk hx
  · simp only [decide_eq_false h0, Bool.false_eq_true, if_false]
    exact h _ _ _ _ _ (by omega) (by omega) h0 hy2 hk hx
theorem w_text {a b : Int} (ha : a.natAbs < 2 ^ 400) (hb : b.natAbs < 2 ^ 400) (h : ∀ S', Ext S S' → Q (.str (frT a b)) S') : wpCall pd (n+1) 14 [.tup [.int a, .int b]] S Q E := by
  refine c_law_text rfl ?_
  walk_at "l3 wst"
  have l1 := len_int (pow_lt ha (show 400 ≤ 1900 by decide))
  have l2 := len_int (pow_lt hb (show 400 ≤ 1900 by decide))
  have l3 : ("/" : Str).length = 1 := by decide
  have l4 : ("" : Str).length = 0 := by decide
  have l5 : ("" : Str) = Str.empty := rfl
  refine ⟨pow_lt ha (by decide), pow_lt hb (by decide), by unfold Line; omega, ?_⟩
  ((refine newL_i fun p S1 x1 e1 _ => ?_; (try simp only [List.cons_append, List.nil_append] at e1); (try walk_at "l3 wxs")))
  (simp only [r_var, r_cst, r_fnv, r_bin, r_neg, r_nt, r_cmp, r_conj, r_disj, r_ite, r_tup, r_lst, r_idx, r_call, r_callk, r_callv, r_blt, r_fst, r_conj1, r_conj2, r_disj1, r_disj2, r_ts0, r_ts1, r_asg, r_asgc, r_par, r_asgt, r_exp, r_ret, r_retn, r_ifs, r_rais, r_pass, r_whil, r_fors, r_sub, r_tryo, r_anm, r_asub, r_as0, r_as1, onB_t, onB_f, onB_n, onI_i, onV_s, onF_f, wpEs, wpF, wpI, b_len_tup, b_len_scr, b_len_str, b_abs, b_int, b_int_bl, b_max, b_min, b_divmod, b_str, b_repr_int, wpCmp, ixN_0, ixN_1, ixN_2, Sto.same, Sto.set_set, bin_add, bin_cat, bin_sub, bin_mul, bin_mod, bin_fdiv, bin_pow, idx_tup, idx_scr, atI_0, atI_1, atI_2, atI_3, atI_4, atI_5, atI_6, atI_7, atI_8, atI_bit, atI_nat, bindG, bindGs, scalD, eqD, ITs.len, IEs.len, pick, startD, List.map_cons, List.map_nil, List.length_cons, List.length_nil, List.getElem?_cons_zero, List.getElem?_cons_succ, List.set_cons_zero, List.set_cons_succ, List.replicate, List.cons_append, List.nil_append, List.filterMap_cons, List.filterMap_nil, Nat.reduceAdd, Nat.reduceSub, Nat.reduceLeDiff, Nat.reduceEqDiff, Int.reduceToNat, Int.reducePow, Int.reduceMul, Int.reduceSub, Int.reduceAdd, Int.reduceNeg, Int.reduceLE, Int.reduceLT, true_and, and_true, decide_true, decide_false, Bool.not_true, Bool.not_false, reduceCtorEq, ne_eq, not_false_eq_true, idx_ref e1])
  have k := h _ x1
  unfold frT at k
  by_cases h1 : b = 1
  · rw [if_pos h1] at k
    simp only [decide_eq_true h1, if_true, bin_cat]
    exact ⟨by unfold Line; omega, by rw [l5, Str.append_empty]; exact k⟩
  · rw [if_neg h1] at k
    simp only [decide_eq_false h1, Bool.false_eq_true, if_false, bin_cat]
    exact ⟨by unfold Line; rw [strLen_append]; omega, k⟩
theorem w_is_refused {k : Nat} {d e : D} (hk : ∀ Q' E', E' ⟨.cls 1, []⟩ S → wpCall pd n k [d, e] S Q' E') (h : Q (.bl true) S) : wpCall pd (n+1) 15 [.fn k, d, e] S Q E := by
  refine c_law_is_refused rfl ?_
  walk_at "l3 wst"
  walk_at "l3 wst"
  walk_at "l3 wst"
  refine hk _ _ ?_
  dsimp only
  rw [if_pos (show pd.sub 1 1 = true from rfl)]
  walk_at "l3 wst"
  walk_at "l3 wnl"
  walk_at "l3 wst"
  exact h
theorem w_sums_right {a b c d : Int} (r1 : Red (a, b)) (r2 : Red (c, d)) (ha : a.natAbs < 2 ^ 40) (hb : b.natAbs < 2 ^ 40) (hc : c.natAbs < 2 ^ 40) (hd : d.natAbs < 2 ^ 40) (h : ∀ S', Ext S S' → Q (.bl true) S') : wpCall pd (n+5) 16 [.tup [.int a, .int b], .tup [.int c, .int d]] S Q E := by
  refine c_law_sums_right rfl ?_
  walk_at "l3 wst"
  walk_at "l3 wst"
  have b0 : b ≠ 0 := by have := r1.pos; simp only at this; omega
  have d0 : d ≠ 0 := by have := r2.pos; simp only at this; omega
  have up' : ∀ {i : Int}, i.natAbs < 2 ^ 40 → i.natAbs < 2 ^ 400 := fun h => pow_lt h (by decide)
  have up4 : ∀ {i : Int}, i.natAbs < 2 ^ 40 → i.natAbs < 2 ^ 4000 := fun h => pow_lt h (by decide)
  have bd0 := Int.mul_ne_zero b0 d0
  have bds : (b * d).natAbs < 2 ^ 8900 := mul_lt hb hd (by decide)
  walk_at "l3 wst"
  refine ⟨mul_ok (up4 ha) (up4 hd), mul_ok (up4 hc) (up4 hb), mul_ok (up4 hb) (up4 hd), w_low bd0 bds ?_⟩
  refine ⟨mul_ok (up4 ha) (up4 hd), mul_ok (up4 hc) (up4 hb), mul_ok (up4 hb) (up4 hd), w_low bd0 bds ?_⟩
  refine ⟨mul_ok (up4 ha) (up4 hc), mul_ok (up4 hb) (up4 hd), w_low bd0 bds ?_⟩
  ((refine newL_i fun p1 S1 x1 e1 _ => ?_; (try simp only [List.cons_append, List.nil_append] at e1); (try walk_at "l3 wxs")))
  walk_at "l3 wst"
  refine ⟨mul_ok (up4 ha) (up4 hd), mul_ok (up4 hc) (up4 hb), mul_ok (up4 hc) (up4 hb), mul_ok (up4 ha) (up4 hd), ?_⟩
  refine w_text (up' ha) (up' hb) fun S2 x2 => ?_
  refine w_text (up' hc) (up' hd) fun S3 x3 => ?_
  ((refine newL_i fun p2 S4 x4 e2 _ => ?_; (try simp only [List.cons_append, List.nil_append] at e2); (try walk_at "l3 wxs")))
  rw [bin_adds (by ((refine Ext.at e1 ?_; walk_at "l3 wch"))) e2]
  refine ⟨(Nat.le_of_ble_eq_true rfl : 3 + 4 ≤ 16000000), ?_⟩
  ((refine newL_i fun p3 S5 x5 e3 _ => ?_; (try simp only [List.cons_append, List.nil_append] at e3); (try walk_at "l3 wxs")))
  walk_at "l3 wst"
  refine w_plus (up' ha) (up' hb) (up' hc) (up' hd) b0 d0 ?_
  refine w_minus (up' ha) (up' hb) (up' hc) (up' hd) b0 d0 ?_
  refine w_times (up' ha) (up' hb) (up' hc) (up' hd) b0 d0 ?_
  ((refine newL_i fun p4 S6 x6 e4 _ => ?_; (try simp only [List.cons_append, List.nil_append] at e4); (try walk_at "l3 wxs")))
  walk_at "l3 wst"
  refine w_plus (up' ha) (up' hb) (up' hc) (up' hd) b0 d0 ?_
  refine w_minus (up' ha) (up' hb) (up' hc) (up' hd) b0 d0 ?_
  refine w_times (up' ha) (up' hb) (up' hc) (up' hd) b0 d0 ?_
  ((refine newL_i fun p5 S7 x7 e5 _ => ?_; (try simp only [List.cons_append, List.nil_append] at e5); (try walk_at "l3 wxs")))
  have e4' := x7 _ _ e4
  have s40 : ∀ {i : Int} {k : Nat}, k ≤ 1900 → i.natAbs < 2 ^ k → i.natAbs < 2 ^ 1900 := fun hk h => pow_lt h hk
  have t1 : (a * d + c * b).natAbs < 2 ^ 1900 := add_lt (a := 80) (b := 80) (mul_lt ha hd (by decide)) (mul_lt hc hb (by decide)) (by decide) (by decide)
  have t2 : (a * d - c * b).natAbs < 2 ^ 1900 := sub_lt (a := 80) (b := 80) (mul_lt ha hd (by decide)) (mul_lt hc hb (by decide)) (by decide) (by decide)
  have t3 : (a * c).natAbs < 2 ^ 1900 := mul_lt ha hc (by decide)
  have t4 : (b * d).natAbs < 2 ^ 1900 := mul_lt hb hd (by decide)
  walk_at "l3 wrp"
  walk_at "l3 wrp"
  walk_at "l3 wnl"
  walk_at "l3 wst"
  refine w_is_less (up' ha) (up' hb) (up' hc) (up' hd) ?_
  refine w_is_less (up' hc) (up' hd) (up' ha) (up' hb) ?_
  ((refine newL_i fun p6 S8 x8 e6 _ => ?_; (try simp only [List.cons_append, List.nil_append] at e6); (try walk_at "l3 wxs")))
  rw [bin_adds (by ((refine Ext.at e4 ?_; walk_at "l3 wch"))) e6]
  refine ⟨(Nat.le_of_ble_eq_true rfl : 3 + 2 ≤ 16000000), ?_⟩
  ((refine newL_i fun p7 S9 x9 e7 _ => ?_; (try simp only [List.cons_append, List.nil_append] at e7); (try walk_at "l3 wxs")))
  walk_at "l3 wst"
  refine w_fraction_text (up' ha) (up' hb) ?_
  refine w_fraction_text (up' hc) (up' hd) ?_
  ((refine newL_i fun p8 S10 x10 e8 _ => ?_; (try simp only [List.cons_append, List.nil_append] at e8); (try walk_at "l3 wxs")))
  rw [bin_adds (by ((refine Ext.at e7 ?_; walk_at "l3 wch"))) e8]
  refine ⟨(Nat.le_of_ble_eq_true rfl : 5 + 2 ≤ 16000000), ?_⟩
  ((refine newL_i fun p9 S11 x11 e9 _ => ?_; (try simp only [List.cons_append, List.nil_append] at e9); (try walk_at "l3 wxs")))
  (replace e3 := Ext.at (S' := S11) e3 (by walk_at "l3 wch"))
  have a9 := s40 (by decide) ha
  have b9 := s40 (by decide) hb
  have c9 := s40 (by decide) hc
  have d9 := s40 (by decide) hd
  walk_at "l3 wst"
  walk_at "l3 wrp"
  walk_at "l3 wrp"
  rw [idx_ref e9]
  walk_at "l3 wxs"
  refine w_minus (pow_lt (b := 400) (Nat.lt_of_le_of_lt (low_le1 bd0) (add_lt (a := 80) (b := 80) (c := 81) (mul_lt ha hd (by decide)) (mul_lt hc hb (by decide)) (by decide) (by decide))) (by decide)) (pow_lt (b := 400) (Nat.lt_of_le_of_lt (low_le2 bd0) (mul_lt (c := 80) hb hd (by decide))) (by decide)) (up' hc) (up' hd) (by have := low_pos (n := a * d + c * b) bd0; omega) d0 ?_
  rw [low_back r1 d0]
  walk_at "l3 wrpt"
  walk_at "l3 wrpt"
  rw [show frP (a, b) = .tuple [.int a, .int b] from rfl]
  walk_at "l3 wxs"
  walk_at "l3 wnl"
  have xx : Ext S S11 := by walk_at "l3 wch"
  walk_at "l3 wst"
  (((try walk_at "l3 wxs"); refine onB_d (fun hc0 => ?_) (fun hc0 => ?_) <;> (try walk_at "l3 wxs")))
  · subst hc0
    walk_at "l3 wst"
    refine w_is_refused (fun Q' E' hE => ?_) ?_
    · exact w_over0 (up' ha) (up' hb) b0 (up' hd) hE
    · exact h _ xx
  · walk_at "l3 wnl"
    have bc0 := Int.mul_ne_zero b0 hc0
    have bcs : (b * c).natAbs < 2 ^ 8900 := mul_lt hb hc (by decide)
    walk_at "l3 wst"
    refine ⟨mul_ok (up4 ha) (up4 hd), mul_ok (up4 hb) (up4 hc), w_low bc0 bcs ?_⟩
    walk_at "l3 wst"
    refine w_over (up' ha) (up' hb) (up' hc) (up' hd) b0 hc0 ?_
    refine w_over (up' ha) (up' hb) (up' hc) (up' hd) b0 hc0 ?_
    have t5 : (a * d).natAbs < 2 ^ 1900 := mul_lt ha hd (by decide)
    have t6 : (b * c).natAbs < 2 ^ 1900 := mul_lt hb hc (by decide)
    ((refine newL_i fun p10 S12 x12 e10 _ => ?_; (try simp only [List.cons_append, List.nil_append] at e10); (try walk_at "l3 wxs")))
    walk_at "l3 wrp"
    ((refine newL_i fun p11 S13 x13 e11 _ => ?_; (try simp only [List.cons_append, List.nil_append] at e11); (try walk_at "l3 wxs")))
    walk_at "l3 wrp"
    exact h _ (by walk_at "l3 wch")
theorem w_right {p : Addr} {x y : Int} (hp : S p = some (pot x y)) (hy : Pot y) (h : ∀ S', ExtX p S S' → Q (.bl true) S') : wpCall pd (n+6) 17 [.ref p] S Q E := by
  refine c_law_right rfl ?_
  walk_at "l3 wst"
  refine w_pair hp hy fun a b x1 y1 S1 ha hb b0 hy1 hp1 k1 => ?_
  refine w_pair hp1 hy1 fun c d x2 y2 S2 hc hd d0 hy2 hp2 k2 => ?_
  walk_at "l3 wst"
  have bs : b.natAbs < 2 ^ 8900 := pow_lt hb (by decide)
  have ds : d.natAbs < 2 ^ 8900 := pow_lt hd (by decide)
  refine w_low b0 bs ?_
  refine w_low d0 ds ?_
  walk_at "l3 wst"
  refine w_fraction b0 bs ?_
  refine w_fraction d0 ds ?_
  have a9 : a.natAbs < 2 ^ 1900 := pow_lt ha (by decide)
  have b9 : b.natAbs < 2 ^ 1900 := pow_lt hb (by decide)
  have c9 : c.natAbs < 2 ^ 1900 := pow_lt hc (by decide)
  have d9 : d.natAbs < 2 ^ 1900 := pow_lt hd (by decide)
  ((refine newL_i fun p1 S3 x1 e1 _ => ?_; (try simp only [List.cons_append, List.nil_append] at e1); (try walk_at "l3 wxs")))
  walk_at "l3 wst"
  walk_at "l3 wrp"
  ((refine newL_i fun p2 S4 x2 e2 _ => ?_; (try simp only [List.cons_append, List.nil_append] at e2); (try walk_at "l3 wxs")))
  walk_at "l3 wrp"
  refine w_is_refused (fun Q' E' hE => w_fraction0 hE) ?_
  walk_at "l3 wxs"
  walk_at "l3 wnl"
  walk_at "l3 wst"
  have l1 := Nat.lt_of_le_of_lt (low_le1 (n := a) b0) ha
  have l2 := Nat.lt_of_le_of_lt (low_le2 (n := a) b0) hb
  have l3 := Nat.lt_of_le_of_lt (low_le1 (n := c) d0) hc
  have l4 := Nat.lt_of_le_of_lt (low_le2 (n := c) d0) hd
  refine w_sums_right (low_red b0) (low_red d0) l1 l2 l3 l4 fun S5 k5 => ?_
  walk_at "l3 wxs"
  refine w_sums_right (low_red d0) (low_red b0) l3 l4 l1 l2 fun S6 k6 => ?_
  walk_at "l3 wxs"
  refine w_sums_right (low_red b0) (low_red b0) l1 l2 l1 l2 fun S7 k7 => ?_
  have k : Ext S2 S7 := by walk_at "l3 wch"
  exact h _ (k1.trans (k2.trans k.x))
def depth : Nat := 8
theorem law_ok : ∀ ns : List Int, ns.length ≤ 63 → wpCall pd depth 18 [.scr (ns.map D.int)] (fun _ => none) (fun d _ => d = .bl true) (fun _ _ => False) := by
  intro ns hl
  refine c_law rfl ?_
  refine stepS rfl (e_ret (e_all_range ?_))
  intro R hR
  walk_at "l3 wxs"
  refine hR _ _ (by omega) (by omega) ?_ (fun _ _ => rfl)
  intro i S2 hi x2 Q' hQ
  (simp only [r_var, r_cst, r_fnv, r_bin, r_neg, r_nt, r_cmp, r_conj, r_disj, r_ite, r_tup, r_lst, r_idx, r_call, r_callk, r_callv, r_blt, r_fst, r_conj1, r_conj2, r_disj1, r_disj2, r_ts0, r_ts1, r_asg, r_asgc, r_par, r_asgt, r_exp, r_ret, r_retn, r_ifs, r_rais, r_pass, r_whil, r_fors, r_sub, r_tryo, r_anm, r_asub, r_as0, r_as1, onB_t, onB_f, onB_n, onI_i, onV_s, onF_f, wpEs, wpF, wpI, b_len_tup, b_len_scr, b_len_str, b_abs, b_int, b_int_bl, b_max, b_min, b_divmod, b_str, b_repr_int, wpCmp, ixN_0, ixN_1, ixN_2, Sto.same, Sto.set_set, bin_add, bin_cat, bin_sub, bin_mul, bin_mod, bin_fdiv, bin_pow, idx_tup, idx_scr, atI_0, atI_1, atI_2, atI_3, atI_4, atI_5, atI_6, atI_7, atI_8, atI_bit, atI_nat, bindG, bindGs, scalD, eqD, ITs.len, IEs.len, pick, startD, List.map_cons, List.map_nil, List.length_cons, List.length_nil, List.getElem?_cons_zero, List.getElem?_cons_succ, List.set_cons_zero, List.set_cons_succ, List.replicate, List.cons_append, List.nil_append, List.filterMap_cons, List.filterMap_nil, Nat.reduceAdd, Nat.reduceSub, Nat.reduceLeDiff, Nat.reduceEqDiff, Int.reduceToNat, Int.reducePow, Int.reduceMul, Int.reduceSub, Int.reduceAdd, Int.reduceNeg, Int.reduceLE, Int.reduceLT, true_and, and_true, decide_true, decide_false, Bool.not_true, Bool.not_false, reduceCtorEq, ne_eq, not_false_eq_true, wipeD])
  refine w_cell fun c => ?_
  refine w_pot fun p hp x y _ hy => ?_
  have x3 := Ext.new (o := pot x y) hp
  refine w_right Sto.same hy fun S4 k4 => ?_
  exact hQ _ (k4.ext hp x3)
end
end K11

open PySem PySem.W PyProof.Rows
set_option maxRecDepth 100000 in
set_option maxHeartbeats 0 in
theorem PySem.Challenge.cw_loafshares_k11_fractions_told_holds : PySem.Challenge.rw_loafshares_k11_fractions_told.Holds := by
  w_on; o_law; k_head; (case hw => w_witness2)
  k_fill
  refine L3.walk_L (l := PySem.Challenge.rw_loafshares_k11_fractions_told) (P := K11.pd) (n := K11.depth) (kl := 18) (f := K11.f_law) (x := "_law_script") rfl rfl ⟨rfl, by decide, by decide⟩ rfl rfl ?hT K11.law_ok
  case hT =>
    intro w mg h fa Y Gn hmg
    have KX := PySem.W.kIn_of Y
    refine' L3.hT_of (K11.facts KX Gn ?a0 ?l0 ?d0 ?k0 ?a1 ?l1 ?d1 ?k1 ?a2 ?l2 ?d2 ?k2 ?a3 ?l3 ?d3 ?k3 ?a4 ?l4 ?d4 ?k4 ?a5 ?l5 ?d5 ?k5 ?a6 ?l6 ?d6 ?k6 ?a7 ?l7 ?d7 ?k7 ?a8 ?l8 ?d8 ?k8 ?a9 ?l9 ?d9 ?k9 ?a10 ?l10 ?d10 ?k10 ?a11 ?l11 ?d11 ?k11 ?a12 ?l12 ?d12 ?k12 ?a13 ?l13 ?d13 ?k13 ?a14 ?l14 ?d14 ?k14 ?a15 ?l15 ?d15 ?k15 ?a16 ?l16 ?d16 ?k16 ?a17 ?l17 ?d17 ?k17 ?a18 ?l18 ?d18 ?k18 ?ca0 ?ck0 ?cx0 ?cb0 ?ct0x ?ci0 ?ca1 ?ck1 ?cx1 ?cb1 ?ct1x ?ci1 ?e0_0 ?e0_1 ?e1_0 ?e1_1 ?z_abs ?z_all ?z_divmod ?z_int ?z_len ?z_max ?z_min ?z_range ?z_repr ?z_str) KX Gn hmg ?zz
    (case a0 => k_is); (case l0 => k_is); (case d0 => k_is); (case k0 => k_is); (case a1 => k_is); (case l1 => k_is)
    (case d1 => k_is); (case k1 => k_is); (case a2 => k_is); (case l2 => k_is); (case d2 => k_is); (case k2 => k_is)
    (case a3 => k_is); (case l3 => k_is); (case d3 => k_is); (case k3 => k_is); (case a4 => k_is); (case l4 => k_is)
    (case d4 => k_is); (case k4 => k_is); (case a5 => k_is); (case l5 => k_is); (case d5 => k_is); (case k5 => k_is)
    (case a6 => k_is); (case l6 => k_is); (case d6 => k_is); (case k6 => k_is); (case a7 => k_is); (case l7 => k_is)
    (case d7 => k_is); (case k7 => k_is); (case a8 => k_is); (case l8 => k_is); (case d8 => k_is); (case k8 => k_is)
    (case a9 => k_is); (case l9 => k_is); (case d9 => k_is); (case k9 => k_is); (case a10 => k_is); (case l10 => k_is)
    (case d10 => k_is); (case k10 => k_is); (case a11 => k_is); (case l11 => k_is); (case d11 => k_is); (case k11 => k_is)
    (case a12 => k_is); (case l12 => k_is); (case d12 => k_is); (case k12 => k_is); (case a13 => k_is); (case l13 => k_is)
    (case d13 => k_is); (case k13 => k_is); (case a14 => k_is); (case l14 => k_is); (case d14 => k_is); (case k14 => k_is)
    (case a15 => k_is); (case l15 => k_is); (case d15 => k_is); (case k15 => k_is); (case a16 => k_is); (case l16 => k_is)
    (case d16 => k_is); (case k16 => k_is); (case a17 => k_is); (case l17 => k_is); (case d17 => k_is); (case k17 => k_is)
    (case a18 => k_is); (case l18 => k_is); (case d18 => k_is); (case k18 => k_is); (case ca0 => k_is); (case ck0 => k_is)
    (case cx0 => k_exc); (case cb0 => k_is); (case ct0x => k_is); (case ci0 => k_is); (case ca1 => k_is); (case ck1 => k_is)
    (case cx1 => k_exc); (case cb1 => k_is); (case ct1x => k_is); (case ci1 => k_is); (case e0_0 => k_is); (case e0_1 => k_is)
    (case e1_0 => k_is); (case e1_1 => k_is); (case z_abs => k_is); (case z_all => k_is); (case z_divmod => k_is); (case z_int => k_is)
    (case z_len => k_is); (case z_max => k_is); (case z_min => k_is); (case z_range => k_is); (case z_repr => k_is); (case z_str => k_is)
    (case zz => k_is)

