import PyProof.Rows.All
import Wide.All
import OpenK.AllK
import Wide.FinOn
import HandS.ForMost
import HandS.ForExc
import HandS.IsInst
import HandS.Wide
import HandS.TupAny
import HandS.TupMul
import HandS.Zip
import HandS.CallLocal
import HandS.TryMany
import HandS.Style
import HandS.EndBits
import PySem.Challenge.RW_nowherebelow_k00_whole_fractions_reckone
set_option Elab.async false
set_option linter.all false
set_option maxRecDepth 100000
/-! Pu1: data as trees, the monad of the pure layer, how trees lie in a heap. -/
namespace Pu
open PySem PySem.Spec PyProof.Rows L2

/-! ### data -/
inductive D where
  | non
  | bl (b : Bool)
  | int (i : Int)
  | str (x : Str)
  | tup (xs : List D)
  | lst (xs : List D)
  | fn (x : Str)
  | tape
  | cells
  | scr (ns : List Int)

/-- the tape: cells, seed -/
abbrev Tp := Option (List Int × Int)
inductive Res (α : Type) where
  | ok (a : α) (t : Tp)
  | exc (c : Str) (t : Tp)
  | stuck
def M (α : Type) := Tp → Res α
namespace M
@[reducible] def pure {α : Type} (a : α) : M α := fun t => .ok a t
def bind {α β : Type} (m : M α) (f : α → M β) : M β := fun t => match m t with
  | .ok a t => f a t
  | .exc c t => .exc c t
  | .stuck => .stuck
end M
instance : Monad M where
  pure := M.pure
  bind := M.bind
def stuck {α : Type} : M α := fun _ => .stuck
def throwD {α : Type} (c : Str) : M α := fun t => .exc c t
def noExc {α : Type} (m : M α) : M α := fun t => match m t with
  | .exc _ _ => .stuck
  | r => r
section
variable {α β γ : Type}
@[simp] theorem M.pure_bind (a : α) (f : α → M β) : (Pure.pure a : M α) >>= f = f a := rfl
@[simp] theorem M.bind_assoc (m : M α) (f : α → M β) (g : β → M γ) : (m >>= f) >>= g = m >>= fun a => f a >>= g := by
  funext t
  show M.bind (M.bind m f) g t = M.bind m (fun a => M.bind (f a) g) t
  unfold M.bind
  cases m t <;> rfl
@[simp] theorem M.stuck_bind (f : α → M β) : (stuck : M α) >>= f = stuck := rfl
@[simp] theorem M.throw_bind (c : Str) (f : α → M β) : (throwD c : M α) >>= f = throwD c := rfl
@[simp] theorem M.bind_pure (m : M α) : (m >>= fun a => (Pure.pure a : M α)) = m := by
  funext t
  show M.bind m (fun a => M.pure a) t = m t
  unfold M.bind
  cases m t <;> rfl
@[simp] theorem noExc_pure (a : α) : noExc (Pure.pure a : M α) = Pure.pure a := rfl
@[simp] theorem noExc_stuck : noExc (stuck : M α) = stuck := rfl
theorem M.bind_ok {m : M α} {f : α → M β} {t t' : Tp} {b : β} (h : (m >>= f) t = .ok b t') : ∃ a t1, m t = .ok a t1 ∧ f a t1 = .ok b t' := by
  have h : M.bind m f t = .ok b t' := h
  unfold M.bind at h
  cases q : m t with
  | ok a t1 => rw [q] at h; exact ⟨a, t1, rfl, h⟩
  | exc c t1 => rw [q] at h; cases h
  | stuck => rw [q] at h; cases h
theorem M.bind_eq (m : M α) (f : α → M β) (t : Tp) : (m >>= f) t = (match m t with
  | .ok a t => f a t
  | .exc c t => .exc c t
  | .stuck => .stuck) := rfl
end

/-! ### the wish by the result -/
/-- what a computation's result must satisfy -/
def Res.is {α : Type} (r : Res α) (Q : α → Tp → Prop) (E : Str → Tp → Prop) : Prop := match r with
  | .ok a t => Q a t
  | .exc c t => E c t
  | .stuck => False
theorem Res.is_bind {α β : Type} {m : M α} {f : α → M β} {t : Tp} {Q : β → Tp → Prop} {E : Str → Tp → Prop} : ((m >>= f) t).is Q E ↔ (m t).is (fun a t1 => (f a t1).is Q E) E := by
  rw [M.bind_eq]
  cases m t <;> exact Iff.rfl
theorem Res.is.mono {α : Type} {r : Res α} {Q Q' : α → Tp → Prop} {E E' : Str → Tp → Prop} (h : r.is Q E) (hQ : ∀ a t, Q a t → Q' a t) (hE : ∀ c t, E c t → E' c t) : r.is Q' E' := by
  cases r with
  | ok a t => exact hQ a t h
  | exc c t => exact hE c t h
  | stuck => exact h
theorem Res.is_noExc {α : Type} {m : M α} {t : Tp} {Q : α → Tp → Prop} {E : Str → Tp → Prop} (h : (noExc m t).is Q E) : (m t).is Q fun _ _ => False := by
  unfold noExc at h
  cases q : m t with
  | ok a t => rw [q] at h; exact h
  | exc c t => rw [q] at h; exact h
  | stuck => rw [q] at h; exact h

/-! ### where trees lie -/
/-- where the defs and the error classes stand -/
structure Tab where
  K : PySem.W.Frag
  fa : Str → Option Addr
  ex : Str → Addr
abbrev Ta := Option (Addr × Addr)
mutual
inductive Rp (B : Tab) (F : Hp) (τ : Ta) : V → D → Prop where
  | non : Rp B F τ .non .non
  | bl (b : Bool) : Rp B F τ (.bl b) (.bl b)
  | int (i : Int) : Rp B F τ (.int i) (.int i)
  | str (x : Str) : Rp B F τ (.str x) (.str x)
  | tup {a : Addr} {vs : List V} {ds : List D} (h : SqT B.K F a vs) (r : RpL B F τ vs ds) : Rp B F τ (.ref a) (.tup ds)
  | lst {a : Addr} {vs : List V} {ds : List D} (h : Rd F a (.lst vs)) (r : RpL B F τ vs ds) : Rp B F τ (.ref a) (.lst ds)
  | fn {x : Str} {a : Addr} (h : B.fa x = some a) : Rp B F τ (.ref a) (.fn x)
  | tape {p : Addr × Addr} (h : τ = some p) : Rp B F τ (.ref p.1) .tape
  | cells {p : Addr × Addr} (h : τ = some p) : Rp B F τ (.ref p.2) .cells
  | scr {a : Addr} {ns : List Int} (h : SqL B.K F a (ns.map V.int)) : Rp B F τ (.ref a) (.scr ns)
inductive RpL (B : Tab) (F : Hp) (τ : Ta) : List V → List D → Prop where
  | nil : RpL B F τ [] []
  | cons {v : V} {d : D} {vs : List V} {ds : List D} (h : Rp B F τ v d) (r : RpL B F τ vs ds) : RpL B F τ (v :: vs) (d :: ds)
end
def Tle (τ τ' : Ta) : Prop := ∀ p, τ = some p → τ' = some p
theorem Tle.refl (τ : Ta) : Tle τ τ := fun _ h => h
theorem Tle.trans {a b c : Ta} (h : Tle a b) (h' : Tle b c) : Tle a c := fun p e => h' p (h p e)
theorem sqt_mono {K : PySem.W.Frag} {F F' : Hp} {a : Addr} {xs : List V} (e : Same F F') (h : SqT K F a xs) : SqT K F' a xs := by
  rcases h with (h | ⟨o, h⟩) | h
  · exact .inl (.inl (e _ _ h))
  · exact .inl (.inr ⟨o, e _ _ h⟩)
  · exact .inr h
theorem rd_mono {F F' : Hp} {a : Addr} {u : HO} (e : Same F F') (h : Rd F a u) : Rd F' a u := by
  rcases h with h | ⟨o, h⟩
  · exact .inl (e _ _ h)
  · exact .inr ⟨o, e _ _ h⟩
section
variable {B : Tab} {F F' : Hp} {τ τ' : Ta}
mutual
theorem Rp.mono (e : Same F F') (t : Tle τ τ') {v : V} {d : D} (h : Rp B F τ v d) : Rp B F' τ' v d := by
  cases h with
  | non => exact .non
  | bl b => exact .bl b
  | int i => exact .int i
  | str x => exact .str x
  | tup h r => exact .tup (sqt_mono e h) (RpL.mono e t r)
  | lst h r => exact .lst (rd_mono e h) (RpL.mono e t r)
  | scr h => exact .scr (e.seq h)
  | fn h => exact .fn h
  | tape h => exact .tape (t _ h)
  | cells h => exact .cells (t _ h)
theorem RpL.mono (e : Same F F') (t : Tle τ τ') {vs : List V} {ds : List D} (h : RpL B F τ vs ds) : RpL B F' τ' vs ds := by
  cases h with
  | nil => exact .nil
  | cons h r => exact .cons (Rp.mono e t h) (RpL.mono e t r)
end
theorem RpL.length {vs : List V} {ds : List D} (h : RpL B F τ vs ds) : vs.length = ds.length := by
  induction ds generalizing vs with
  | nil => cases h; rfl
  | cons d ds ih => cases h with | cons h r => rw [List.length_cons, List.length_cons, ih r]
theorem RpL.append {vs ws : List V} {ds es : List D} (h : RpL B F τ vs ds) (h' : RpL B F τ ws es) : RpL B F τ (vs ++ ws) (ds ++ es) := by
  induction ds generalizing vs with
  | nil => cases h; exact h'
  | cons d ds ih => cases h with | cons h r => exact .cons h (ih r)
theorem RpL.get {vs : List V} {ds : List D} (h : RpL B F τ vs ds) {i : Nat} {d : D} (e : ds[i]? = some d) : ∃ v, vs[i]? = some v ∧ Rp B F τ v d := by
  induction ds generalizing vs i with
  | nil => simp at e
  | cons d0 ds ih => cases h with
    | cons h r =>
      cases i with
      | zero => simp at e; subst e; exact ⟨_, rfl, h⟩
      | succ i => exact ih r (by simpa using e)
theorem RpL.get' {vs : List V} {ds : List D} (h : RpL B F τ vs ds) {i : Nat} {v : V} (e : vs[i]? = some v) : ∃ d, ds[i]? = some d ∧ Rp B F τ v d := by
  induction ds generalizing vs i with
  | nil => cases h; simp at e
  | cons d0 ds ih => cases h with
    | cons h r =>
      cases i with
      | zero => simp at e; subst e; exact ⟨_, rfl, h⟩
      | succ i => exact ih r (by simpa using e)
theorem RpL.take {vs : List V} {ds : List D} (h : RpL B F τ vs ds) (n : Nat) : RpL B F τ (vs.take n) (ds.take n) := by
  induction ds generalizing vs n with
  | nil => cases h; simp; exact .nil
  | cons d ds ih => cases h with
    | cons h r =>
      cases n with
      | zero => exact .nil
      | succ n => exact .cons h (ih r n)
theorem RpL.drop {vs : List V} {ds : List D} (h : RpL B F τ vs ds) (n : Nat) : RpL B F τ (vs.drop n) (ds.drop n) := by
  induction ds generalizing vs n with
  | nil => cases h; simp; exact .nil
  | cons d ds ih => cases h with
    | cons h r =>
      cases n with
      | zero => exact .cons h r
      | succ n => exact ih r n
theorem RpL.set {vs : List V} {ds : List D} (h : RpL B F τ vs ds) (n : Nat) {v : V} {d : D} (q : Rp B F τ v d) : RpL B F τ (vs.set n v) (ds.set n d) := by
  induction ds generalizing vs n with
  | nil => cases h; simp; exact .nil
  | cons d ds ih => cases h with
    | cons h r =>
      cases n with
      | zero => exact .cons q r
      | succ n => exact .cons h (ih r n)
theorem RpL.reverse {vs : List V} {ds : List D} (h : RpL B F τ vs ds) : RpL B F τ vs.reverse ds.reverse := by
  induction ds generalizing vs with
  | nil => cases h; exact .nil
  | cons d ds ih => cases h with
    | cons h r =>
      rw [List.reverse_cons, List.reverse_cons]
      exact (ih r).append (.cons h .nil)
theorem RpL.rep {vs : List V} {ds : List D} (h : RpL B F τ vs ds) (k : Nat) : RpL B F τ (List.replicate k vs).flatten (List.replicate k ds).flatten := by
  induction k with
  | zero => exact .nil
  | succ k ih =>
    rw [List.replicate_succ, List.replicate_succ, List.flatten_cons, List.flatten_cons]
    exact h.append ih
end

/-! ### the state -/
inductive SV where
  | val (d : D)
  | own (xs : List D)
abbrev Env := List (Option SV)
def SV.d : SV → D
  | .val d => d
  | .own xs => .lst xs
/-- how a slot's value lies -/
def RpS (B : Tab) (H0 F : Hp) (τ : Ta) (H : Hp) (v : V) : SV → Prop
  | .val d => Rp B F τ v d
  | .own ds => ∃ p vs, v = .ref p ∧ H p = some (.lst vs) ∧ RpL B F τ vs ds ∧ F p = none ∧ (∀ q, τ = some q → p ≠ q.1 ∧ p ≠ q.2) ∧ H0 p = none
def TapeAt (F H : Hp) : Ta → Tp → Prop
  | none, none => True
  | some (a, b), some (cells, seed) => H a = some (.lst [.ref b, .int seed]) ∧ H b = some (.lst (cells.map V.int)) ∧ a ≠ b ∧ F a = none ∧ F b = none
  | _, _ => False
structure St (B : Tab) (H0 F : Hp) (τ : Ta) (σ : Env) (s : L2.St) (H : Hp) (T : Tp) : Prop where
  sub : Same F H
  tape : TapeAt F H τ T
  slot : ∀ (i : Nat) (sv : SV), σ[i]? = some (some sv) → ∃ v : V, s[i]? = some (some v) ∧ RpS B H0 F τ H v sv
  dist : ∀ (i j : Nat) (xs ys : List D) (p : Addr), i ≠ j → σ[i]? = some (some (.own xs)) → σ[j]? = some (some (.own ys)) → s[i]? = some (some (V.ref p)) → s[j]? ≠ some (some (V.ref p))
  len : σ.length = s.length
/-- from one state to a later one: nothing that stood is changed but the tape -/
structure Ext (F H : Hp) (τ : Ta) (F' H' : Hp) (τ' : Ta) : Prop where
  keep : ∀ a o, H a = some o → (∀ p, τ = some p → a ≠ p.1 ∧ a ≠ p.2) → H' a = some o
  there : ∀ a, H' a = none → H a = none
  grow : Same F F'
  sub : Same F' H'
  new : ∀ a, F' a ≠ none → F a = none → H a = none
  ta : Tle τ τ'
  tn : ∀ p, τ = none → τ' = some p → H p.1 = none ∧ H p.2 = none
section
variable {B : Tab} {H0 F F' F'' H H' H'' : Hp} {τ τ' τ'' : Ta} {σ : Env} {s : L2.St} {T T' : Tp}
theorem Ext.refl (h : Same F H) : Ext F H τ F H τ := ⟨fun _ _ e _ => e, fun _ h => h, Same.refl F, h, fun a h1 h2 => absurd h2 h1, Tle.refl τ, fun p h1 h2 => by rw [h1] at h2; cases h2⟩
theorem Ext.trans (a : Ext F H τ F' H' τ') (b : Ext F' H' τ' F'' H'' τ'') : Ext F H τ F'' H'' τ'' where
  keep := fun c o e n => by
    refine b.keep c o (a.keep c o e n) fun p hp => ?_
    cases q : τ with
    | some p' =>
      have := a.ta p' q
      rw [hp] at this; cases this
      exact n p q
    | none =>
      obtain ⟨h1, h2⟩ := a.tn p q hp
      exact ⟨ne_of_none e h1, ne_of_none e h2⟩
  there := fun c h => a.there c (b.there c h)
  grow := a.grow.trans b.grow
  sub := b.sub
  new := fun c h1 h2 => by
    cases q : F' c with
    | some o => exact a.new c (by rw [q]; simp) h2
    | none => exact a.there c (b.new c h1 q)
  ta := a.ta.trans b.ta
  tn := fun p h1 h2 => by
    cases q : τ' with
    | none =>
      obtain ⟨h3, h4⟩ := b.tn p q h2
      exact ⟨a.there _ h3, a.there _ h4⟩
    | some p' =>
      have := b.ta p' q
      rw [h2] at this; cases this
      exact a.tn p h1 q
/-- a new object is laid and frozen -/
theorem Ext.laid {p : Addr} {o : HO} (h : Same F H) (hp : H p = none) : Ext F H τ (upd F p o) (upd H p o) τ where
  keep := fun a u e _ => by rw [upd_ne (ne_of_none e hp)]; exact e
  there := fun a e => by
    by_cases q : a = p
    · rw [q]; exact hp
    · rw [upd_ne q] at e; exact e
  grow := fun a u e => by rw [upd_ne (ne_of_none (h a u e) hp)]; exact e
  sub := fun a u e => by
    by_cases q : a = p
    · subst q; rw [upd_same] at e ⊢; exact e
    · rw [upd_ne q] at e ⊢; exact h a u e
  new := fun a h1 h2 => by
    by_cases q : a = p
    · rw [q]; exact hp
    · rw [upd_ne q] at h1; exact absurd h2 h1
  ta := Tle.refl τ
  tn := fun p h1 h2 => by rw [h1] at h2; cases h2
/-- a new object is laid and not frozen -/
theorem Ext.fresh {p : Addr} {o : HO} (h : Same F H) (hp : H p = none) : Ext F H τ F (upd H p o) τ where
  keep := fun a u e _ => by rw [upd_ne (ne_of_none e hp)]; exact e
  there := fun a e => by
    by_cases q : a = p
    · rw [q]; exact hp
    · rw [upd_ne q] at e; exact e
  grow := Same.refl F
  sub := fun a u e => by rw [upd_ne (ne_of_none (h a u e) hp)]; exact h a u e
  new := fun a h1 h2 => absurd h2 h1
  ta := Tle.refl τ
  tn := fun p h1 h2 => by rw [h1] at h2; cases h2
theorem TapeAt.laid {p : Addr} {o : HO} (h : TapeAt F H τ T) (hp : H p = none) : TapeAt (upd F p o) (upd H p o) τ T := by
  match τ, T, h with
  | none, none, _ => trivial
  | some (a, b), some (cells, seed), ⟨h1, h2, h3, h4, h5⟩ =>
    have na : a ≠ p := ne_of_none h1 hp
    have nb : b ≠ p := ne_of_none h2 hp
    exact ⟨by rw [upd_ne na]; exact h1, by rw [upd_ne nb]; exact h2, h3, by rw [upd_ne na]; exact h4, by rw [upd_ne nb]; exact h5⟩
theorem TapeAt.fresh {p : Addr} {o : HO} (h : TapeAt F H τ T) (hp : H p = none) : TapeAt F (upd H p o) τ T := by
  match τ, T, h with
  | none, none, _ => trivial
  | some (a, b), some (cells, seed), ⟨h1, h2, h3, h4, h5⟩ =>
    have na : a ≠ p := ne_of_none h1 hp
    have nb : b ≠ p := ne_of_none h2 hp
    exact ⟨by rw [upd_ne na]; exact h1, by rw [upd_ne nb]; exact h2, h3, h4, h5⟩
/-- the slots are as they were -/
theorem St.ext (S : St B H0 F τ σ s H T) (e : Ext F H τ F' H' τ') (t : TapeAt F' H' τ' T') : St B H0 F' τ' σ s H' T' where
  sub := e.sub
  tape := t
  slot := fun i sv h => by
    obtain ⟨v, hv, r⟩ := S.slot i sv h
    refine ⟨v, hv, ?_⟩
    cases sv with
    | val d => exact Rp.mono e.grow e.ta r
    | own ds =>
      obtain ⟨p, vs, e1, e2, e3, e4, e5, e6⟩ := r
      refine ⟨p, vs, e1, e.keep p _ e2 e5, RpL.mono e.grow e.ta e3, ?_, fun q hq => ?_, e6⟩
      · cases z : F' p with
        | none => rfl
        | some o =>
          have := e.new p (by rw [z]; simp) e4
          rw [e2] at this; cases this
      · cases z : τ with
        | some q' =>
          have := e.ta q' z
          rw [hq] at this; cases this
          exact e5 q z
        | none =>
          obtain ⟨h1, h2⟩ := e.tn q z hq
          exact ⟨ne_of_none e2 h1, ne_of_none e2 h2⟩
  dist := S.dist
  len := S.len
theorem St.laid {p : Addr} {o : HO} (S : St B H0 F τ σ s H T) (hp : H p = none) : St B H0 (upd F p o) τ σ s (upd H p o) T := S.ext (.laid S.sub hp) (S.tape.laid hp)
theorem St.fresh {p : Addr} {o : HO} (S : St B H0 F τ σ s H T) (hp : H p = none) : St B H0 F τ σ s (upd H p o) T := S.ext (.fresh S.sub hp) (S.tape.fresh hp)
end
end Pu

/-! Pu2: the small language and its meaning over trees. -/
namespace Pu
open PySem PySem.Spec PyProof.Rows L2

inductive Op2 where
  | add | sub | mul | fdiv | mod | pow
inductive Cm where
  | eq | ne | lt | le | gt | ge | isN | notN | inn | notIn
inductive Ty where
  | int | bool | tuple | list | str
inductive Pr where
  | len | abs | int | all | any | sum | max1 | min1 | max2 | min2 | tuple | list
inductive P where
  | name (i : Nat)
  | tup (ps : List P)
/-- what is read of the tape -/
inductive TpE where
  | cell | seed | head | len
mutual
inductive E where
  | slot (i : Nat)
  | peek (i : Nat)
  | non
  | bl (b : Bool)
  | int (i : Int)
  | str (x : Str)
  | const (x : Str)
  | fn (x : Str)
  | tup (es : Es)
  | lst (es : Es)
  | neg (e : E)
  | nott (e : E)
  | bin (o : Op2) (a b : E)
  | cmp (c : Cm) (a b : E)
  | chain (c c' : Cm) (a b d : E)
  | andd (es : Es)
  | orr (es : Es)
  | ite (c a b : E)
  | call (f : Str) (es : Es)
  | callv (i : Nat) (es : Es)
  | prim (p : Pr) (es : Es)
  | isi (e : E) (tys : List Ty)
  | idx (a b : E)
  | slc (a : E) (lo hi : Oe)
  | rev (a : E)
  | tp (q : TpE) (i : Nat)
  | comp (elt : E) (tg : P) (src : I) (cond : Oe)
inductive Es where
  | nil
  | cons (e : E) (r : Es)
inductive Oe where
  | none
  | some (e : E)
inductive I where
  | seq (e : E)
  | range1 (e : E)
  | range2 (a b : E)
  | zip (a b : E)
  | enum (a : E)
end

/-! ### what the operations do -/
mutual
def okD : D → Bool
  | .non => true
  | .bl _ => true
  | .int _ => true
  | .str x => PyData.strOk x
  | .tup xs => okDs xs
  | .lst xs => okDs xs
  | .fn _ => false
  | .tape => false
  | .cells => false
  | .scr _ => false
def okDs : List D → Bool
  | [] => true
  | x :: xs => okD x && okDs xs
end
mutual
def depD : D → Nat
  | .tup xs => depDs xs + 1
  | .lst xs => depDs xs + 1
  | _ => 0
def depDs : List D → Nat
  | [] => 0
  | x :: xs => max (depD x) (depDs xs)
end
mutual
/-- == -/
def eqD : D → D → Bool
  | .non, .non => true
  | .bl a, .bl b => a == b
  | .bl a, .int j => (if a then 1 else 0) == j
  | .int i, .bl b => i == (if b then 1 else 0)
  | .int i, .int j => i == j
  | .str x, .str y => x == y
  | .tup xs, .tup ys => eqDs xs ys
  | .lst xs, .lst ys => eqDs xs ys
  | _, _ => false
def eqDs : List D → List D → Bool
  | [], [] => true
  | x :: xs, y :: ys => eqD x y && eqDs xs ys
  | _, _ => false
end
def mulOk (i j : Int) : Prop := IntMulOk i j
instance (i j : Int) : Decidable (mulOk i j) := by unfold mulOk IntMulOk; exact inferInstance
def divOk (i j : Int) : Bool := decide (j ≠ 0) && !(Builtin.divisionGoesByPylong i j)

/-- the whole numbers of a row -/
def intsD : List D → Option (List Int)
  | [] => some []
  | .int i :: r => (intsD r).map (i :: ·)
  | _ => none
def boolsD : List D → Option (List Bool)
  | [] => some []
  | .bl b :: r => (boolsD r).map (b :: ·)
  | _ => none
def ofOpt {α : Type} : Option α → M α
  | some a => pure a
  | none => stuck
def guardD {α : Type} (c : Prop) [Decidable c] (m : M α) : M α := if c then m else stuck

def binD : Op2 → D → D → M D
  | .add, .int i, .int j => pure (.int (i + j))
  | .add, .tup xs, .tup ys => guardD (xs.length + ys.length ≤ sizeLine) (pure (.tup (xs ++ ys)))
  | .add, .lst xs, .lst ys => guardD (xs.length + ys.length ≤ sizeLine) (pure (.lst (xs ++ ys)))
  | .add, .str x, .str y => guardD (x.length + y.length ≤ sizeLine) (pure (.str (x ++ y)))
  | .sub, .int i, .int j => pure (.int (i - j))
  | .mul, .int i, .int j => guardD (mulOk i j) (pure (.int (i * j)))
  | .mul, .tup xs, .int k => guardD (-(2 ^ 63) ≤ k ∧ k < 2 ^ 63 ∧ xs.length * k.toNat ≤ sizeLine) (pure (.tup (List.replicate k.toNat xs).flatten))
  | .mul, .lst xs, .int k => guardD (-(2 ^ 63) ≤ k ∧ k < 2 ^ 63 ∧ xs.length * k.toNat ≤ sizeLine) (pure (.lst (List.replicate k.toNat xs).flatten))
  | .fdiv, .int i, .int j => guardD (divOk i j = true) (pure (.int (i.fdiv j)))
  | .mod, .int i, .int j => guardD (j ≠ 0) (pure (.int (i.fmod j)))
  | _, _, _ => stuck
def lexI : List Int → List Int → Bool := HT.lexLt
def isNon : D → Bool
  | .non => true
  | _ => false
def cmpD : Cm → D → D → M D
  | .eq, a, b => guardD (okD a = true ∧ okD b = true ∧ depD a ≤ 60) (pure (.bl (eqD a b)))
  | .ne, a, b => guardD (okD a = true ∧ okD b = true ∧ depD a ≤ 60) (pure (.bl (!eqD a b)))
  | .lt, .int i, .int j => pure (.bl (decide (i < j)))
  | .le, .int i, .int j => pure (.bl (decide (i ≤ j)))
  | .gt, .int i, .int j => pure (.bl (decide (j < i)))
  | .ge, .int i, .int j => pure (.bl (decide (j ≤ i)))
  | .isN, a, .non => pure (.bl (isNon a))
  | .notN, a, .non => pure (.bl (!isNon a))
  | _, _, _ => stuck
/-- the items of a list or a tuple -/
def seqD : D → Option (List D)
  | .tup xs => some xs
  | .lst xs => some xs
  | .scr ns => some (ns.map D.int)
  | _ => none
def truD : D → M Bool
  | .non => pure false
  | .bl b => pure b
  | .int i => pure (i != 0)
  | .tup xs => pure (!xs.isEmpty)
  | .lst xs => pure (!xs.isEmpty)
  | _ => stuck
def boolD : D → M Bool
  | .bl b => pure b
  | _ => stuck
def intD : D → M Int
  | .int i => pure i
  | _ => stuck
def lenD : List D → M D
  | [.tup xs] => pure (.int xs.length)
  | [.lst xs] => pure (.int xs.length)
  | _ => stuck
def absD : List D → M D
  | [.int i] => pure (.int (if i < 0 then -i else i))
  | _ => stuck
def intF : List D → M D
  | [.int i] => pure (.int i)
  | [.bl b] => pure (.int (if b then 1 else 0))
  | _ => stuck
def allD : List D → M D
  | [.lst xs] => do let bs ← ofOpt (boolsD xs); pure (.bl (bs.all id))
  | _ => stuck
def anyD : List D → M D
  | [.lst xs] => do let bs ← ofOpt (boolsD xs); pure (.bl (bs.any id))
  | _ => stuck
def sumD : List D → M D
  | [.lst xs] => do let ns ← ofOpt (intsD xs); pure (.int ns.sum)
  | [.tup xs] => do let ns ← ofOpt (intsD xs); pure (.int ns.sum)
  | _ => stuck
def max2D : List D → M D
  | [.int i, .int j] => pure (.int (if j > i then j else i))
  | _ => stuck
def min2D : List D → M D
  | [.int i, .int j] => pure (.int (if j < i then j else i))
  | _ => stuck
def tupleD : List D → M D
  | [.lst xs] => pure (.tup xs)
  | [.tup xs] => pure (.tup xs)
  | _ => stuck
def listD : List D → M D
  | [.lst xs] => pure (.lst xs)
  | [.tup xs] => pure (.lst xs)
  | _ => stuck
def primD : Pr → List D → M D
  | .len => lenD
  | .abs => absD
  | .int => intF
  | .all => allD
  | .any => anyD
  | .sum => sumD
  | .max1 => fun _ => stuck
  | .min1 => fun _ => stuck
  | .max2 => max2D
  | .min2 => min2D
  | .tuple => tupleD
  | .list => listD
def isTy : D → Ty → Option Bool
  | .non, _ => some false
  | .bl _, .bool => some true
  | .bl _, .int => some true
  | .bl _, _ => some false
  | .int _, .int => some true
  | .int _, _ => some false
  | .str _, .str => some true
  | .str _, _ => some false
  | .tup _, .tuple => some true
  | .tup _, _ => some false
  | .lst _, .list => some true
  | .lst _, _ => some false
  | _, _ => none
def isTys (d : D) : List Ty → Option Bool
  | [] => some false
  | t :: r => match isTy d t with
    | some true => some true
    | some false => isTys d r
    | none => none
def idxD : D → D → M D
  | .tup xs, .int i => ofOpt (atI xs i)
  | .lst xs, .int i => ofOpt (atI xs i)
  | _, _ => stuck
def cutD (xs : List D) (lo hi : Option Int) : List D := (xs.drop (HT.sIx xs.length 0 lo)).take (HT.sIx xs.length xs.length hi - HT.sIx xs.length 0 lo)
def slcD : D → Option Int → Option Int → M D
  | .tup xs, lo, hi => pure (.tup (cutD xs lo hi))
  | .lst xs, lo, hi => pure (.lst (cutD xs lo hi))
  | _, _, _ => stuck
def revD : D → M D
  | .tup xs => pure (.tup xs.reverse)
  | .lst xs => pure (.lst xs.reverse)
  | _ => stuck

def tpD : TpE → D → M D
  | .cell, .tape => pure .cells
  | .seed, .tape => fun T => match T with
    | some (c, s) => .ok (.int s) (some (c, s))
    | none => .stuck
  | .head, .cells => fun T => match T with
    | some (n :: c, s) => .ok (.int n) (some (n :: c, s))
    | _ => .stuck
  | .len, .cells => fun T => match T with
    | some (c, s) => .ok (.int c.length) (some (c, s))
    | none => .stuck
  | _, _ => stuck
/-- .. written -/
def tputD : TpE → D → Int → M Unit
  | .seed, .tape, i => fun T => match T with
    | some (c, _) => .ok () (some (c, i))
    | none => .stuck
  | .head, .cells, i => fun T => match T with
    | some (_ :: c, s) => .ok () (some (i :: c, s))
    | _ => .stuck
  | _, _, _ => stuck
def tpopD : D → M Unit
  | .cells => fun T => match T with
    | some (_ :: c, s) => .ok () (some (c, s))
    | _ => .stuck
  | _ => stuck
/-- the tape is made -/
def tnewD : D → D → M Unit
  | .lst xs, .int s => fun T => match T, intsD xs with
    | none, some ns => .ok () (some (ns, s))
    | _, _ => .stuck
  | _, _ => stuck

/-! ### slots -/
mutual
def P.slots : P → List Nat
  | .name i => [i]
  | .tup ps => P.slotss ps
def P.slotss : List P → List Nat
  | [] => []
  | p :: ps => p.slots ++ P.slotss ps
end
mutual
/-- a target takes a value -/
def bindP : P → D → Env → M Env
  | .name i, d, σ => pure (σ.set i (some (.val d)))
  | .tup ps, .tup ds, σ => if ps.length = ds.length then bindPs ps ds σ else stuck
  | .tup _, _, _ => stuck
def bindPs : List P → List D → Env → M Env
  | [], [], σ => pure σ
  | p :: ps, d :: ds, σ => do let σ' ← bindP p d σ; bindPs ps ds σ'
  | _, _, _ => stuck
end
def wipeE (σ : Env) : List Nat → Env
  | [] => σ
  | v :: vs => (wipeE σ vs).set v none
/-- the list of a comprehension -/
def compM (f : D → M (Option D)) : List D → List D → M (List D)
  | [], acc => pure acc
  | x :: xs, acc => do
    match ← f x with
    | some y => if acc.length < sizeLine then compM f xs (acc ++ [y]) else stuck
    | none => compM f xs acc
def rangeL (lo : Int) (n : Nat) : List D := (List.range n).map fun (i : Nat) => D.int (lo + (i : Int))
def zipL : List D → List D → List D
  | x :: xs, y :: ys => .tup [x, y] :: zipL xs ys
  | _, _ => []
def enumL (i : Int) : List D → List D
  | [] => []
  | x :: xs => .tup [.int i, x] :: enumL (i + 1) xs

abbrev Gm := Str → List D → M D
structure Gam where
  call : Gm
  const : Str → Option D
  isFn : Str → Bool
/-- an expression's meaning as a value and as a test -/
structure EvP where
  v : Env → M D
  t : Env → M Bool
def EvP.of (v : Env → M D) : EvP := ⟨v, fun σ => v σ >>= truD⟩
mutual
def ev (G : Gam) : E → EvP
  | .slot i => .of fun σ => match σ[i]? with
    | some (some (.val d)) => pure d
    | _ => stuck
  | .peek i => .of fun σ => match σ[i]? with
    | some (some sv) => pure sv.d
    | _ => stuck
  | .non => .of fun _ => pure .non
  | .bl b => .of fun _ => pure (.bl b)
  | .int i => .of fun _ => pure (.int i)
  | .str x => .of fun _ => pure (.str x)
  | .const x => .of fun _ => ofOpt (G.const x)
  | .fn x => .of fun _ => if G.isFn x = true then pure (.fn x) else stuck
  | .tup es => .of fun σ => do let ds ← evalEs G es σ; guardD (ds.length ≤ sizeLine) (pure (.tup ds))
  | .lst es => .of fun σ => do let ds ← evalEs G es σ; guardD (ds.length ≤ sizeLine) (pure (.lst ds))
  | .neg e => .of fun σ => do let i ← ((ev G e).v σ >>= intD); pure (.int (-i))
  | .nott e => ⟨fun σ => do let b ← ((ev G e).v σ >>= boolD); pure (.bl (!b)), fun σ => do let b ← (ev G e).t σ; pure (!b)⟩
  | .bin o a b => .of fun σ => do let x ← (ev G a).v σ; let y ← (ev G b).v σ; binD o x y
  | .cmp c a b => ⟨fun σ => do let x ← (ev G a).v σ; let y ← (ev G b).v σ; cmpD c x y, fun σ => do let x ← (ev G a).v σ; let y ← (ev G b).v σ; cmpD c x y >>= boolD⟩
  | .chain c c' a b d =>
    let v : Env → M D := fun σ => do
      let x ← (ev G a).v σ
      let y ← (ev G b).v σ
      let r ← (cmpD c x y >>= boolD)
      if r = true then do let z ← (ev G d).v σ; cmpD c' y z else pure (.bl false)
    ⟨v, fun σ => v σ >>= boolD⟩
  | .andd es => ⟨evalAndV G es, evalAndT G es⟩
  | .orr es => ⟨evalOrV G es, evalOrT G es⟩
  | .ite c a b => .of fun σ => do if (← (ev G c).t σ) = true then (ev G a).v σ else (ev G b).v σ
  | .call f es => .of fun σ => do let ds ← evalEs G es σ; G.call f ds
  | .callv i es => .of fun σ => match σ[i]? with
    | some (some (.val (.fn f))) => do let ds ← evalEs G es σ; G.call f ds
    | _ => stuck
  | .prim p es => .of fun σ => do let ds ← evalEs G es σ; primD p ds
  | .isi e tys => .of fun σ => do let d ← (ev G e).v σ; let b ← ofOpt (isTys d tys); pure (.bl b)
  | .idx a b => .of fun σ => do let x ← (ev G a).v σ; let y ← (ev G b).v σ; idxD x y
  | .slc a lo hi => .of fun σ => do let x ← (ev G a).v σ; let l ← evalO G lo σ; let h ← evalO G hi σ; slcD x l h
  | .rev a => .of fun σ => do let x ← (ev G a).v σ; revD x
  | .tp q i => .of fun σ => match σ[i]? with
    | some (some (.val d)) => tpD q d
    | _ => stuck
  | .comp elt tg src cond => .of fun σ => do
    let items ← evalI G src σ
    let ys ← noExc (compM (fun x => do
      let σ' ← bindP tg x (wipeE σ tg.slots)
      if (← evalC G cond σ') = true then do let y ← (ev G elt).v σ'; pure (some y) else pure none) items [])
    pure (.lst ys)
def evalEs (G : Gam) : Es → Env → M (List D)
  | .nil, _ => pure []
  | .cons e r, σ => do let d ← (ev G e).v σ; let ds ← evalEs G r σ; pure (d :: ds)
def evalO (G : Gam) : Oe → Env → M (Option Int)
  | .none, _ => pure none
  | .some e, σ => do let i ← ((ev G e).v σ >>= intD); pure (some i)
def evalC (G : Gam) : Oe → Env → M Bool
  | .none, _ => pure true
  | .some e, σ => (ev G e).t σ
def evalI (G : Gam) : I → Env → M (List D)
  | .seq e, σ => do let d ← (ev G e).v σ; ofOpt (seqD d)
  | .range1 e, σ => do let j ← ((ev G e).v σ >>= intD); guardD (-(2 ^ 62) ≤ j ∧ j < 2 ^ 62) (pure (rangeL 0 j.toNat))
  | .range2 a b, σ => do
    let i ← ((ev G a).v σ >>= intD)
    let j ← ((ev G b).v σ >>= intD)
    guardD (-(2 ^ 62) ≤ i ∧ i < 2 ^ 62 ∧ -(2 ^ 62) ≤ j ∧ j < 2 ^ 62) (pure (rangeL i (j - i).toNat))
  | .zip a b, σ => do
    let x ← (ev G a).v σ
    let y ← (ev G b).v σ
    match x, y with
    | .lst xs, .lst ys => pure (zipL xs ys)
    | .tup xs, .tup ys => pure (zipL xs ys)
    | _, _ => stuck
  | .enum a, σ => do
    let d ← (ev G a).v σ
    match d with
    | .lst xs => pure (enumL 0 xs)
    | _ => stuck
/-- and, or of values that are bools but for the last one -/
def evalAndV (G : Gam) : Es → Env → M D
  | .nil, _ => stuck
  | .cons e .nil, σ => (ev G e).v σ
  | .cons e r, σ => do if (← ((ev G e).v σ >>= boolD)) = true then evalAndV G r σ else pure (.bl false)
def evalOrV (G : Gam) : Es → Env → M D
  | .nil, _ => stuck
  | .cons e .nil, σ => (ev G e).v σ
  | .cons e r, σ => do if (← ((ev G e).v σ >>= boolD)) = true then pure (.bl true) else evalOrV G r σ
def evalAndT (G : Gam) : Es → Env → M Bool
  | .nil, _ => pure true
  | .cons e r, σ => do if (← (ev G e).t σ) = true then evalAndT G r σ else pure false
def evalOrT (G : Gam) : Es → Env → M Bool
  | .nil, _ => pure false
  | .cons e r, σ => do if (← (ev G e).t σ) = true then pure true else evalOrT G r σ
end
abbrev evalE (G : Gam) (e : E) (σ : Env) : M D := (ev G e).v σ
abbrev evalT (G : Gam) (e : E) (σ : Env) : M Bool := (ev G e).t σ

/-! ### statements -/
/-- what a handler hands back -/
inductive Lf where
  | non
  | bl (b : Bool)
  | str (x : Str)
def Lf.d : Lf → D
  | .non => .non
  | .bl b => .bl b
  | .str x => .str x
mutual
inductive S where
  | set (p : P) (e : E)
  | setOwn (i : Nat) (e : E)
  | setPar (is : List Nat) (es : Es)
  | setIx (i : Nat) (ix e : E)
  | aug (i : Nat) (o : Op2) (e : E)
  | app (i : Nat) (e : E)
  | ext (i : Nat) (e : E)
  | expr (e : E)
  | iff (c : E) (a b : Ss)
  | forr (tg : P) (src : I) (body : Ss)
  | whil (c : E) (body : Ss)
  | ret (e : E)
  | raise (c : Str)
  | tryy (body : Ss) (hs : List (Str × Lf))
  | brk
  | cont
  | pass
  | tpop (i : Nat)
  | tput (q : TpE) (i : Nat) (e : E)
  | tnew (a b : E)
inductive Ss where
  | nil
  | cons (s : S) (r : Ss)
  | freeze (i : Nat) (r : Ss)
  | wipe (is : List Nat) (r : Ss)
end
inductive Fl where
  | next (σ : Env)
  | brk (σ : Env)
  | cont (σ : Env)
  | ret (d : D)
def forM (tg : P) (body : Env → M Fl) : List D → Env → M Fl
  | [], σ => pure (.next σ)
  | x :: xs, σ => do
    let σ' ← bindP tg x σ
    match ← body σ' with
    | .next σ2 => forM tg body xs σ2
    | .cont σ2 => forM tg body xs σ2
    | .brk σ2 => pure (.next σ2)
    | .ret d => pure (.ret d)
def whileM (c : Env → M Bool) (body : Env → M Fl) : Nat → Env → M Fl
  | 0, _ => stuck
  | n + 1, σ => do
    if (← c σ) = true then
      match ← body σ with
      | .next σ2 => whileM c body n σ2
      | .cont σ2 => whileM c body n σ2
      | .brk σ2 => pure (.next σ2)
      | .ret d => pure (.ret d)
    else pure (.next σ)
/-- more turns than any loop takes -/
@[irreducible] def FU : Nat := 2 ^ 200000
def setsE (σ : Env) : List Nat → List D → Env
  | i :: is, d :: ds => setsE (σ.set i (some (.val d))) is ds
  | _, _ => σ
def freezeE (σ : Env) (i : Nat) : Env := match σ[i]? with
  | some (some (.own xs)) => σ.set i (some (.val (.lst xs)))
  | _ => σ
/-- the known error classes, and which clause takes which -/
structure Sub where
  ex : Str → Bool
  sub : Str → Str → Bool
def handle (U : Sub) (c : Str) : List (Str × Lf) → M Fl
  | [] => throwD c
  | (x, v) :: r => if U.sub c x = true then pure (.ret v.d) else handle U c r
def tryM (U : Sub) (hs : List (Str × Lf)) (m : M Fl) : M Fl := fun t => match m t with
  | .exc c t' => if U.ex c = true then handle U c hs t' else .stuck
  | r => r
/-- a op= b -/
def augD : Op2 → D → D → M D
  | o, .int i, .int j => binD o (.int i) (.int j)
  | _, _, _ => stuck
mutual
def exS (G : Gam) (U : Sub) : S → Env → M Fl
  | .set p e, σ => do let d ← evalE G e σ; let σ' ← bindP p d σ; pure (.next σ')
  | .setOwn i e, σ => do
    match ← evalE G e σ with
    | .lst xs => pure (.next (σ.set i (some (.own xs))))
    | _ => stuck
  | .setPar is es, σ => do let ds ← evalEs G es σ; if is.length = ds.length then pure (.next (setsE σ is ds)) else stuck
  | .setIx i ix e, σ => match σ[i]? with
    | some (some (.own xs)) => do
      let d ← evalE G e σ
      let k ← (evalE G ix σ >>= intD)
      match ixN xs.length k with
      | some j => pure (.next (σ.set i (some (.own (xs.set j d)))))
      | none => stuck
    | _ => stuck
  | .aug i o e, σ => match σ[i]? with
    | some (some (.val x)) => do let y ← evalE G e σ; let z ← augD o x y; pure (.next (σ.set i (some (.val z))))
    | _ => stuck
  | .app i e, σ => match σ[i]? with
    | some (some (.own xs)) => do
      let d ← evalE G e σ
      if xs.length < sizeLine then pure (.next (σ.set i (some (.own (xs ++ [d]))))) else stuck
    | _ => stuck
  | .ext i e, σ => match σ[i]? with
    | some (some (.own xs)) => do
      let d ← evalE G e σ
      match d with
      | .lst ys => if xs.length + ys.length ≤ sizeLine then pure (.next (σ.set i (some (.own (xs ++ ys))))) else stuck
      | _ => stuck
    | _ => stuck
  | .expr e, σ => do let _ ← evalE G e σ; pure (.next σ)
  | .iff c a b, σ => do if (← evalT G c σ) = true then exSs G U a σ else exSs G U b σ
  | .forr tg src body, σ => do let items ← evalI G src σ; forM tg (exSs G U body) items σ
  | .whil c body, σ => whileM (evalT G c) (exSs G U body) FU σ
  | .ret e, σ => do let d ← evalE G e σ; pure (.ret d)
  | .raise c, _ => throwD c
  | .tryy body hs, σ => tryM U hs (exSs G U body σ)
  | .brk, σ => pure (.brk σ)
  | .cont, σ => pure (.cont σ)
  | .pass, σ => pure (.next σ)
  | .tpop i, σ => match σ[i]? with
    | some (some (.val d)) => do tpopD d; pure (.next σ)
    | _ => stuck
  | .tput q i e, σ => match σ[i]? with
    | some (some (.val d)) => do let n ← (evalE G e σ >>= intD); tputD q d n; pure (.next σ)
    | _ => stuck
  | .tnew a b, σ => do
    match ← evalE G a σ with
    | .lst xs => do let y ← evalE G b σ; tnewD (.lst xs) y; pure (.ret .tape)
    | _ => stuck
def exSs (G : Gam) (U : Sub) : Ss → Env → M Fl
  | .nil, σ => pure (.next σ)
  | .cons s r, σ => do
    match ← exS G U s σ with
    | .next σ' => exSs G U r σ'
    | .brk σ' => pure (.brk σ')
    | .cont σ' => pure (.cont σ')
    | .ret d => pure (.ret d)
  | .freeze i r, σ => exSs G U r (freezeE σ i)
  | .wipe is r, σ => exSs G U r (wipeE σ is)
end
/-- a def: its slots (the parameters first), how many parameters, its body -/
structure Df where
  names : List Str
  arity : Nat
  body : Ss
def runDf (G : Gam) (U : Sub) (f : Df) (ds : List D) : M D := do
  if ds.length = f.arity ∧ f.arity ≤ f.names.length then
    match ← exSs G U f.body (ds.map (fun d => some (.val d)) ++ List.replicate (f.names.length - ds.length) none) with
    | .next _ => pure .non
    | .ret d => pure d
    | _ => stuck
  else stuck
/-- a text: its defs, its constants, which defs may be handed on as values, and the defs that are not of this language -/
structure Tx where
  defs : List (Str × Df)
  prims : Gm
  consts : Str → Option D
  isFn : Str → Bool
  sub : Sub
def lookD (x : Str) : List (Str × Df) → Option Df
  | [] => none
  | (y, d) :: r => if y = x then some d else lookD x r
/-- a call, of a depth below k -/
def callF (X : Tx) : Nat → Gm
  | 0, _, _ => stuck
  | k + 1, f, ds => match lookD f X.defs with
    | some d => runDf ⟨callF X k, X.consts, X.isFn⟩ X.sub d ds
    | none => X.prims f ds
end Pu

/-! Pu3: the readings of the hand layer, by the meaning over trees. -/
namespace Pu
open PySem PySem.Spec PyProof.Rows L2

/-- a tree lies at a value, or it is the def's own list -/
def RpX (B : Tab) (F : Hp) (τ : Ta) (H : Hp) (v : V) (d : D) : Prop :=
  Rp B F τ v d ∨ ∃ (ds : List D) (p : Addr) (vs : List V), d = .lst ds ∧ v = .ref p ∧ H p = some (.lst vs) ∧ RpL B F τ vs ds ∧ ∀ q, τ = some q → p ≠ q.1 ∧ p ≠ q.2
def Rq (B : Tab) (l : Bool) (F : Hp) (τ : Ta) (H : Hp) (v : V) (d : D) : Prop := match l with
  | false => Rp B F τ v d
  | true => RpX B F τ H v d
section
variable {B : Tab} {H0 F F' F'' H H' H'' : Hp} {τ τ' τ'' : Ta} {σ : Env} {s : L2.St} {T T' : Tp} {l : Bool} {v : V} {d : D}
theorem RpX.mono (e : Ext F H τ F' H' τ') (h : RpX B F τ H v d) : RpX B F' τ' H' v d := by
  rcases h with h | ⟨ds, p, vs, e1, e2, e3, e4, e5⟩
  · exact .inl (Rp.mono e.grow e.ta h)
  · refine .inr ⟨ds, p, vs, e1, e2, e.keep p _ e3 e5, RpL.mono e.grow e.ta e4, fun q hq => ?_⟩
    cases z : τ with
    | some q' =>
      have := e.ta q' z
      rw [hq] at this; cases this
      exact e5 q z
    | none =>
      obtain ⟨h1, h2⟩ := e.tn q z hq
      exact ⟨ne_of_none e3 h1, ne_of_none e3 h2⟩
theorem Rq.mono (e : Ext F H τ F' H' τ') (h : Rq B l F τ H v d) : Rq B l F' τ' H' v d := by
  cases l with
  | false => exact Rp.mono e.grow e.ta h
  | true => exact RpX.mono e h
theorem Rq.of (h : Rp B F τ v d) : Rq B l F τ H v d := by
  cases l with
  | false => exact h
  | true => exact .inl h
theorem Rq.x (h : Rq B l F τ H v d) : RpX B F τ H v d := by
  cases l with
  | false => exact .inl h
  | true => exact h
/-- scalars have one place -/
theorem RpX.int {i : Int} (h : RpX B F τ H v (.int i)) : v = .int i := by
  rcases h with h | ⟨_, _, _, e, _⟩
  · cases h; rfl
  · cases e
theorem RpX.bl {b : Bool} (h : RpX B F τ H v (.bl b)) : v = .bl b := by
  rcases h with h | ⟨_, _, _, e, _⟩
  · cases h; rfl
  · cases e
theorem RpX.str {x : Str} (h : RpX B F τ H v (.str x)) : v = .str x := by
  rcases h with h | ⟨_, _, _, e, _⟩
  · cases h; rfl
  · cases e
theorem RpX.non (h : RpX B F τ H v .non) : v = .non := by
  rcases h with h | ⟨_, _, _, e, _⟩
  · cases h; rfl
  · cases e
theorem RpX.tup {ds : List D} (h : RpX B F τ H v (.tup ds)) : ∃ a vs, v = .ref a ∧ SqT B.K F a vs ∧ RpL B F τ vs ds := by
  rcases h with h | ⟨_, _, _, e, _⟩
  · cases h with | tup h r => exact ⟨_, _, rfl, h, r⟩
  · cases e
theorem RpX.lst {ds : List D} (sub : Same F H) (h : RpX B F τ H v (.lst ds)) : ∃ a vs, v = .ref a ∧ Rd H a (.lst vs) ∧ RpL B F τ vs ds := by
  rcases h with h | ⟨_, p, vs, e, e2, e3, e4, _⟩
  · cases h with | lst h r => exact ⟨_, _, rfl, rd_mono sub h, r⟩
  · cases e; exact ⟨p, vs, e2, .inl e3, e4⟩
end

/-! ### wishes behind an expression -/
def lstD : D → M D
  | .lst xs => pure (.lst xs)
  | _ => stuck
section
variable (B : Tab) (W : WX) (l : Bool)
def QD (F H : Hp) (τ : Ta) (Q : VK) (d : D) (T' : Tp) : Prop := ∀ v H' F' τ', Ext F H τ F' H' τ' → TapeAt F' H' τ' T' → Rq B l F' τ' H' v d → Q v H'
def QE (s : L2.St) (F H : Hp) (τ : Ta) (c : Str) (T' : Tp) : Prop := ∀ H' F' τ', Ext F H τ F' H' τ' → TapeAt F' H' τ' T' → W (.ref (B.ex c)) none s H'
def QB (F H : Hp) (τ : Ta) (Q : Bool → Hp → Prop) (b : Bool) (T' : Tp) : Prop := ∀ H' F' τ', Ext F H τ F' H' τ' → TapeAt F' H' τ' T' → Q b H'
def QL (F H : Hp) (τ : Ta) (Q : List V → Hp → Prop) (ds : List D) (T' : Tp) : Prop := ∀ vs H' F' τ', Ext F H τ F' H' τ' → TapeAt F' H' τ' T' → Paired (Rq B l F' τ' H') vs ds → Q vs H'
/-- a new list that nobody else holds -/
def QN (F H : Hp) (τ : Ta) (Q : VK) (d : D) (T' : Tp) : Prop := ∃ ds, d = .lst ds ∧ ∀ vs p H' F' τ', Ext F H τ F' H' τ' → TapeAt F' H' τ' T' → RpL B F' τ' vs ds → H' p = none → Q (.ref p) (upd H' p (.lst vs))
/-- what is carried along -/
structure Carry where
  f : Hp → Ta → Hp → Prop
  mono : ∀ {F H τ F' H' τ'}, Ext F H τ F' H' τ' → f F τ H → f F' τ' H'
def Carry.nil : Carry := ⟨fun _ _ _ => True, fun _ h => h⟩
def Carry.cons (c : Carry) (v : V) (d : D) : Carry := ⟨fun F τ H => Rq B l F τ H v d ∧ c.f F τ H, fun e h => ⟨Rq.mono e h.1, c.mono e h.2⟩⟩
/-- a state of which something is carried, and a computation from there that ends well -/
def tR {α : Type} (H0 : Hp) (c : Carry) (k : Env → M α) (s : L2.St) (H : Hp) (Q : Hp → Hp → Ta → α → Tp → Prop) : Prop :=
  ∃ F τ σ T, St B H0 F τ σ s H T ∧ c.f F τ H ∧ (k σ T).is (Q F H τ) (QE B W s F H τ)
end
def tD (B : Tab) (W : WX) (H0 : Hp) (l : Bool) (k : Env → M D) : TE := fun s H Q => tR B W H0 .nil k s H fun F H τ => QD B l F H τ Q
def tN (B : Tab) (W : WX) (H0 : Hp) (k : Env → M D) : TE := fun s H Q => tR B W H0 .nil k s H fun F H τ => QN B F H τ Q
def tB (B : Tab) (W : WX) (H0 : Hp) (k : Env → M Bool) : TT := fun s H Q => tR B W H0 .nil k s H fun F H τ => QB F H τ Q
def tL (B : Tab) (W : WX) (H0 : Hp) (l : Bool) (k : Env → M (List D)) : TA := fun s H Q => tR B W H0 .nil k s H fun F H τ => QL B l F H τ Q

section
variable {B : Tab} {W : WX} {l l' : Bool} {H0 F F' F'' H H' H'' : Hp} {τ τ' τ'' : Ta} {σ : Env} {s : L2.St} {T T' : Tp} {α : Type} {c : Carry}
theorem QE.shift {x : Str} (e : Ext F H τ F' H' τ') (h : QE B W s F H τ x T) : QE B W s F' H' τ' x T := fun _ _ _ e' t => h _ _ _ (e.trans e') t
/-- wishes that look forward -/
structure Fwd {α : Type} (Q : Hp → Hp → Ta → α → Tp → Prop) : Prop where
  run : ∀ {F H τ F' H' τ' a T}, Ext F H τ F' H' τ' → Q F H τ a T → Q F' H' τ' a T
theorem fwd_D {Q : VK} : Fwd (fun F H τ => QD B l F H τ Q) := ⟨fun e h _ _ _ _ e' t r => h _ _ _ _ (e.trans e') t r⟩
theorem fwd_B {Q : Bool → Hp → Prop} : Fwd (fun F H τ => QB F H τ Q) := ⟨fun e h _ _ _ e' t => h _ _ _ (e.trans e') t⟩
theorem fwd_L {Q : List V → Hp → Prop} : Fwd (fun F H τ => QL B l F H τ Q) := ⟨fun e h _ _ _ _ e' t r => h _ _ _ _ (e.trans e') t r⟩
theorem fwd_N {Q : VK} : Fwd (fun F H τ => QN B F H τ Q) := ⟨fun e h => by
  obtain ⟨ds, e1, h⟩ := h
  exact ⟨ds, e1, fun vs p H' F' τ' e' t r n => h vs p H' F' τ' (e.trans e') t r n⟩⟩
/-- one step: m first -/
theorem tR.step {β : Type} {m : Env → M D} {f : Env → D → M β} {Q : Hp → Hp → Ta → β → Tp → Prop} (fw : Fwd Q) (h : tR B W H0 c (fun σ => m σ >>= f σ) s H Q) :
    tD B W H0 l m s H (fun v1 H1 => ∃ x, tR B W H0 (c.cons B l v1 x) (fun σ => f σ x) s H1 Q) := by
  obtain ⟨F, τ, σ, T, S, hc, h⟩ := h
  refine ⟨F, τ, σ, T, S, trivial, ?_⟩
  rw [Res.is_bind] at h
  refine h.mono (fun x T1 hx v H' F' τ' e t r => ?_) fun _ _ z => z
  exact ⟨x, F', τ', σ, T1, S.ext e t, ⟨r, c.mono e hc⟩, hx.mono (fun a t q => fw.run e q) fun _ _ z => z.shift e⟩
theorem tR.stepL {β : Type} {m : Env → M (List D)} {f : Env → List D → M β} {Q : Hp → Hp → Ta → β → Tp → Prop} (fw : Fwd Q) (h : tR B W H0 c (fun σ => m σ >>= f σ) s H Q) :
    tL B W H0 l m s H (fun vs H1 => ∃ xs, tR B W H0 ⟨fun F τ H => Paired (Rq B l F τ H) vs xs ∧ c.f F τ H, fun e h => ⟨Paired.mapP h.1 fun _ _ r => Rq.mono e r, c.mono e h.2⟩⟩ (fun σ => f σ xs) s H1 Q) := by
  obtain ⟨F, τ, σ, T, S, hc, h⟩ := h
  refine ⟨F, τ, σ, T, S, trivial, ?_⟩
  rw [Res.is_bind] at h
  refine h.mono (fun x T1 hx vs H' F' τ' e t r => ?_) fun _ _ z => z
  exact ⟨x, F', τ', σ, T1, S.ext e t, ⟨r, c.mono e hc⟩, hx.mono (fun a t q => fw.run e q) fun _ _ z => z.shift e⟩
theorem tR.stepB {β : Type} {m : Env → M Bool} {f : Env → Bool → M β} {Q : Hp → Hp → Ta → β → Tp → Prop} (fw : Fwd Q) (h : tR B W H0 c (fun σ => m σ >>= f σ) s H Q) :
    tB B W H0 m s H (fun b H1 => tR B W H0 c (fun σ => f σ b) s H1 Q) := by
  obtain ⟨F, τ, σ, T, S, hc, h⟩ := h
  refine ⟨F, τ, σ, T, S, trivial, ?_⟩
  rw [Res.is_bind] at h
  refine h.mono (fun x T1 hx H' F' τ' e t => ?_) fun _ _ z => z
  exact ⟨F', τ', σ, T1, S.ext e t, c.mono e hc, hx.mono (fun a t q => fw.run e q) fun _ _ z => z.shift e⟩
theorem tD.mono {m : Env → M D} {Q Q' : VK} (h : tD B W H0 l m s H Q) (hQ : ∀ v H, Q v H → Q' v H) : tD B W H0 l m s H Q' := by
  obtain ⟨F, τ, σ, T, S, hc, h⟩ := h
  exact ⟨F, τ, σ, T, S, hc, h.mono (fun a t q v H' F' τ' e t' r => hQ _ _ (q v H' F' τ' e t' r)) fun _ _ z => z⟩
theorem tL.mono {m : Env → M (List D)} {Q Q' : List V → Hp → Prop} (h : tL B W H0 l m s H Q) (hQ : ∀ v H, Q v H → Q' v H) : tL B W H0 l m s H Q' := by
  obtain ⟨F, τ, σ, T, S, hc, h⟩ := h
  exact ⟨F, τ, σ, T, S, hc, h.mono (fun a t q v H' F' τ' e t' r => hQ _ _ (q v H' F' τ' e t' r)) fun _ _ z => z⟩
theorem tB.mono {m : Env → M Bool} {Q Q' : Bool → Hp → Prop} (h : tB B W H0 m s H Q) (hQ : ∀ v H, Q v H → Q' v H) : tB B W H0 m s H Q' := by
  obtain ⟨F, τ, σ, T, S, hc, h⟩ := h
  exact ⟨F, τ, σ, T, S, hc, h.mono (fun a t q H' F' τ' e t' => hQ _ _ (q H' F' τ' e t')) fun _ _ z => z⟩
/-- what is left, opened -/
theorem tR.open {k : Env → M α} {Q : Hp → Hp → Ta → α → Tp → Prop} (h : tR B W H0 c k s H Q) : ∃ F τ σ T, St B H0 F τ σ s H T ∧ c.f F τ H ∧ (k σ T).is (Q F H τ) (QE B W s F H τ) := h
theorem tR.imp {k : Env → M α} {Q Q' : Hp → Hp → Ta → α → Tp → Prop} (h : tR B W H0 c k s H Q) (hQ : ∀ F H τ a T, Q F H τ a T → Q' F H τ a T) : tR B W H0 c k s H Q' := by
  obtain ⟨F, τ, σ, T, S, hc, h⟩ := h
  exact ⟨F, τ, σ, T, S, hc, h.mono (fun a t q => hQ _ _ _ _ _ q) fun _ _ z => z⟩
theorem tR.drop {c' : Carry} {k : Env → M α} {Q : Hp → Hp → Ta → α → Tp → Prop} (h : tR B W H0 c k s H Q) (hc : ∀ F τ H, c.f F τ H → c'.f F τ H) : tR B W H0 c' k s H Q := by
  obtain ⟨F, τ, σ, T, S, h1, h⟩ := h
  exact ⟨F, τ, σ, T, S, hc _ _ _ h1, h⟩
/-- the end of a pure value -/
theorem QD.now {Q : VK} {d : D} {v : V} (S : St B H0 F τ σ s H T) (h : QD B l F H τ Q d T) (r : Rq B l F τ H v d) : Q v H := h v H F τ (.refl S.sub) S.tape r
/-- .. at a new object -/
theorem QD.laid {Q : VK} {d : D} {p : Addr} {o : HO} (S : St B H0 F τ σ s H T) (h : QD B l F H τ Q d T) (hp : H p = none) (r : Rp B (upd F p o) τ (.ref p) d) : Q (.ref p) (upd H p o) :=
  h _ _ _ _ (.laid S.sub hp) (S.tape.laid hp) (Rq.of r)
theorem QE.now {x : Str} (S : St B H0 F τ σ s H T) (h : QE B W s F H τ x T) : W (.ref (B.ex x)) none s H := h H F τ (.refl S.sub) S.tape
/-- a new list, frozen -/
theorem QN.toD {Q : VK} {k : Env → M D} (h : ((fun σ => k σ >>= lstD) σ T).is (QD B l F H τ Q) (QE B W s F H τ)) : ((fun σ => k σ >>= lstD) σ T).is (QN B F H τ Q) (QE B W s F H τ) := by
  have h1 : (k σ T).is (fun d T1 => (lstD d T1).is (QD B l F H τ Q) (QE B W s F H τ)) (QE B W s F H τ) := Res.is_bind.mp h
  refine Res.is_bind.mpr (h1.mono (fun d T1 hd => ?_) fun _ _ z => z)
  cases d with
  | lst ds => exact ⟨ds, rfl, fun vs p H' F' τ' e t r n => hd _ _ _ _ (e.trans (.laid e.sub n)) (t.laid n) (Rq.of (.lst (.inl upd_same) (RpL.mono (Ext.laid (τ := τ') e.sub n).grow (Tle.refl _) r)))⟩
  | _ => exact False.elim hd
theorem tD.ofN {k : Env → M D} {X : Cx} {e : Expr} (h : PE X e (tN B W H0 fun σ => k σ >>= lstD)) (hk : ∀ σ, k σ >>= lstD = k σ) : PE X e (tD B W H0 l k) := by
  refine ⟨fun pins s σs H Q I hq => h.run pins s σs H Q I ?_⟩
  obtain ⟨F, τ, σ, T, S, hc, hq⟩ := hq
  refine ⟨F, τ, σ, T, S, hc, QN.toD (l := l) (k := k) ?_⟩
  show ((k σ >>= lstD) T).is _ _
  rw [hk]
  exact hq
/-- a strict value is a loose one -/
theorem tD.loose {k : Env → M D} {X : Cx} {e : Expr} (h : PE X e (tD B W H0 false k)) : PE X e (tD B W H0 l k) := by
  refine ⟨fun pins s σs H Q I hq => h.run pins s σs H Q I (tR.imp hq fun F H τ d T q => ?_)⟩
  exact fun v H' F' τ' e t r => q v H' F' τ' e t (Rq.of r)
end
end Pu

/-! Pu4: the nodes of expressions, one by one. -/
namespace Pu
open PySem PySem.Spec PyProof.Rows L2

/-- what a def promises, by its meaning -/
def spOf (B : Tab) (n : Nat) (m : List D → M D) : Sp := fun vs H Q E => vs.length = n ∧ ∃ F τ ds T, Same F H ∧ TapeAt F H τ T ∧ RpL B F τ vs ds ∧
  (m ds T).is (QD B false F H τ Q) fun c T' => ∀ H' F' τ', Ext F H τ F' H' τ' → TapeAt F' H' τ' T' → E (.ref (B.ex c)) none H'
/-- the surroundings of an expression -/
structure Gd (G : Gam) (kn : Str → Option Bool) (B : Tab) (W : WX) (H0 : Hp) (N : List Str) (k : Nat) (X : Cx) : Prop where
  eK : X.K = B.K
  eN : X.N = N
  nd : N.Nodup
  calm : X.calm = true
  room : Room k X.A
  blt : ∀ x, bootBuiltins x ≠ none → x ≠ "__name__" → kn x = some false → X.mg x = none
  const : ∀ x d, G.const x = some d → ∃ v u, X.mg x = some u ∧ RelV v u ∧ ∀ F τ, Rp B F τ v d
  fn : ∀ x, G.isFn x = true → ∃ a, B.fa x = some a ∧ X.mg x = some (.ref a) ∧ kn x = some true
  call : ∀ f, kn f = some true → ∃ a fd ps, (∀ a', B.fa f = some a' → a' = a) ∧ X.mg f = some (.ref a) ∧ PySem.W.keepIn X.K (.ref a) = true ∧ Binds X.K fd ps [] ∧
    FnOk X.prog X.w X.K X.mg X.base (L2.CX X.prog X.w) k a fd ps (spOf B ps.length (G.call f)) ∧ ∀ ds T Q E, (G.call f ds T).is Q E → ds.length = ps.length
  pass : ∀ σ, PassesAt (L2.CX X.prog X.w) X σ (WE W σ)

section
variable {G : Gam} {kn : Str → Option Bool} {B : Tab} {W : WX} {H0 : Hp} {N : List Str} {k : Nat} {X : Cx} {l l' : Bool} {pos : Pos}

/-! ### leaves -/
theorem n_now {v : V} {d : D} {e : Expr} (h : PE X e (tC v)) (r : ∀ F τ, Rp B F τ v d) : PE X e (tD B W H0 l fun _ => pure d) := by
  refine ⟨fun pins s σs H Q I hq => h.run pins s σs H Q I ?_⟩
  obtain ⟨F, τ, σ, T, S, _, hq⟩ := hq
  exact QD.now S (show QD B l F H τ Q d T from hq) (Rq.of (r F τ))
theorem n_non {j : Nat} : PE X (.Constant .none j pos) (tD B W H0 l fun _ => pure .non) := n_now pe_non fun _ _ => .non
theorem n_bl {b : Bool} {j : Nat} : PE X (.Constant (.bool b) j pos) (tD B W H0 l fun _ => pure (.bl b)) := n_now pe_bl fun _ _ => .bl b
theorem n_int {i : Int} {j : Nat} : PE X (.Constant (.int i) j pos) (tD B W H0 l fun _ => pure (.int i)) := n_now pe_int fun _ _ => .int i
theorem n_str {x : Str} {j : Nat} : PE X (.Constant (.str x) j pos) (tD B W H0 l fun _ => pure (.str x)) := n_now pe_str fun _ _ => .str x
theorem n_slot {i : Nat} {x : Str} (hN : X.N[i]? = some x) (hv : Vis X.env.scope x) (hd : (x == ("__debug__" : Str)) = false) (hcd : (x == ("__classdict__" : Str)) = false) :
    PE X (.Name x pos) (tD B W H0 l (ev G (.slot i)).v) := by
  refine ⟨fun pins s σs H Q I hq => (pe_var hN hv hd hcd).run pins s σs H Q I ?_⟩
  obtain ⟨F, τ, σ, T, S, _, hq⟩ := hq
  have hq : ((match σ[i]? with | some (some (.val d)) => pure d | _ => stuck : M D) T).is (QD B l F H τ Q) (QE B W σs F H τ) := hq
  cases e : σ[i]? with
  | none => rw [e] at hq; exact False.elim hq
  | some o =>
    cases o with
    | none => rw [e] at hq; exact False.elim hq
    | some sv =>
      cases sv with
      | own xs => rw [e] at hq; exact False.elim hq
      | val d =>
        rw [e] at hq
        obtain ⟨v, hv, r⟩ := S.slot i _ e
        exact ⟨v, hv, QD.now S hq (Rq.of r)⟩
theorem n_peek {i : Nat} {x : Str} (hN : X.N[i]? = some x) (hv : Vis X.env.scope x) (hd : (x == ("__debug__" : Str)) = false) (hcd : (x == ("__classdict__" : Str)) = false) :
    PE X (.Name x pos) (tD B W H0 true (ev G (.peek i)).v) := by
  refine ⟨fun pins s σs H Q I hq => (pe_var hN hv hd hcd).run pins s σs H Q I ?_⟩
  obtain ⟨F, τ, σ, T, S, _, hq⟩ := hq
  have hq : ((match σ[i]? with | some (some sv) => pure sv.d | _ => stuck : M D) T).is (QD B true F H τ Q) (QE B W σs F H τ) := hq
  cases e : σ[i]? with
  | none => rw [e] at hq; exact False.elim hq
  | some o =>
    cases o with
    | none => rw [e] at hq; exact False.elim hq
    | some sv =>
      rw [e] at hq
      obtain ⟨v, hv, r⟩ := S.slot i _ e
      refine ⟨v, hv, QD.now S hq ?_⟩
      cases sv with
      | val d => exact .inl r
      | own xs =>
        obtain ⟨p, vs, e1, e2, e3, e4, e5, e6⟩ := r
        exact .inr ⟨xs, p, vs, rfl, e1, e2, e3, e5⟩
theorem n_const (g : Gd G kn B W H0 N k X) {x : Str} (hg : Gl X x) (hd : (x == ("__debug__" : Str)) = false) : PE X (.Name x pos) (tD B W H0 l (ev G (.const x)).v) := by
  cases e : G.const x with
  | none =>
    refine ⟨fun pins s σs H Q I hq => ?_⟩
    obtain ⟨F, τ, σ, T, S, _, hq⟩ := hq
    have hq : ((ofOpt (G.const x) : M D) T).is (QD B l F H τ Q) (QE B W σs F H τ) := hq
    rw [e] at hq
    exact False.elim hq
  | some d =>
    obtain ⟨v, u, h1, h2, h3⟩ := g.const x d e
    have := n_now (W := W) (H0 := H0) (l := l) (pe_glob (pos := pos) hg h1 h2 hd) h3
    have e2 : (ev G (.const x)).v = fun _ => pure d := by
      show (fun _ => ofOpt (G.const x)) = _
      rw [e]; rfl
    rw [e2]; exact this
theorem n_fn (g : Gd G kn B W H0 N k X) {x : Str} (hg : Gl X x) (hd : (x == ("__debug__" : Str)) = false) : PE X (.Name x pos) (tD B W H0 l (ev G (.fn x)).v) := by
  have e2 : (ev G (.fn x)).v = fun _ => if G.isFn x = true then pure (.fn x) else stuck := rfl
  rw [e2]
  by_cases e : G.isFn x = true
  · obtain ⟨a, h1, h2, _⟩ := g.fn x e
    simp only [e, if_true]
    exact n_now (v := .ref a) (pe_glob (pos := pos) hg h2 rfl hd) fun _ _ => .fn h1
  · simp only [e, if_false]
    refine ⟨fun pins s σs H Q I hq => ?_⟩
    obtain ⟨F, τ, σ, T, S, _, hq⟩ := hq
    exact False.elim hq

/-! ### rows of expressions -/
theorem stuck_is {α : Type} {T : Tp} {Q : α → Tp → Prop} {E : Str → Tp → Prop} (h : ((stuck : M α) T).is Q E) {P : Prop} : P := False.elim h
def isStar : Expr → Bool
  | .Starred .. => true
  | _ => false
theorem starEach_cons {e : Expr} {es : List Expr} {env : PySem.Env} (h : isStar e = false) : starEach (e :: es) env = (false, eval e env) :: starEach es env := by
  cases e <;> first | rfl | (cases h)
theorem starEach_any : ∀ {es : List Expr} {env : PySem.Env} {pos : Pos}, es.all (fun e => !isStar e) = true → (backTo pos (starEach es env)).any (·.1) = false
  | [], _, _, _ => rfl
  | e :: es, env, pos, h => by
    rw [List.all_cons, Bool.and_eq_true] at h
    rw [starEach_cons (by simpa using h.1)]
    show (false || (backTo pos (starEach es env)).any (·.1)) = false
    rw [starEach_any h.2]; rfl
theorem a_nil : PA X [] (tL B W H0 l (evalEs G .nil)) := by
  refine ⟨fun pos pins s σs H Q I hq => pa_nil.run pos pins s σs H Q I ?_⟩
  obtain ⟨F, τ, σ, T, S, _, hq⟩ := hq
  exact (show QL B l F H τ Q [] T from hq) [] H F τ (.refl S.sub) S.tape .nil
theorem a_cons {e : Expr} {es : List Expr} {ir : E} {irs : Es} (ha : PE X e (tD B W H0 l (ev G ir).v)) (hr : PA X es (tL B W H0 l (evalEs G irs))) (hs : isStar e = false) : PA X (e :: es) (tL B W H0 l (evalEs G (.cons ir irs))) := by
  refine ⟨fun pos pins s σs H Q I hq => (pa_cons ha hr (starEach_cons hs)).run pos pins s σs H Q I ?_⟩
  have hq : tR B W H0 .nil (fun σ => (ev G ir).v σ >>= fun d => evalEs G irs σ >>= fun ds => pure (d :: ds)) σs H (fun F H τ => QL B l F H τ Q) := hq
  refine (tR.step fwd_L hq).mono fun v1 H1 ⟨x, h1⟩ => (tR.stepL fwd_L h1).mono fun vs H2 ⟨xs, h2⟩ => ?_
  obtain ⟨F, τ, σ, T, S, ⟨r2, r1, _⟩, h⟩ := h2
  exact (show QL B l F H2 τ Q (x :: xs) T from h) _ _ _ _ (.refl S.sub) S.tape (.cons r1 r2)
theorem rpl_paired {F : Hp} {τ : Ta} {H : Hp} : ∀ {vs : List V} {ds : List D}, Paired (Rq B false F τ H) vs ds → RpL B F τ vs ds
  | _, _, .nil => .nil
  | _, _, .cons r t => .cons r (rpl_paired t)
theorem n_tup {es : List Expr} {irs : Es} {x1 : Nat} (h : PA X es (tL B W H0 false (evalEs G irs))) : PE X (.Tuple es x1 pos) (tD B W H0 l (ev G (.tup irs)).v) := by
  refine ⟨fun pins s σs H Q I hq => (pe_tup h).run pins s σs H Q I ?_⟩
  have hq : tR B W H0 .nil (fun σ => evalEs G irs σ >>= fun ds => guardD (ds.length ≤ sizeLine) (pure (.tup ds))) σs H (fun F H τ => QD B l F H τ Q) := hq
  refine (tR.stepL fwd_D hq).mono fun vs H2 ⟨xs, h2⟩ => ?_
  obtain ⟨F, τ, σ, T, S, ⟨r2, _⟩, h⟩ := h2
  have rl := rpl_paired r2
  by_cases hz : xs.length ≤ sizeLine
  · unfold guardD at h
    rw [if_pos hz] at h
    refine ⟨by rw [rl.length]; exact hz, fun p hp => ?_⟩
    exact QD.laid S h hp (.tup (.inl (.inl upd_same)) (RpL.mono (Ext.laid (τ := τ) S.sub hp).grow (Tle.refl _) rl))
  · unfold guardD at h
    rw [if_neg hz] at h
    exact stuck_is h
theorem n_lstN {es : List Expr} {irs : Es} (h : PA X es (tL B W H0 false (evalEs G irs))) : PE X (.List es pos) (tN B W H0 fun σ => (ev G (.lst irs)).v σ >>= lstD) := by
  refine ⟨fun pins s σs H Q I hq => (pe_lst h).run pins s σs H Q I ?_⟩
  have e2 : (fun σ => (ev G (.lst irs)).v σ >>= lstD) = fun σ => evalEs G irs σ >>= fun ds => guardD (ds.length ≤ sizeLine) (pure (.lst ds)) >>= lstD := by
    funext σ
    show (evalEs G irs σ >>= fun ds => guardD (ds.length ≤ sizeLine) (pure (.lst ds))) >>= lstD = _
    rw [M.bind_assoc]
  have hq : tR B W H0 .nil (fun σ => evalEs G irs σ >>= fun ds => guardD (ds.length ≤ sizeLine) (pure (.lst ds)) >>= lstD) σs H (fun F H τ => QN B F H τ Q) := by rw [← e2]; exact hq
  refine (tR.stepL fwd_N hq).mono fun vs H2 ⟨xs, h2⟩ => ?_
  obtain ⟨F, τ, σ, T, S, ⟨r2, _⟩, h⟩ := h2
  have rl := rpl_paired r2
  by_cases hz : xs.length ≤ sizeLine
  · unfold guardD at h
    rw [if_pos hz] at h
    refine ⟨by rw [rl.length]; exact hz, fun p hp => ?_⟩
    obtain ⟨ds, e, h⟩ := (show QN B F H2 τ Q (.lst xs) T from h)
    cases e
    exact h vs p H2 F τ (.refl S.sub) S.tape rl hp
  · unfold guardD at h
    rw [if_neg hz] at h
    exact False.elim h
theorem lst_own (irs : Es) (σ : Env) : (ev G (.lst irs)).v σ >>= lstD = (ev G (.lst irs)).v σ := by
  show (evalEs G irs σ >>= fun ds => guardD (ds.length ≤ sizeLine) (pure (.lst ds))) >>= lstD = (evalEs G irs σ >>= fun ds => guardD (ds.length ≤ sizeLine) (pure (.lst ds)))
  rw [M.bind_assoc]
  congr 1
  funext ds
  unfold guardD
  split <;> rfl
theorem n_lst {es : List Expr} {irs : Es} (h : PA X es (tL B W H0 false (evalEs G irs))) : PE X (.List es pos) (tD B W H0 l (ev G (.lst irs)).v) := tD.ofN (n_lstN h) (lst_own irs)
end
end Pu

/-! Pu5: operators. -/
namespace Pu
open PySem PySem.Spec PyProof.Rows L2
theorem guard_is {α : Type} {c : Prop} [Decidable c] {m : M α} {T : Tp} {Q : α → Tp → Prop} {E : Str → Tp → Prop} (h : ((guardD c m) T).is Q E) : c ∧ (m T).is Q E := by
  unfold guardD at h
  by_cases q : c
  · rw [if_pos q] at h; exact ⟨q, h⟩
  · rw [if_neg q] at h; exact False.elim h
theorem ofOpt_is {α : Type} {o : Option α} {T : Tp} {Q : α → Tp → Prop} {E : Str → Tp → Prop} (h : ((ofOpt o : M α) T).is Q E) : ∃ a, o = some a ∧ Q a T := by
  cases o with
  | none => exact False.elim h
  | some a => exact ⟨a, rfl, h⟩

section
variable {X : Cx}
theorem Inv.rd {pins : List (Addr × Obj)} {σ : L2.St} {H : Hp} {s : Shared} {l : Addr} {xs : List V} (I : L2.Inv X pins σ H s) (h : Rd H l (.lst xs)) : xs.length ≤ sizeLine ∧ ∃ (its : List Value) (n : Nat), Vals xs its ∧ xs.length = its.length ∧ s.heap.get? l = some { cls := .type "list", data := .seq its.toArray n } := by
  obtain ⟨z, its, n, r, e⟩ := h.ok I.hok
  exact ⟨z, its, n, r, r.length, e⟩
def rCatR : R2 := fun x y H Q => ∃ l b xs zs, x = .ref l ∧ y = .ref b ∧ Rd H l (.lst xs) ∧ Rd H b (.lst zs) ∧ xs.length + zs.length ≤ sizeLine ∧ ∀ p, H p = none → Q (.ref p) (upd H p (.lst (xs ++ zs)))
theorem op_catR : OpR X (binaryOp .Add) rCatR := by
  intro pins s σ H x y v u Q I rx ry h
  obtain ⟨l, b, xs, zs, rfl, rfl, hH, hB, hz, q⟩ := h
  cases rx
  cases ry
  obtain ⟨z, its, n, r, hl, e⟩ := Inv.rd I hH
  obtain ⟨z2, its2, n2, r2, hl2, e2⟩ := Inv.rd I hB
  refine PySem.P.add_list e e2 ?_ (by rw [List.size_toArray, List.size_toArray]; omega)
  have ea : its.toArray ++ its2.toArray = (its ++ its2).toArray := by simp
  rw [ea]
  exact ⟨.ref _, _, I.lnew (t' := s.toks) (r.append r2) (by rw [List.length_append]; omega), rfl, q _ I.fresh⟩
def rRepR : R2 := fun x y H Q => ∃ l k xs, x = .ref l ∧ y = .int k ∧ Rd H l (.lst xs) ∧ -(2 ^ 63) ≤ k ∧ k < 2 ^ 63 ∧ xs.length * k.toNat ≤ sizeLine ∧
  ∀ p, H p = none → Q (.ref p) (upd H p (.lst (List.replicate k.toNat xs).flatten))
theorem op_repR : OpR X (binaryOp .Mult) rRepR := by
  intro pins s σ H x y v u Q I rx ry h
  obtain ⟨l, k, xs, rfl, rfl, hH, h1, h2, hz, q⟩ := h
  cases rx
  obtain ⟨t, rfl⟩ := ry
  obtain ⟨z, its, n, r, hl, e⟩ := Inv.rd I hH
  have hlen : its.toArray.size * k.toNat ≤ sizeLine := by rw [List.size_toArray, ← hl]; exact hz
  have hcap : ¬ its.toArray.size * k.toNat > (2 ^ 63 - 1) / 8 := by
    have : (sizeLine : Nat) ≤ (2 ^ 63 - 1) / 8 := by decide
    omega
  have hfit : ¬ (!Builtin.List.listFitsIndex k) = true := by
    rw [fitsIndex_both h1 h2]
    exact Bool.false_ne_true
  have hlong : ¬ Builtin.List.listTooLong (its.toArray.size * k.toNat) = true := by
    rw [notLongL hlen]
    exact Bool.false_ne_true
  have hnew : List.foldl (fun x1 x2 => x1 ++ x2) #[] (List.replicate (if its.toArray.isEmpty = true then 0 else k.toNat) its.toArray) = (List.replicate k.toNat its).flatten.toArray := by
    have f0 : ∀ m : Nat, List.foldl (fun x1 x2 => x1 ++ x2) #[] (List.replicate m its.toArray) = (List.replicate m its).flatten.toArray := fun m => by
      have := foldl_rep its m []
      rw [List.nil_append] at this
      exact this
    rw [f0]
    cases its with
    | nil => simp
    | cons a r' => rw [if_neg (by simp)]
  refine wpAny_binaryOp_repeat_ref (T := "list") (U := "int") (by decide) ⟨_, e, rfl⟩ (fun s' => typeIs_int s' k t) noFill_list_mul F.fills_int_mul F.slot_int_rmul repeat_list F.slot_int_index.lookup
    (call_meets F.slot_int_rmul (typeIs_int s k t) F.entry_int_rmul (F.args_int_rmul_2 _ _) (int___rmul___int_list k t l its.toArray n)
      ⟨e, rfl, ⟨_, e, rfl⟩, call_meets F.slot_list_mul ⟨_, e, rfl⟩ F.entry_list_mul (F.args_list_mul_2 _ _) (AutoListH.list___mul___list_int_3 l its.toArray n k t hfit hcap hlong) ⟨e, ?_⟩⟩)
  rw [hnew]
  exact ⟨.ref _, _, I.lnew (t' := s.toks) (r.rep k.toNat) (by rw [PyProof.Rows.lm_len_rep_flat, Nat.mul_comm]; exact hz), rfl, q _ I.fresh⟩
theorem op_fdivA : OpR X (binaryOp .FloorDiv) (rI (fun i j => divOk i j = true) fun i j => .int (i.fdiv j)) := opI fun i j _ _ _ _ _ hc q => by
  unfold divOk at hc
  rw [Bool.and_eq_true, decide_eq_true_eq, Bool.not_eq_true'] at hc
  exact floordiv_int hc.1 q (.inl hc.2)
theorem op_mulA : OpR X (binaryOp .Mult) (rI mulOk fun i j => .int (i * j)) := opI fun _ _ _ _ _ _ _ hc q => mul_int q hc
end

set_option maxHeartbeats 4000000 in
theorem tuple_mulSame (l : Addr) (items : Array Value) (n : Nat) (dd : Option Addr) (sl : Array (Option Value)) (x : Int) (u : Tok) (c0 : (decide (x < -(2 ^ 63)) || decide (x ≥ 2 ^ 63)) = false) (c1 : (items.isEmpty || x == 1) = true) :
    Meets (Builtin.«tuple.__mul__» ⟨[.ref l, .int x u], []⟩) (fun _ R s => s.heap.get? l = some { cls := .type "tuple", dict := dd, data := .seq items n, slots := sl } ∧ R (.ok (.ret (Value.ref l))) s) :=
  .of_wp fun prog w A R s h => by
    obtain ⟨hp, g, d, tk, os⟩ := s
    obtain ⟨hl, h⟩ := h
    have f1 := AutoSeq1.idx_int
    wp_walk using wpAny_loadPart' hl
    repeat (first
      | (refine wpAny_ite_false (decide_eq_false (by rw [c0]; exact Bool.false_ne_true)) ?_; wp_walk using wpAny_loadPart' hl)
      | (refine wpAny_ite_true (decide_eq_true c1) ?_; wp_walk using wpAny_loadPart' hl))
    exact ⟨_, rfl, h⟩
set_option maxHeartbeats 4000000 in
theorem tuple_mul0 (l : Addr) (items : Array Value) (n : Nat) (dd : Option Addr) (sl : Array (Option Value)) (x : Int) (u : Tok) (c0 : (decide (x < -(2 ^ 63)) || decide (x ≥ 2 ^ 63)) = false) (c1 : (items.isEmpty || x == 1) = false) (c2 : (decide (x ≤ 0) || items.isEmpty) = true) :
    Meets (Builtin.«tuple.__mul__» ⟨[.ref l, .int x u], []⟩) (fun _ R s => s.heap.get? l = some { cls := .type "tuple", dict := dd, data := .seq items n, slots := sl } ∧
      R (.ok (.ret (Value.ref s.heap.objs.size))) { s with heap := s.heap.push { cls := Value.type "tuple", data := Data.seq #[] }, toks := s.toks }) :=
  .of_wp fun prog w A R s h => by
    obtain ⟨hp, g, d, tk, os⟩ := s
    obtain ⟨hl, h⟩ := h
    have f1 := AutoSeq1.idx_int
    wp_walk using wpAny_loadPart' hl
    repeat (first
      | (refine wpAny_ite_false (decide_eq_false (by rw [c0]; exact Bool.false_ne_true)) ?_; wp_walk using wpAny_loadPart' hl)
      | (refine wpAny_ite_false (decide_eq_false (by rw [c1]; exact Bool.false_ne_true)) ?_; wp_walk using wpAny_loadPart' hl)
      | (refine wpAny_ite_true (decide_eq_true c2) ?_; wp_walk using wpAny_loadPart' hl))
    exact ⟨_, rfl, h⟩

section
variable {X : Cx}
def rRepA (K : PySem.W.Frag) : R2 := fun x y H Q => ∃ l k xs, x = .ref l ∧ y = .int k ∧ SqT K H l xs ∧ -(2 ^ 63) ≤ k ∧ k < 2 ^ 63 ∧ xs.length * k.toNat ≤ sizeLine ∧
  ((List.replicate k.toNat xs).flatten = xs → Q (.ref l) H) ∧ ∀ p, H p = none → Q (.ref p) (upd H p (.tup (List.replicate k.toNat xs).flatten))
set_option maxHeartbeats 4000000 in
theorem op_repA : OpR X (binaryOp .Mult) (rRepA X.K) := by
  intro pins s σ H x y v u Q I rx ry h
  obtain ⟨l, k, xs, rfl, rfl, hT, h1, h2, hz, q1, q2⟩ := h
  cases rx
  obtain ⟨t, rfl⟩ := ry
  obtain ⟨its, r, ⟨⟨cls, dd, data, sl⟩, ho, hc, n, hd⟩, hs⟩ := I.tuple hT
  simp only at hc hd
  subst hc hd
  have hle : its.length = xs.length := r.length.symm
  have c0 : (decide (k < -(2 ^ 63)) || decide (k ≥ 2 ^ 63)) = false := by
    rw [decide_eq_false (by omega), decide_eq_false (by omega)] <;> rfl
  by_cases c1 : (its.toArray.isEmpty || k == 1) = true
  · refine wpAny_binaryOp_repeat_ref (T := "tuple") (U := "int") (by decide) ⟨_, ho, rfl⟩ (fun s' => typeIs_int s' k t) noFill_tuple_mul F.fills_int_mul F.slot_int_rmul repeat_tuple F.slot_int_index.lookup
      (call_meets F.slot_int_rmul (typeIs_int s k t) F.entry_int_rmul (F.args_int_rmul_2 _ _) (int_rmul_tuple k t l its.toArray n dd sl)
        ⟨ho, rfl, ⟨_, ho, rfl⟩, call_meets F.slot_tuple_mul ⟨_, ho, rfl⟩ F.entry_tuple_mul (F.args_tuple_mul_2 _ _) (tuple_mulSame l its.toArray n dd sl k t c0 c1) ⟨ho, ?_⟩⟩)
    refine ⟨.ref l, H, I.tok _, rfl, q1 ?_⟩
    rw [Bool.or_eq_true] at c1
    rcases c1 with c1 | c1
    · have : xs = [] := by
        have e : its = [] := by simpa using c1
        rw [e] at hle
        exact List.eq_nil_of_length_eq_zero hle.symm
      subst this
      simp
    · have : k = 1 := by simpa using c1
      subst this
      simp
  · have c1 : (its.toArray.isEmpty || k == 1) = false := by simpa using c1
    by_cases c2 : (decide (k ≤ 0) || its.toArray.isEmpty) = true
    · refine wpAny_binaryOp_repeat_ref (T := "tuple") (U := "int") (by decide) ⟨_, ho, rfl⟩ (fun s' => typeIs_int s' k t) noFill_tuple_mul F.fills_int_mul F.slot_int_rmul repeat_tuple F.slot_int_index.lookup
        (call_meets F.slot_int_rmul (typeIs_int s k t) F.entry_int_rmul (F.args_int_rmul_2 _ _) (int_rmul_tuple k t l its.toArray n dd sl)
          ⟨ho, rfl, ⟨_, ho, rfl⟩, call_meets F.slot_tuple_mul ⟨_, ho, rfl⟩ F.entry_tuple_mul (F.args_tuple_mul_2 _ _) (tuple_mul0 l its.toArray n dd sl k t c0 c1 c2) ⟨ho, ?_⟩⟩)
      have e0 : (List.replicate k.toNat xs).flatten = [] := by
        rw [Bool.or_eq_false_iff] at c1
        rw [c1.1, Bool.or_false, decide_eq_true_eq] at c2
        have : k.toNat = 0 := by omega
        rw [this]; rfl
      rw [e0] at q2
      refine ⟨.ref s.heap.objs.size, _, I.laid (t' := s.toks) (o := .tup []) (fun b ob q => Heap.get?_push_of_some _ q) (Nat.le_refl _) ?_, rfl, q2 _ (I.hok.fresh (Nat.le_refl _))⟩
      exact ⟨Nat.zero_le _, [], .nil, IsTup.new _ _⟩
    · have c2 : (decide (k ≤ 0) || its.toArray.isEmpty) = false := by simpa using c2
      have hm : its.toArray.size * k.toNat ≤ sizeLine := by rw [List.size_toArray, hle]; exact hz
      have hk0 : 0 < k := by
        rw [Bool.or_eq_false_iff, decide_eq_false_iff_not] at c2
        omega
      have em : ((its.toArray.size : Nat) : Int) * k = ((its.toArray.size * k.toNat : Nat) : Int) := by
        rw [Int.natCast_mul, Int.toNat_of_nonneg (by omega)]
      have hline : sizeLine = 16777216 := sizeLine_eq
      have c4 : Builtin.Tuple.tupleTooMany (((its.toArray.size : Nat) : Int) * k) = false := by
        unfold Builtin.Tuple.tupleTooMany
        rw [em]
        exact decide_eq_false (by omega)
      have flen : (List.replicate k.toNat its).flatten.length ≤ sizeLine := by
        rw [PyProof.Rows.lm_len_rep_flat, Nat.mul_comm, hle]; exact hz
      refine wpAny_binaryOp_repeat_ref (T := "tuple") (U := "int") (by decide) ⟨_, ho, rfl⟩ (fun s' => typeIs_int s' k t) noFill_tuple_mul F.fills_int_mul F.slot_int_rmul repeat_tuple F.slot_int_index.lookup
        (call_meets F.slot_int_rmul (typeIs_int s k t) F.entry_int_rmul (F.args_int_rmul_2 _ _) (int_rmul_tuple k t l its.toArray n dd sl)
          ⟨ho, rfl, ⟨_, ho, rfl⟩, call_meets F.slot_tuple_mul ⟨_, ho, rfl⟩ F.entry_tuple_mul (F.args_tuple_mul_2 _ _) (tuple_mulW l its.toArray n dd sl k t c0 c1 c2 (by rw [em]; omega) c4 (by rw [size_rep, List.size_toArray]; exact flen)) ⟨ho, ?_⟩⟩)
      rw [size_rep]
      refine ⟨.ref s.heap.objs.size, _, I.laid (t' := s.toks) (o := .tup (List.replicate k.toNat xs).flatten) (fun b ob q => Heap.get?_push_of_some _ q) (Nat.le_refl _) ?_, rfl, q2 _ (I.hok.fresh (Nat.le_refl _))⟩
      exact ⟨by rw [PyProof.Rows.lm_len_rep_flat, Nat.mul_comm]; exact hz, _, r.rep k.toNat, IsTup.new _ _⟩
end
section
variable {G : Gam} {kn : Str → Option Bool} {B : Tab} {W : WX} {H0 : Hp} {N : List Str} {k : Nat} {X : Cx} {l l' : Bool} {pos : Pos}
def opOf : Op2 → Operator
  | .add => .Add
  | .sub => .Sub
  | .mul => .Mult
  | .fdiv => .FloorDiv
  | .mod => .Mod
  | .pow => .Pow
/-- an operation on values, by its meaning -/
def rBin (B : Tab) (W : WX) (H0 : Hp) (l : Bool) (o : Op2) (s : L2.St) : R2 := fun v w H Q => ∃ x y F τ σ T, St B H0 F τ σ s H T ∧ RpX B F τ H v x ∧ RpX B F τ H w y ∧ (binD o x y T).is (QD B l F H τ Q) (QE B W s F H τ)
/-- an operation, whatever the slots are -/
theorem bin_op (hK : X.K = B.K) {o : Op2} {pins : List (Addr × Obj)} {s : Shared} {σs : L2.St} {H : Hp} {v w : V} {u1 u2 : Value} {Q : VK} (I : L2.Inv X pins σs H s) (r1 : RelV v u1) (r2 : RelV w u2) {st : L2.St} (h : rBin B W H0 l o st v w H Q) :
    wpAny (model X.prog X.w) X.A (binaryOp (opOf o) u1 u2) (EP X pins σs Q) X.xe s := by
  obtain ⟨x, y, F, τ, σ, T, S, rx, ry, h⟩ := h
  unfold binD at h
  split at h
  · rename_i i j
    exact op_add pins s σs H v w u1 u2 Q I r1 r2 ⟨i, j, rx.int, ry.int, QD.now S h (Rq.of (.int _))⟩
  · rename_i xs ys
    obtain ⟨hz, h⟩ := guard_is h
    obtain ⟨a, vs, rfl, ha, ra⟩ := rx.tup
    obtain ⟨b, ws, rfl, hb, rb⟩ := ry.tup
    refine op_catA pins s σs H _ _ u1 u2 Q I r1 r2 ⟨a, b, vs, ws, rfl, rfl, by rw [hK]; exact sqt_mono S.sub ha, by rw [hK]; exact sqt_mono S.sub hb, by rw [ra.length, rb.length]; exact hz, fun e => ?_, fun e1 e => ?_, fun e1 e2 p hp => ?_⟩
    · have : xs = [] := List.length_eq_zero_iff.mp (by rw [← ra.length, e]; rfl)
      subst this
      exact QD.now S h (Rq.of (.tup hb rb))
    · have : ys = [] := List.length_eq_zero_iff.mp (by rw [← rb.length, e]; rfl)
      subst this
      refine QD.now S h (Rq.of (.tup ha ?_))
      rw [List.append_nil]; exact ra
    · exact QD.laid S h hp (.tup (.inl (.inl upd_same)) (RpL.mono (Ext.laid (τ := τ) S.sub hp).grow (Tle.refl _) (ra.append rb)))
  · rename_i xs ys
    obtain ⟨hz, h⟩ := guard_is h
    obtain ⟨a, vs, rfl, ha, ra⟩ := rx.lst S.sub
    obtain ⟨b, ws, rfl, hb, rb⟩ := ry.lst S.sub
    refine op_catR pins s σs H _ _ u1 u2 Q I r1 r2 ⟨a, b, vs, ws, rfl, rfl, ha, hb, by rw [ra.length, rb.length]; exact hz, fun p hp => ?_⟩
    exact QD.laid S h hp (.lst (.inl upd_same) (RpL.mono (Ext.laid (τ := τ) S.sub hp).grow (Tle.refl _) (ra.append rb)))
  · rename_i x y
    obtain ⟨hz, h⟩ := guard_is h
    exact op_add_str pins s σs H v w u1 u2 Q I r1 r2 ⟨x, y, rx.str, ry.str, hz, QD.now S h (Rq.of (.str _))⟩
  · rename_i i j
    exact op_sub pins s σs H v w u1 u2 Q I r1 r2 ⟨i, j, rx.int, ry.int, QD.now S h (Rq.of (.int _))⟩
  · rename_i i j
    obtain ⟨hz, h⟩ := guard_is h
    exact op_mulA pins s σs H v w u1 u2 Q I r1 r2 ⟨i, j, rx.int, ry.int, hz, QD.now S h (Rq.of (.int _))⟩
  · rename_i xs k
    obtain ⟨⟨hz1, hz2, hz⟩, h⟩ := guard_is h
    obtain ⟨a, vs, rfl, ha, ra⟩ := rx.tup
    refine op_repA pins s σs H _ _ u1 u2 Q I r1 r2 ⟨a, k, vs, rfl, ry.int, by rw [hK]; exact sqt_mono S.sub ha, hz1, hz2, by rw [ra.length]; exact hz, fun e => ?_, fun p hp => ?_⟩
    · have rr := ra.rep k.toNat
      rw [e] at rr
      exact QD.now S h (Rq.of (.tup ha rr))
    · exact QD.laid S h hp (.tup (.inl (.inl upd_same)) (RpL.mono (Ext.laid (τ := τ) S.sub hp).grow (Tle.refl _) (ra.rep _)))
  · rename_i xs k
    obtain ⟨⟨hz1, hz2, hz⟩, h⟩ := guard_is h
    obtain ⟨a, vs, rfl, ha, ra⟩ := rx.lst S.sub
    refine op_repR pins s σs H _ _ u1 u2 Q I r1 r2 ⟨a, k, vs, rfl, ry.int, ha, hz1, hz2, by rw [ra.length]; exact hz, fun p hp => ?_⟩
    exact QD.laid S h hp (.lst (.inl upd_same) (RpL.mono (Ext.laid (τ := τ) S.sub hp).grow (Tle.refl _) (ra.rep _)))
  · rename_i i j
    obtain ⟨hz, h⟩ := guard_is h
    exact op_fdivA pins s σs H v w u1 u2 Q I r1 r2 ⟨i, j, rx.int, ry.int, hz, QD.now S h (Rq.of (.int _))⟩
  · rename_i i j
    obtain ⟨hz, h⟩ := guard_is h
    exact op_modN pins s σs H v w u1 u2 Q I r1 r2 ⟨i, j, rx.int, ry.int, hz, QD.now S h (Rq.of (.int _))⟩
  · exact False.elim h
theorem n_bin (g : Gd G kn B W H0 N k X) {o : Op2} {a b : Expr} {ia ib : E} (ha : PE X a (tD B W H0 true (ev G ia).v)) (hb : PE X b (tD B W H0 true (ev G ib).v)) : PE X (.BinOp a (opOf o) b pos) (tD B W H0 l (ev G (.bin o ia ib)).v) := by
  refine ⟨fun pins s σs H Q I hq => ?_⟩
  refine wpAny_BinOp (binT ha hb I (R := fun v w H2 => rBin B W H0 l o σs v w H2 Q) ?_ fun v u s2 x y H2 I2 rx ry q => bin_op g.eK I2 rx ry q)
  have hq : tR B W H0 .nil (fun σ => (ev G ia).v σ >>= fun x => (ev G ib).v σ >>= fun y => binD o x y) σs H (fun F H τ => QD B l F H τ Q) := hq
  refine (tR.step fwd_D hq).mono fun v1 H1 ⟨x, h1⟩ => (tR.step fwd_D h1).mono fun v2 H2 ⟨y, h2⟩ => ?_
  obtain ⟨F, τ, σ, T, S, ⟨r2, r1, _⟩, h⟩ := h2
  exact ⟨x, y, F, τ, σ, T, S, r1, r2, h⟩
theorem bin_own {o : Op2} : True := trivial
end
end Pu

/-! Pu6: comparisons, tests. -/
namespace Pu
open PySem PySem.Spec PyProof.Rows L2

mutual
def toPy : D → PyData
  | .non => .none
  | .bl b => .bool b
  | .int i => .int i
  | .str x => .str x
  | .tup xs => .tuple (toPys xs)
  | .lst xs => .list (toPys xs)
  | .fn _ => .none
  | .tape => .none
  | .cells => .none
  | .scr _ => .none
def toPys : List D → List PyData
  | [] => []
  | x :: xs => toPy x :: toPys xs
end
mutual
theorem ok_py : ∀ d : D, okD d = true → (toPy d).canLay0 = true
  | .non, _ => by simp only [toPy, PyData.canLay0]
  | .bl b, _ => by simp only [toPy, PyData.canLay0]
  | .int i, _ => by simp only [toPy, PyData.canLay0]
  | .str x, h => by simpa only [toPy, PyData.canLay0, okD] using h
  | .tup xs, h => by
    simp only [toPy, PyData.canLay0]
    exact ok_pys xs (by simpa only [okD] using h)
  | .lst xs, h => by
    simp only [toPy, PyData.canLay0]
    exact ok_pys xs (by simpa only [okD] using h)
  | .fn _, h => by simp [okD] at h
  | .tape, h => by simp [okD] at h
  | .cells, h => by simp [okD] at h
  | .scr _, h => by simp [okD] at h
theorem ok_pys : ∀ ds : List D, okDs ds = true → PyData.canLayAll0 (toPys ds) = true
  | [], _ => by simp only [toPys, PyData.canLayAll0]
  | x :: xs, h => by
    simp only [okDs, Bool.and_eq_true] at h
    simp only [toPys, PyData.canLayAll0, ok_py x h.1, ok_pys xs h.2, Bool.and_self]
end
mutual
theorem dep_py : ∀ d : D, (toPy d).depth = depD d
  | .non => by simp only [toPy, PyData.depth, depD]
  | .bl b => by simp only [toPy, PyData.depth, depD]
  | .int i => by simp only [toPy, PyData.depth, depD]
  | .str x => by simp only [toPy, PyData.depth, depD]
  | .tup xs => by simp only [toPy, PyData.depth, depD, dep_pys xs]
  | .lst xs => by simp only [toPy, PyData.depth, depD, dep_pys xs]
  | .fn _ => by simp only [toPy, PyData.depth, depD]
  | .tape => by simp only [toPy, PyData.depth, depD]
  | .cells => by simp only [toPy, PyData.depth, depD]
  | .scr _ => by simp only [toPy, PyData.depth, depD]
theorem dep_pys : ∀ ds : List D, PyData.depthAll (toPys ds) = depDs ds
  | [] => by simp only [toPys, PyData.depthAll, depDs]
  | x :: xs => by simp only [toPys, PyData.depthAll, depDs, dep_py x, dep_pys xs]
end
mutual
theorem eq_py : ∀ a b : D, okD a = true → okD b = true → PyData.eqv (toPy a) (toPy b) = eqD a b
  | .non, b, _, hb => by cases b <;> first | (simp [okD] at hb; done) | simp only [toPy, PyData.eqv, eqD]
  | .bl x, b, _, hb => by cases b <;> first | (simp [okD] at hb; done) | simp only [toPy, PyData.eqv, eqD]
  | .int i, b, _, hb => by cases b <;> first | (simp [okD] at hb; done) | simp only [toPy, PyData.eqv, eqD]
  | .str x, b, _, hb => by cases b <;> first | (simp [okD] at hb; done) | simp only [toPy, PyData.eqv, eqD]
  | .tup xs, b, ha, hb => by
    cases b with
    | tup ys =>
      simp only [toPy, PyData.eqv, eqD]
      exact eq_pys xs ys (by simpa only [okD] using ha) (by simpa only [okD] using hb)
    | _ => first | (simp [okD] at hb; done) | simp only [toPy, PyData.eqv, eqD]
  | .lst xs, b, ha, hb => by
    cases b with
    | lst ys =>
      simp only [toPy, PyData.eqv, eqD]
      exact eq_pys xs ys (by simpa only [okD] using ha) (by simpa only [okD] using hb)
    | _ => first | (simp [okD] at hb; done) | simp only [toPy, PyData.eqv, eqD]
  | .fn _, _, ha, _ => by simp [okD] at ha
  | .tape, _, ha, _ => by simp [okD] at ha
  | .cells, _, ha, _ => by simp [okD] at ha
  | .scr _, _, ha, _ => by simp [okD] at ha
theorem eq_pys : ∀ as bs : List D, okDs as = true → okDs bs = true → PyData.eqvAll (toPys as) (toPys bs) = eqDs as bs
  | [], [], _, _ => by simp only [toPys, PyData.eqvAll, eqDs]
  | [], _ :: _, _, _ => by simp only [toPys, PyData.eqvAll, eqDs]
  | _ :: _, [], _, _ => by simp only [toPys, PyData.eqvAll, eqDs]
  | x :: xs, y :: ys, ha, hb => by
    simp only [okDs, Bool.and_eq_true] at ha hb
    simp only [toPys, PyData.eqvAll, eqDs, eq_py x y ha.1 hb.1, eq_pys xs ys ha.2 hb.2]
end
section
variable {B : Tab} {F H : Hp} {τ : Ta} {K : PySem.W.Frag}
mutual
theorem dp_of (hK : K = B.K) (sub : Same F H) : ∀ (d : D) (v : V), okD d = true → Rp B F τ v d → Dp K H v (toPy d)
  | .non, _, _, h => by cases h; exact .non
  | .bl b, _, _, h => by cases h; exact .bl b
  | .int i, _, _, h => by cases h; exact .int i
  | .str x, _, _, h => by cases h; exact .str x
  | .tup xs, _, o, h => by
    cases h with
    | tup h r => exact .tup (by rw [hK]; exact sqt_mono sub h) (dps_of hK sub xs _ (by simpa only [okD] using o) r)
  | .lst xs, _, o, h => by
    cases h with
    | lst h r => exact .lst (.inl (rd_mono sub h)) (dps_of hK sub xs _ (by simpa only [okD] using o) r)
  | .fn _, _, o, _ => by simp [okD] at o
  | .tape, _, o, _ => by simp [okD] at o
  | .cells, _, o, _ => by simp [okD] at o
  | .scr _, _, o, _ => by simp [okD] at o
theorem dps_of (hK : K = B.K) (sub : Same F H) : ∀ (ds : List D) (vs : List V), okDs ds = true → RpL B F τ vs ds → DpAll K H vs (toPys ds)
  | [], _, _, h => by cases h; exact .nil
  | x :: xs, _, o, h => by
    simp only [okDs, Bool.and_eq_true] at o
    cases h with
    | cons h r => exact .cons (dp_of hK sub x _ o.1 h) (dps_of hK sub xs _ o.2 r)
end
theorem dpx_of (hK : K = B.K) (sub : Same F H) {d : D} {v : V} (o : okD d = true) (h : RpX B F τ H v d) : Dp K H v (toPy d) := by
  rcases h with h | ⟨ds, p, vs, rfl, rfl, e, r, _⟩
  · exact dp_of hK sub d v o h
  · exact .lst (.inl (.inl e)) (dps_of hK sub ds vs (by simpa only [okD] using o) r)
end

section
variable {G : Gam} {kn : Str → Option Bool} {B : Tab} {W : WX} {H0 : Hp} {N : List Str} {k : Nat} {X : Cx} {l l' : Bool} {pos : Pos}
def cmOf : Cm → CmpOp
  | .eq => .Eq
  | .ne => .NotEq
  | .lt => .Lt
  | .le => .LtE
  | .gt => .Gt
  | .ge => .GtE
  | .isN => .Is
  | .notN => .IsNot
  | .inn => .In
  | .notIn => .NotIn
def rCmp (B : Tab) (W : WX) (H0 : Hp) (l : Bool) (o : Cm) (s : L2.St) : R2 := fun v w H Q => ∃ x y F τ σ T, St B H0 F τ σ s H T ∧ RpX B F τ H v x ∧ RpX B F τ H w y ∧ (cmpD o x y T).is (QD B l F H τ Q) (QE B W s F H τ)
theorem isN_dec {F H : Hp} {τ : Ta} {v : V} {x : D} (r : RpX B F τ H v x) : decide (v = V.non) = isNon x := by
  rcases r with r | ⟨ds, p, vs, rfl, rfl, _⟩
  · cases r <;> simp [isNon]
  · simp [isNon]
theorem cmp_op (hK : X.K = B.K) (hu : X.A.units + 64 < cLine) {o : Cm} {pins : List (Addr × Obj)} {s : Shared} {σs : L2.St} {H : Hp} {v w : V} {u1 u2 : Value} {Q : VK} (I : L2.Inv X pins σs H s) (r1 : RelV v u1) (r2 : RelV w u2) {st : L2.St} (h : rCmp B W H0 l o st v w H Q) :
    wpAny (model X.prog X.w) X.A (compareOp (cmOf o) u1 u2) (EP X pins σs Q) X.xe s := by
  obtain ⟨x, y, F, τ, σ, T, S, rx, ry, h⟩ := h
  unfold cmpD at h
  split at h
  · rename_i a b
    obtain ⟨⟨h1, h2, h3⟩, h⟩ := guard_is h
    obtain ⟨as, q1⟩ := Dp.reads I _ v u1 (dpx_of hK S.sub h1 rx) r1
    obtain ⟨bs, q2⟩ := Dp.reads I _ w u2 (dpx_of hK S.sub h2 ry) r2
    refine SeqAt.compareEq_reads q1 q2 (ok_py _ h1) (ok_py _ h2) ?_ ⟨.bl _, H, I, rfl, ?_⟩
    · have := Nat.min_le_left (toPy x).depth (toPy y).depth
      rw [dep_py x] at this
      rw [dep_py x]
      omega
    · rw [eq_py x y h1 h2]
      exact QD.now S h (Rq.of (.bl _))
  · rename_i a b
    obtain ⟨⟨h1, h2, h3⟩, h⟩ := guard_is h
    obtain ⟨as, q1⟩ := Dp.reads I _ v u1 (dpx_of hK S.sub h1 rx) r1
    obtain ⟨bs, q2⟩ := Dp.reads I _ w u2 (dpx_of hK S.sub h2 ry) r2
    refine SeqAt.compareNe_reads q1 q2 (ok_py _ h1) (ok_py _ h2) ?_ ⟨.bl _, H, I, rfl, ?_⟩
    · have := Nat.min_le_left (toPy x).depth (toPy y).depth
      rw [dep_py x] at this
      rw [dep_py x]
      omega
    · rw [eq_py x y h1 h2]
      exact QD.now S h (Rq.of (.bl _))
  · rename_i i j
    exact op_lt pins s σs H v w u1 u2 Q I r1 r2 ⟨i, j, rx.int, ry.int, QD.now S h (Rq.of (.bl _))⟩
  · rename_i i j
    exact op_le pins s σs H v w u1 u2 Q I r1 r2 ⟨i, j, rx.int, ry.int, QD.now S h (Rq.of (.bl _))⟩
  · rename_i i j
    exact op_gt pins s σs H v w u1 u2 Q I r1 r2 ⟨i, j, rx.int, ry.int, QD.now S h (Rq.of (.bl _))⟩
  · rename_i i j
    exact op_ge pins s σs H v w u1 u2 Q I r1 r2 ⟨i, j, rx.int, ry.int, QD.now S h (Rq.of (.bl _))⟩
  · refine op_isN pins s σs H v w u1 u2 Q I r1 r2 ⟨ry.non, ?_⟩
    rw [isN_dec rx]
    exact QD.now S h (Rq.of (.bl _))
  · refine op_notN pins s σs H v w u1 u2 Q I r1 r2 ⟨ry.non, ?_⟩
    rw [isN_dec rx]
    exact QD.now S h (Rq.of (.bl _))
  · exact False.elim h
/-- a value's reading becomes a test's -/
theorem cmp_step {ia ib : E} {s : L2.St} {H : Hp} {o : Cm} {β : Type} {f : Env → D → M β} {Q : Hp → Hp → Ta → β → Tp → Prop} (fw : Fwd Q)
    (hq : tR B W H0 .nil (fun σ => (ev G ia).v σ >>= fun x => (ev G ib).v σ >>= fun y => cmpD o x y >>= f σ) s H Q) :
    tD B W H0 true (ev G ia).v s H fun v1 H1 => tD B W H0 true (ev G ib).v s H1 fun v2 H2 => ∃ x y F τ σ T, St B H0 F τ σ s H2 T ∧ RpX B F τ H2 v1 x ∧ RpX B F τ H2 v2 y ∧ ((cmpD o x y >>= f σ) T).is (Q F H2 τ) (QE B W s F H2 τ) := by
  refine (tR.step fw hq).mono fun v1 H1 ⟨x, h1⟩ => (tR.step fw h1).mono fun v2 H2 ⟨y, h2⟩ => ?_
  obtain ⟨F, τ, σ, T, S, ⟨r2, r1, _⟩, h⟩ := h2
  exact ⟨x, y, F, τ, σ, T, S, r1, r2, h⟩
theorem n_cmp (g : Gd G kn B W H0 N k X) {o : Cm} {a b : Expr} {ia ib : E} (ha : PE X a (tD B W H0 true (ev G ia).v)) (hb : PE X b (tD B W H0 true (ev G ib).v)) (hm : behindInMarks (cmOf o) b = false) :
    PE X (.Compare a [cmOf o] [b] pos) (tD B W H0 l (ev G (.cmp o ia ib)).v) := by
  refine ⟨fun pins s σs H Q I hq => ?_⟩
  refine wpAny_Compare1 (binT ha hb I (R := fun v w H2 => rCmp B W H0 l o σs v w H2 Q) ?_ fun v u s2 x y H2 I2 rx ry q => cmp_op g.eK g.room.units I2 rx ry q) hm
  have hq : tR B W H0 .nil (fun σ => (ev G ia).v σ >>= fun x => (ev G ib).v σ >>= fun y => cmpD o x y >>= fun d => pure d) σs H (fun F H τ => QD B l F H τ Q) := by
    simp only [M.bind_pure]
    exact hq
  refine (cmp_step fwd_D hq).mono fun v1 H1 h1 => h1.mono fun v2 H2 ⟨x, y, F, τ, σ, T, S, r1, r2, h⟩ => ?_
  exact ⟨x, y, F, τ, σ, T, S, r1, r2, by simpa only [M.bind_pure] using h⟩
/-- a bool's reading -/
theorem boolD_is {d : D} {T : Tp} {Q : Bool → Tp → Prop} {E : Str → Tp → Prop} (h : ((boolD d) T).is Q E) : ∃ b, d = .bl b ∧ Q b T := by
  cases d with
  | bl b => exact ⟨b, rfl, h⟩
  | _ => exact False.elim h
theorem cmp_testQ {F H : Hp} {τ : Ta} {Q : Bool → Hp → Prop} {T : Tp} {s : L2.St} {m : M D} (h : ((m >>= boolD) T).is (QB F H τ Q) (QE B W s F H τ)) :
    (m T).is (QD B false F H τ fun x H' => ∃ b, x = .bl b ∧ Q b H') (QE B W s F H τ) := by
  have h := Res.is_bind.mp h
  refine h.mono (fun d T1 hd v H' F' τ' e t r => ?_) fun _ _ z => z
  obtain ⟨b, rfl, hd⟩ := boolD_is hd
  cases r
  exact ⟨b, rfl, hd H' F' τ' e t⟩
theorem t_cmp (g : Gd G kn B W H0 N k X) {o : Cm} {a b : Expr} {ia ib : E} (ha : PE X a (tD B W H0 true (ev G ia).v)) (hb : PE X b (tD B W H0 true (ev G ib).v)) (hm : behindInMarks (cmOf o) b = false) :
    PT X (.Compare a [cmOf o] [b] pos) (tB B W H0 (ev G (.cmp o ia ib)).t) := by
  refine ⟨fun pins s σs H Q I hq => ?_⟩
  have hq : tR B W H0 .nil (fun σ => (ev G ia).v σ >>= fun x => (ev G ib).v σ >>= fun y => cmpD o x y >>= boolD) σs H (fun F H τ => QB F H τ Q) := hq
  refine wpAny_isTrue_Compare1 (thn (ha.run pins s σs H _ I (cmp_step fwd_B hq)) fun v s1 ⟨x, H1, I1, r1, q1⟩ => thn (hb.run pins s1 σs H1 _ I1 q1) fun u s2 ⟨y, H2, I2, r2, q2⟩ => ?_) hm
  obtain ⟨dx, dy, F, τ, σ, T, S, rx, ry, h⟩ := q2
  refine thn (cmp_op (l := false) (W := W) (H0 := H0) (Q := fun x H' => ∃ b, x = .bl b ∧ Q b H') g.eK g.room.units I2 r1 r2 ⟨dx, dy, F, τ, σ, T, S, rx, ry, cmp_testQ h⟩) fun c s3 ⟨z, H3, I3, r3, b, e, q3⟩ => ?_
  subst e
  cases r3
  exact wpAny_truthy_bool ⟨H3, I3, q3⟩
end
end Pu

/-! Pu7: not, and, or, conditional values, truth, calls, places, parts. -/
namespace Pu
open PySem PySem.Spec PyProof.Rows L2
section
variable {G : Gam} {kn : Str → Option Bool} {B : Tab} {W : WX} {H0 : Hp} {N : List Str} {k : Nat} {X : Cx} {l l' : Bool} {pos : Pos}
theorem intD_is {d : D} {T : Tp} {Q : Int → Tp → Prop} {E : Str → Tp → Prop} (h : ((intD d) T).is Q E) : ∃ b, d = .int b ∧ Q b T := by
  cases d with
  | int b => exact ⟨b, rfl, h⟩
  | _ => exact False.elim h
/-- the reading's m is replaced by an equal one -/
theorem tR.eqv {α : Type} {c : Carry} {s : L2.St} {H : Hp} {m m' : Env → M α} {Q : Hp → Hp → Ta → α → Tp → Prop} (h : tR B W H0 c m s H Q) (e : ∀ σ, m σ = m' σ) : tR B W H0 c m' s H Q := by
  obtain ⟨F, τ, σ, T, S, hc, h⟩ := h
  exact ⟨F, τ, σ, T, S, hc, by rw [← e]; exact h⟩
theorem tR.stuck {α : Type} {c : Carry} {s : L2.St} {H : Hp} {Q : Hp → Hp → Ta → α → Tp → Prop} {m : Env → M α} (h : tR B W H0 c m s H Q) (e : ∀ σ, m σ = stuck) {P : Prop} : P := by
  obtain ⟨F, τ, σ, T, S, hc, h⟩ := h
  rw [e] at h
  exact False.elim h
theorem n_neg {a : Expr} {ia : E} (ha : PE X a (tD B W H0 true (ev G ia).v)) : PE X (.UnaryOp .USub a pos) (tD B W H0 l (ev G (.neg ia)).v) := by
  refine ⟨fun pins s σs H Q I hq => (pe_un un_neg ha).run pins s σs H Q I ?_⟩
  have hq : tR B W H0 .nil (fun σ => (ev G ia).v σ >>= fun d => intD d >>= fun i => pure (.int (-i))) σs H (fun F H τ => QD B l F H τ Q) := tR.eqv hq fun σ => M.bind_assoc _ _ _
  refine (tR.step fwd_D hq).mono fun v1 H1 ⟨x, F, τ, σ, T, S, ⟨r1, _⟩, h⟩ => ?_
  obtain ⟨i, rfl, h⟩ := intD_is (Res.is_bind.mp h)
  exact ⟨i, r1.x.int, QD.now S h (Rq.of (.int _))⟩
theorem n_not {a : Expr} {ia : E} (ha : PE X a (tD B W H0 true (ev G ia).v)) : PE X (.UnaryOp .Not a pos) (tD B W H0 l (ev G (.nott ia)).v) := by
  refine ⟨fun pins s σs H Q I hq => (pe_not ha).run pins s σs H Q I ?_⟩
  have hq : tR B W H0 .nil (fun σ => (ev G ia).v σ >>= fun d => boolD d >>= fun i => pure (.bl (!i))) σs H (fun F H τ => QD B l F H τ Q) := tR.eqv hq fun σ => M.bind_assoc _ _ _
  refine (tR.step fwd_D hq).mono fun v1 H1 ⟨x, F, τ, σ, T, S, ⟨r1, _⟩, h⟩ => ?_
  obtain ⟨i, rfl, h⟩ := boolD_is (Res.is_bind.mp h)
  exact ⟨i, r1.x.bl, QD.now S h (Rq.of (.bl _))⟩
theorem t_not {a : Expr} {ia : E} (ha : PT X a (tB B W H0 (ev G ia).t)) : PT X (.UnaryOp .Not a pos) (tB B W H0 (ev G (.nott ia)).t) := by
  refine ⟨fun pins s σs H Q I hq => (pt_not ha).run pins s σs H Q I ?_⟩
  have hq : tR B W H0 .nil (fun σ => (ev G ia).t σ >>= fun i => pure (!i)) σs H (fun F H τ => QB F H τ Q) := hq
  refine (tR.stepB fwd_B hq).mono fun b H1 ⟨F, τ, σ, T, S, _, h⟩ => ?_
  exact (show QB F H1 τ Q (!b) T from h) _ _ _ (.refl S.sub) S.tape
/-! ### and, or as values -/
theorem n_and1 {op : BoolOp} {a : Expr} {ia : E} (ha : PE X a (tD B W H0 false (ev G ia).v)) : PE X (.BoolOp op [a] pos) (tD B W H0 false (ev G ia).v) := pe_one ha
theorem n_and {a b : Expr} {rest : List Expr} {ia ib : E} {ir : Es} (ha : PE X a (tD B W H0 true (ev G ia).v)) (hb : PE X (.BoolOp .And (b :: rest) pos) (tD B W H0 false (evalAndV G (.cons ib ir)))) :
    PE X (.BoolOp .And (a :: b :: rest) pos) (tD B W H0 false (evalAndV G (.cons ia (.cons ib ir)))) := by
  refine ⟨fun pins s σs H Q I hq => (pe_and ha hb).run pins s σs H Q I ?_⟩
  have hq : tR B W H0 .nil (fun σ => (ev G ia).v σ >>= fun d => boolD d >>= fun c => if c = true then evalAndV G (.cons ib ir) σ else pure (.bl false)) σs H (fun F H τ => QD B false F H τ Q) := tR.eqv hq fun σ => M.bind_assoc _ _ _
  refine (tR.step fwd_D hq).mono fun v1 H1 ⟨x, F, τ, σ, T, S, ⟨r1, _⟩, h⟩ => ?_
  obtain ⟨c, rfl, h⟩ := boolD_is (Res.is_bind.mp h)
  refine ⟨c, r1.x.bl, ?_⟩
  cases c with
  | true => exact iteT ⟨F, τ, σ, T, S, trivial, h⟩
  | false => exact iteF (QD.now S h (.bl _))
theorem n_or {a b : Expr} {rest : List Expr} {ia ib : E} {ir : Es} (ha : PE X a (tD B W H0 true (ev G ia).v)) (hb : PE X (.BoolOp .Or (b :: rest) pos) (tD B W H0 false (evalOrV G (.cons ib ir)))) :
    PE X (.BoolOp .Or (a :: b :: rest) pos) (tD B W H0 false (evalOrV G (.cons ia (.cons ib ir)))) := by
  refine ⟨fun pins s σs H Q I hq => (pe_or ha hb).run pins s σs H Q I ?_⟩
  have hq : tR B W H0 .nil (fun σ => (ev G ia).v σ >>= fun d => boolD d >>= fun c => if c = true then pure (.bl true) else evalOrV G (.cons ib ir) σ) σs H (fun F H τ => QD B false F H τ Q) := tR.eqv hq fun σ => M.bind_assoc _ _ _
  refine (tR.step fwd_D hq).mono fun v1 H1 ⟨x, F, τ, σ, T, S, ⟨r1, _⟩, h⟩ => ?_
  obtain ⟨c, rfl, h⟩ := boolD_is (Res.is_bind.mp h)
  refine ⟨c, r1.x.bl, ?_⟩
  cases c with
  | true => exact iteT (QD.now S h (.bl _))
  | false => exact iteF ⟨F, τ, σ, T, S, trivial, h⟩
/-! ### as tests -/
theorem t_and1 {a : Expr} {ia : E} (ha : PT X a (tB B W H0 (ev G ia).t)) : PW X (.BoolOp .And [a] pos) (tB B W H0 (evalAndT G (.cons ia .nil))) := by
  refine ⟨fun wh pins s σs H Q I hq => (pw_and1 ha).run wh pins s σs H Q I (tR.eqv hq fun σ => ?_)⟩
  show ((ev G ia).t σ >>= fun b => if b = true then (pure true : M Bool) else pure false) = (ev G ia).t σ
  have e : (fun b : Bool => if b = true then (pure true : M Bool) else pure false) = fun b => pure b := by
    funext b; cases b <;> rfl
  rw [e, M.bind_pure]
theorem t_and {a b : Expr} {rest : List Expr} {ia ib : E} {ir : Es} (ha : PT X a (tB B W H0 (ev G ia).t)) (hb : PW X (.BoolOp .And (b :: rest) pos) (tB B W H0 (evalAndT G (.cons ib ir)))) :
    PW X (.BoolOp .And (a :: b :: rest) pos) (tB B W H0 (evalAndT G (.cons ia (.cons ib ir)))) := by
  refine ⟨fun wh pins s σs H Q I hq => (pw_and ha hb).run wh pins s σs H Q I ?_⟩
  have hq : tR B W H0 .nil (fun σ => (ev G ia).t σ >>= fun c => if c = true then evalAndT G (.cons ib ir) σ else pure false) σs H (fun F H τ => QB F H τ Q) := hq
  refine (tR.stepB fwd_B hq).mono fun c H1 ⟨F, τ, σ, T, S, _, h⟩ => ?_
  cases c with
  | true => exact iteT ⟨F, τ, σ, T, S, trivial, h⟩
  | false => exact iteF ((show QB F H1 τ Q false T from h) _ _ _ (.refl S.sub) S.tape)
theorem t_or1 {a : Expr} {ia : E} (ha : PT X a (tB B W H0 (ev G ia).t)) : PW X (.BoolOp .Or [a] pos) (tB B W H0 (evalOrT G (.cons ia .nil))) := by
  refine ⟨fun wh pins s σs H Q I hq => (pw_or1 ha).run wh pins s σs H Q I (tR.eqv hq fun σ => ?_)⟩
  show ((ev G ia).t σ >>= fun b => if b = true then (pure true : M Bool) else pure false) = (ev G ia).t σ
  have e : (fun b : Bool => if b = true then (pure true : M Bool) else pure false) = fun b => pure b := by
    funext b; cases b <;> rfl
  rw [e, M.bind_pure]
theorem t_or {a b : Expr} {rest : List Expr} {ia ib : E} {ir : Es} (ha : PT X a (tB B W H0 (ev G ia).t)) (hb : PW X (.BoolOp .Or (b :: rest) pos) (tB B W H0 (evalOrT G (.cons ib ir)))) :
    PW X (.BoolOp .Or (a :: b :: rest) pos) (tB B W H0 (evalOrT G (.cons ia (.cons ib ir)))) := by
  refine ⟨fun wh pins s σs H Q I hq => (pw_or ha hb).run wh pins s σs H Q I ?_⟩
  have hq : tR B W H0 .nil (fun σ => (ev G ia).t σ >>= fun c => if c = true then pure true else evalOrT G (.cons ib ir) σ) σs H (fun F H τ => QB F H τ Q) := hq
  refine (tR.stepB fwd_B hq).mono fun c H1 ⟨F, τ, σ, T, S, _, h⟩ => ?_
  cases c with
  | true => exact iteT ((show QB F H1 τ Q true T from h) _ _ _ (.refl S.sub) S.tape)
  | false => exact iteF ⟨F, τ, σ, T, S, trivial, h⟩
theorem n_ite {c a b : Expr} {ic ia ib : E} (hc : PT X c (tB B W H0 (ev G ic).t)) (ha : PE X a (tD B W H0 l (ev G ia).v)) (hb : PE X b (tD B W H0 l (ev G ib).v)) : PE X (.IfExp c a b pos) (tD B W H0 l (ev G (.ite ic ia ib)).v) := by
  refine ⟨fun pins s σs H Q I hq => (pe_ifExp hc ha hb).run pins s σs H Q I ?_⟩
  have hq : tR B W H0 .nil (fun σ => (ev G ic).t σ >>= fun c => if c = true then (ev G ia).v σ else (ev G ib).v σ) σs H (fun F H τ => QD B l F H τ Q) := hq
  refine (tR.stepB fwd_D hq).mono fun c H1 ⟨F, τ, σ, T, S, _, h⟩ => ?_
  cases c with
  | true => exact iteT ⟨F, τ, σ, T, S, trivial, h⟩
  | false => exact iteF ⟨F, τ, σ, T, S, trivial, h⟩
/-! ### truth -/
def leafX : Expr → Bool
  | .Name .. => true
  | .Call .. => true
  | .Subscript .. => true
  | .Constant .. => true
  | _ => false
theorem leaf_true {e : Expr} (h : leafX e = true) (env : PySem.Env) : ∀ whole, isTrue e env whole = (do let v ← whole; standAt e.pos; holding [v] (truthy v)) := by
  intro whole
  cases e <;> first | rfl | (cases h)
theorem isEmpty_len {α β : Type} {xs : List α} {ys : List β} (h : xs.length = ys.length) : (!xs.isEmpty) = !ys.isEmpty := by
  cases xs <;> cases ys <;> first | rfl | (simp at h)
theorem t_leaf (hK : X.K = B.K) {e : Expr} {m : Env → M D} (ha : PE X e (tD B W H0 true m)) (he : leafX e = true) : PT X e (tB B W H0 fun σ => m σ >>= truD) := by
  refine ⟨fun pins s σs H Q I hq => (pt_truth ha (leaf_true he _)).run pins s σs H Q I ?_⟩
  refine (tR.step fwd_B hq).mono fun v1 H1 ⟨x, F, τ, σ, T, S, ⟨r1, _⟩, h⟩ => ?_
  have r1 := r1.x
  have fin : ∀ b, QB F H1 τ Q b T → Q b H1 := fun b h => h _ _ _ (.refl S.sub) S.tape
  cases x with
  | non => rw [r1.non]; exact ⟨false, rfl, fin _ h⟩
  | bl b => rw [r1.bl]; exact ⟨b, rfl, fin _ h⟩
  | int i => rw [r1.int]; exact ⟨i != 0, rfl, fin _ h⟩
  | tup xs =>
    obtain ⟨a, vs, rfl, ha, ra⟩ := r1.tup
    exact ⟨!xs.isEmpty, .inr (.inl ⟨vs, by rw [hK]; exact sqt_mono S.sub ha, (isEmpty_len ra.length).symm⟩), fin _ h⟩
  | lst xs =>
    obtain ⟨a, vs, rfl, ha, ra⟩ := r1.lst S.sub
    exact ⟨!xs.isEmpty, .inl ⟨vs, .inl ha, (isEmpty_len ra.length).symm⟩, fin _ h⟩
  | _ => exact False.elim h
/-! ### calls -/
theorem spOf_of {F H : Hp} {τ : Ta} {σ : Env} {T : Tp} {s : L2.St} {n : Nat} {m : List D → M D} {vs : List V} {ds : List D} {Q : VK} (S : St B H0 F τ σ s H T) (r : RpL B F τ vs ds) (hn : ds.length = n) (h : (m ds T).is (QD B false F H τ Q) (QE B W s F H τ)) :
    spOf B n m vs H Q (WE W s) := ⟨by rw [r.length]; exact hn, F, τ, ds, T, S.sub, S.tape, r, h.mono (fun _ _ q => q) fun _ _ q => q⟩
theorem QD.weak {F H : Hp} {τ : Ta} {Q : VK} {d : D} {T : Tp} (h : QD B l F H τ Q d T) : QD B false F H τ Q d T := fun v H' F' τ' e t r => h v H' F' τ' e t (Rq.of r)
theorem n_call (g : Gd G kn B W H0 N k X) {f : Str} {p : Pos} {e : Expr} {es : List Expr} {irs : Es} (hk : kn f = some true) (hg : Gl X f) (hd : (f == ("__debug__" : Str)) = false) (hs : (e :: es).all (fun e => !isStar e) = true)
    (ha : PA X (e :: es) (tL B W H0 false (evalEs G irs))) : PE X (.Call (.Name f p) (e :: es) [] pos) (tD B W H0 l (ev G (.call f irs)).v) := by
  obtain ⟨a, fd, ps, _, h1, h2, h3, h4, h5⟩ := g.call f hk
  have hs1 : isStar e = false := by
    rw [List.all_cons, Bool.and_eq_true] at hs
    simpa using hs.1
  have hs2 : es.all (fun e => !isStar e) = true := by
    rw [List.all_cons, Bool.and_eq_true] at hs
    exact hs.2
  refine ⟨fun pins s σs H Q I hq => (pe_callS h4 g.room hg h1 h2 h3 g.pass ha hd (starEach_cons hs1) (starEach_any hs2)).run pins s σs H Q I ?_⟩
  have hq : tR B W H0 .nil (fun σ => evalEs G irs σ >>= fun ds => G.call f ds) σs H (fun F H τ => QD B l F H τ Q) := hq
  refine (tR.stepL fwd_D hq).mono fun vs H2 ⟨ds, F, τ, σ, T, S, ⟨r2, _⟩, h⟩ => ?_
  exact spOf_of S (rpl_paired r2) (h5 _ _ _ _ h) (h.mono (fun _ _ q => QD.weak q) fun _ _ q => q)
theorem n_call0 (g : Gd G kn B W H0 N k X) {f : Str} {p : Pos} (hk : kn f = some true) (hg : Gl X f) (hd : (f == ("__debug__" : Str)) = false) (hx : ∀ σ, PassesAt (L2.CX X.prog X.w) X σ (WE W σ)) :
    PE X (.Call (.Name f p) [] [] pos) (tD B W H0 l (ev G (.call f .nil)).v) := by
  obtain ⟨a, fd, ps, _, h1, h2, h3, h4, h5⟩ := g.call f hk
  refine ⟨fun pins s σs H Q I hq => ?_⟩
  have hq : tR B W H0 .nil (fun σ => G.call f []) σs H (fun F H τ => QD B l F H τ Q) := hq
  obtain ⟨F, τ, σ, T, S, _, h⟩ := hq
  refine wpAny_Call_Name_kw (ld_glob I hg h1 ?_ hd)
  refine PySem.W.callWith_K0 I.kIn h2 (run_fnS (us := []) (vs := []) h4 g.room h3 (hx σs) I .nil ?_)
  exact spOf_of S .nil (h5 _ _ _ _ h) (h.mono (fun _ _ q => QD.weak q) fun _ _ q => q)
/-- the def that a slot holds -/
theorem n_callv (g : Gd G kn B W H0 N k X) {i : Nat} {x : Str} {p : Pos} {e : Expr} {es : List Expr} {irs : Es} (hN : X.N[i]? = some x) (hv : Vis X.env.scope x) (hd : (x == ("__debug__" : Str)) = false) (hcd : (x == ("__classdict__" : Str)) = false)
    (hs : (e :: es).all (fun e => !isStar e) = true) (ha : PA X (e :: es) (tL B W H0 false (evalEs G irs))) (hfa : ∀ y a, B.fa y = some a → G.isFn y = true) : PE X (.Call (.Name x p) (e :: es) [] pos) (tD B W H0 l (ev G (.callv i irs)).v) := by
  have hs1 : isStar e = false := by
    rw [List.all_cons, Bool.and_eq_true] at hs
    simpa using hs.1
  have hs2 : es.all (fun e => !isStar e) = true := by
    rw [List.all_cons, Bool.and_eq_true] at hs
    exact hs.2
  refine ⟨fun pins s σs H Q I hq => ?_⟩
  have hq : tR B W H0 .nil (fun σ => (match σ[i]? with | some (some (.val (.fn f))) => evalEs G irs σ >>= fun ds => G.call f ds | _ => stuck : M D)) σs H (fun F H τ => QD B l F H τ Q) := hq
  obtain ⟨F, τ, σ, T, S, _, h⟩ := hq
  cases e1 : σ[i]? with
  | none => simp only [e1] at h; exact False.elim h
  | some o =>
    cases o with
    | none => simp only [e1] at h; exact False.elim h
    | some sv =>
      cases sv with
      | own xs => simp only [e1] at h; exact False.elim h
      | val d =>
        cases d with
        | fn f =>
          simp only [e1] at h
          obtain ⟨v, hv1, r⟩ := S.slot i _ e1
          cases r with
          | fn hf =>
            rename_i a
            obtain ⟨a2, b1, b2, b3⟩ := g.fn f (hfa _ _ hf)
            obtain ⟨a3, fd, ps, c0, c1, c2, c3, c4, c5⟩ := g.call f b3
            rw [hf] at b1; cases b1
            have := c0 a hf
            subst this
            refine wpAny_Call_Name_kw (thn ((pe_var (pos := p) hN hv hd hcd).run pins s σs H (fun v H1 => v = .ref a ∧ H1 = H) I ⟨.ref a, hv1, rfl, rfl⟩) fun u s1 ⟨v, H1, I1, r1, q1⟩ => ?_)
            obtain ⟨rfl, rfl⟩ := q1
            cases r1
            have hq : tR B W H0 .nil (fun σ => evalEs G irs σ >>= fun ds => G.call f ds) σs H1 (fun F H τ => QD B l F H τ Q) := ⟨F, τ, σ, T, S, trivial, h⟩
            refine PySem.W.callWith_K (h₀ := X.base) I1.ok.mod.kin c2 (thn (ha.run pos pins s1 σs H1 _ I1 (tR.stepL fwd_D hq)) fun us s2 ⟨vs, H2, I2, r, ds, F2, τ2, σ2, T2, S2, ⟨r2, _⟩, h2⟩ => ⟨I2.kIn, ?_⟩) (starEach_cons hs1) (starEach_any hs2)
            exact run_fnS c4 g.room c3 (g.pass σs) I2 r (spOf_of S2 (rpl_paired r2) (c5 _ _ _ _ h2) (h2.mono (fun _ _ q => QD.weak q) fun _ _ q => q))
        | _ => simp only [e1] at h; exact False.elim h
/-! ### places and parts -/
theorem RpL.atI {F : Hp} {τ : Ta} {vs : List V} {ds : List D} (r : RpL B F τ vs ds) {i : Int} {d : D} (h : L2.atI ds i = some d) : ∃ v, L2.atI vs i = some v ∧ Rp B F τ v d := by
  unfold L2.atI at h ⊢
  rw [r.length]
  cases e : ixN ds.length i with
  | none => rw [e] at h; cases h
  | some j =>
    rw [e] at h
    exact r.get h
theorem n_idx (g : Gd G kn B W H0 N k X) {a b : Expr} {ia ib : E} (ha : PE X a (tD B W H0 true (ev G ia).v)) (hb : PE X b (tD B W H0 true (ev G ib).v)) (hs : PlainIx b) : PE X (.Subscript a b pos) (tD B W H0 l (ev G (.idx ia ib)).v) := by
  refine ⟨fun pins s σs H Q I hq => (pe_ix (ix_list.or ix_tup) ha hb hs).run pins s σs H Q I ?_⟩
  have hq : tR B W H0 .nil (fun σ => (ev G ia).v σ >>= fun x => (ev G ib).v σ >>= fun y => idxD x y) σs H (fun F H τ => QD B l F H τ Q) := hq
  refine (tR.step fwd_D hq).mono fun v1 H1 ⟨x, h1⟩ => (tR.step fwd_D h1).mono fun v2 H2 ⟨y, F, τ, σ, T, S, ⟨r2, r1, _⟩, h⟩ => ?_
  cases x with
  | tup xs =>
    cases y with
    | int i =>
      obtain ⟨d, e, h⟩ := ofOpt_is h
      obtain ⟨a, vs, rfl, ha, ra⟩ := r1.x.tup
      obtain ⟨v, e2, rv⟩ := RpL.atI ra e
      exact .inr ⟨a, vs, i, v, rfl, r2.x.int, by rw [g.eK]; exact sqt_mono S.sub ha, e2, QD.now S h (Rq.of rv)⟩
    | _ => exact False.elim h
  | lst xs =>
    cases y with
    | int i =>
      obtain ⟨d, e, h⟩ := ofOpt_is h
      obtain ⟨a, vs, rfl, ha, ra⟩ := r1.x.lst S.sub
      obtain ⟨v, e2, rv⟩ := RpL.atI ra e
      exact .inl ⟨a, vs, i, v, rfl, r2.x.int, .inl ha, e2, QD.now S h (Rq.of rv)⟩
    | _ => exact False.elim h
  | _ => exact False.elim h
def tO (B : Tab) (W : WX) (H0 : Hp) (k : Env → M (Option Int)) : TO := fun s H Q => tR B W H0 .nil k s H fun F H τ o T' => ∀ H' F' τ', Ext F H τ F' H' τ' → TapeAt F' H' τ' T' → Q o H'
theorem o_none : PO X none (tO B W H0 (evalO G .none)) := by
  refine ⟨fun pins s σs H Q I hq => po_none.run pins s σs H Q I ?_⟩
  obtain ⟨F, τ, σ, T, S, _, h⟩ := hq
  exact h _ _ _ (.refl S.sub) S.tape
theorem fwd_O {Q : Option Int → Hp → Prop} : Fwd (fun F H τ (o : Option Int) T' => ∀ H' F' τ', Ext F H τ F' H' τ' → TapeAt F' H' τ' T' → Q o H') := ⟨fun e h _ _ _ e' t => h _ _ _ (e.trans e') t⟩
theorem o_some {e : Expr} {ie : E} (he : PE X e (tD B W H0 true (ev G ie).v)) : PO X (some e) (tO B W H0 (evalO G (.some ie))) := by
  refine ⟨fun pins s σs H Q I hq => (po_some he).run pins s σs H Q I ?_⟩
  have hq := tR.eqv hq (m' := fun σ => (ev G ie).v σ >>= fun d => intD d >>= fun i => pure (some i)) fun σ => M.bind_assoc _ _ _
  refine (tR.step fwd_O hq).mono fun v1 H1 ⟨x, F, τ, σ, T, S, ⟨r1, _⟩, h⟩ => ?_
  obtain ⟨i, rfl, h⟩ := intD_is (Res.is_bind.mp h)
  exact ⟨i, r1.x.int, h _ _ _ (.refl S.sub) S.tape⟩
theorem tR.stepO {β : Type} {c : Carry} {s : L2.St} {H : Hp} {m : Env → M (Option Int)} {f : Env → Option Int → M β} {Q : Hp → Hp → Ta → β → Tp → Prop} (fw : Fwd Q) (h : tR B W H0 c (fun σ => m σ >>= f σ) s H Q) :
    tO B W H0 m s H (fun b H1 => tR B W H0 c (fun σ => f σ b) s H1 Q) := by
  obtain ⟨F, τ, σ, T, S, hc, h⟩ := h
  refine ⟨F, τ, σ, T, S, trivial, ?_⟩
  rw [Res.is_bind] at h
  refine h.mono (fun x T1 hx H' F' τ' e t => ?_) fun _ _ z => z
  exact ⟨F', τ', σ, T1, S.ext e t, c.mono e hc, hx.mono (fun a t q => fw.run e q) fun _ _ z => z.shift e⟩
theorem tO.mono {s : L2.St} {H : Hp} {m : Env → M (Option Int)} {Q Q' : Option Int → Hp → Prop} (h : tO B W H0 m s H Q) (hQ : ∀ v H, Q v H → Q' v H) : tO B W H0 m s H Q' := by
  obtain ⟨F, τ, σ, T, S, hc, h⟩ := h
  exact ⟨F, τ, σ, T, S, hc, h.mono (fun a t q H' F' τ' e t' => hQ _ _ (q H' F' τ' e t')) fun _ _ z => z⟩
theorem cut_rp {F : Hp} {τ : Ta} {vs : List V} {ds : List D} (r : RpL B F τ vs ds) (lo hi : Option Int) : RpL B F τ (cutV vs lo hi) (cutD ds lo hi) := by
  unfold cutV cutD
  rw [r.length]
  exact (r.drop _).take _
theorem n_slc (g : Gd G kn B W H0 N k X) {a : Expr} {lo hi : Option Expr} {p2 : Pos} {ia : E} {il ih : Oe} (ha : PE X a (tD B W H0 true (ev G ia).v)) (hl : PO X lo (tO B W H0 (evalO G il))) (hh : PO X hi (tO B W H0 (evalO G ih))) :
    PE X (.Subscript a (.Slice lo hi none p2) pos) (tD B W H0 l (ev G (.slc ia il ih)).v) := by
  refine ⟨fun pins s σs H Q I hq => (pe_slice (sl_tupA.or sl_list) ha hl hh).run pins s σs H Q I ?_⟩
  have hq : tR B W H0 .nil (fun σ => (ev G ia).v σ >>= fun x => evalO G il σ >>= fun u => evalO G ih σ >>= fun w => slcD x u w) σs H (fun F H τ => QD B l F H τ Q) := hq
  refine (tR.step (l := true) fwd_D hq).mono fun v1 H1 ⟨x, h1⟩ => (tR.stepO fwd_D h1).mono fun u H2 h2 => (tR.stepO fwd_D h2).mono fun w H3 ⟨F, τ, σ, T, S, ⟨r1, _⟩, h⟩ => ?_
  cases x with
  | tup xs =>
    have h : QD B l F H3 τ Q (.tup (cutD xs u w)) T := h
    obtain ⟨a, vs, rfl, ha, ra⟩ := r1.x.tup
    refine .inl ⟨a, vs, rfl, by rw [g.eK]; exact sqt_mono S.sub ha, fun e => ?_, fun e p hp => ?_⟩
    · have hc : cutD xs u w = xs := by
        unfold cutD
        rw [ra.length] at e
        rw [e.1, e.2, List.drop_zero, Nat.sub_zero, List.take_length]
      rw [hc] at h
      exact QD.now S h (Rq.of (.tup ha ra))
    · exact QD.laid S h hp (.tup (.inl (.inl upd_same)) (RpL.mono (Ext.laid (τ := τ) S.sub hp).grow (Tle.refl _) (cut_rp ra u w)))
  | lst xs =>
    obtain ⟨a, vs, rfl, ha, ra⟩ := r1.x.lst S.sub
    refine .inr ⟨a, vs, rfl, .inl ha, fun p hp => ?_⟩
    exact QD.laid S h hp (.lst (.inl upd_same) (RpL.mono (Ext.laid (τ := τ) S.sub hp).grow (Tle.refl _) (cut_rp ra u w)))
  | _ => exact False.elim h
end
end Pu

/-! Pu8: built-in functions by name, isinstance. -/
namespace Pu
open PySem PySem.Spec PyProof.Rows L2
section
variable {G : Gam} {kn : Str → Option Bool} {B : Tab} {W : WX} {H0 : Hp} {N : List Str} {k : Nat} {X : Cx} {l l' : Bool} {pos : Pos}
/-- a name of a built-in that the module leaves alone -/
structure Bn (kn : Str → Option Bool) (X : Cx) (x : Str) : Prop where
  gl : Gl X x
  nk : kn x = some false
  nn : x ≠ "__name__"
  nd : (x == ("__debug__" : Str)) = false
theorem Bn.mg (g : Gd G kn B W H0 N k X) {x : Str} (b : Bn kn X x) {v : Value} (hv : bootBuiltins x = some v) : X.mg x = none := g.blt x (by rw [hv]; simp) b.nn b.nk
def rPr (B : Tab) (W : WX) (H0 : Hp) (l : Bool) (p : Pr) (s : L2.St) : List V → Hp → VK → Prop := fun vs H Q => ∃ ds F τ σ T, St B H0 F τ σ s H T ∧ Paired (Rq B true F τ H) vs ds ∧ (primD p ds T).is (QD B l F H τ Q) (QE B W s F H τ)
theorem paired1 {R : V → D → Prop} {vs : List V} {d : D} (h : Paired R vs [d]) : ∃ v, vs = [v] ∧ R v d := by
  cases h with | cons r t => cases t; exact ⟨_, rfl, r⟩
theorem paired2 {R : V → D → Prop} {vs : List V} {d e : D} (h : Paired R vs [d, e]) : ∃ v w, vs = [v, w] ∧ R v d ∧ R w e := by
  cases h with | cons r t => cases t with | cons r2 t => cases t; exact ⟨_, _, rfl, r, r2⟩
theorem boolsD_rp {F : Hp} {τ : Ta} : ∀ {ds : List D} {bs : List Bool} {vs : List V}, boolsD ds = some bs → RpL B F τ vs ds → vs = bs.map V.bl
  | [], bs, vs, e, r => by cases r; simp [boolsD] at e; subst e; rfl
  | d :: ds, bs, vs, e, r => by
    cases r with
    | cons h r =>
      cases d with
      | bl b =>
        simp only [boolsD, Option.map_eq_some_iff] at e
        obtain ⟨bs', e1, rfl⟩ := e
        cases h
        rw [boolsD_rp e1 r]; rfl
      | _ => simp [boolsD] at e
theorem intsD_rp {F : Hp} {τ : Ta} : ∀ {ds : List D} {bs : List Int} {vs : List V}, intsD ds = some bs → RpL B F τ vs ds → vs = bs.map V.int
  | [], bs, vs, e, r => by cases r; simp [intsD] at e; subst e; rfl
  | d :: ds, bs, vs, e, r => by
    cases r with
    | cons h r =>
      cases d with
      | int b =>
        simp only [intsD, Option.map_eq_some_iff] at e
        obtain ⟨bs', e1, rfl⟩ := e
        cases h
        rw [intsD_rp e1 r]; rfl
      | _ => simp [intsD] at e
/-- the arguments of a call, by the rule of the called -/
theorem prim_go {p : Pr} {irs : Es} {σs : L2.St} {H : Hp} {Q : VK} {t : TA} (ht : t = tL B W H0 true (evalEs G irs))
    (hq : tD B W H0 l (ev G (.prim p irs)).v σs H Q) {r : List V → Hp → VK → Prop} (hr : ∀ vs H2, rPr B W H0 l p σs vs H2 Q → r vs H2 Q) : tCB r t σs H Q := by
  subst ht
  have hq : tR B W H0 .nil (fun σ => evalEs G irs σ >>= fun ds => primD p ds) σs H (fun F H τ => QD B l F H τ Q) := hq
  exact (tR.stepL fwd_D hq).mono fun vs H2 ⟨ds, F, τ, σ, T, S, ⟨r2, _⟩, h⟩ => hr vs H2 ⟨ds, F, τ, σ, T, S, r2, h⟩
theorem pr_len (hK : X.K = B.K) {s : L2.St} {vs : List V} {H : Hp} {Q : VK} (h : rPr B W H0 l .len s vs H Q) : ∃ p ys, vs = [.ref p] ∧ (SqL X.K H p ys ∨ SqT X.K H p ys) ∧ Q (.int ys.length) H := by
  obtain ⟨ds, F, τ, σ, T, S, r, h⟩ := h
  have h : ((lenD ds) T).is (QD B l F H τ Q) (QE B W s F H τ) := h
  unfold lenD at h
  split at h <;> first | exact False.elim h | skip
  · obtain ⟨v, rfl, r1⟩ := paired1 r
    obtain ⟨a, ws, rfl, ha, ra⟩ := RpX.tup r1
    exact ⟨a, ws, rfl, .inr (by rw [hK]; exact sqt_mono S.sub ha), by rw [ra.length]; exact QD.now S h (Rq.of (.int _))⟩
  · obtain ⟨v, rfl, r1⟩ := paired1 r
    obtain ⟨a, ws, rfl, ha, ra⟩ := RpX.lst S.sub r1
    exact ⟨a, ws, rfl, .inl (.inl ha), by rw [ra.length]; exact QD.now S h (Rq.of (.int _))⟩
theorem pr_abs {s : L2.St} {vs : List V} {H : Hp} {Q : VK} (h : rPr B W H0 l .abs s vs H Q) : ∃ i, vs = [.int i] ∧ Q (.int (if i < 0 then -i else i)) H := by
  obtain ⟨ds, F, τ, σ, T, S, r, h⟩ := h
  have h : ((absD ds) T).is (QD B l F H τ Q) (QE B W s F H τ) := h
  unfold absD at h
  split at h <;> first | exact False.elim h | skip
  obtain ⟨v, rfl, r1⟩ := paired1 r
  rw [RpX.int r1]
  exact ⟨_, rfl, QD.now S h (Rq.of (.int _))⟩
theorem pr_int {s : L2.St} {vs : List V} {H : Hp} {Q : VK} (h : rPr B W H0 l .int s vs H Q) : (∃ i, vs = [.int i] ∧ Q (.int i) H) ∨ ∃ k, vs = [.bl k] ∧ Q (.int (if k then 1 else 0)) H := by
  obtain ⟨ds, F, τ, σ, T, S, r, h⟩ := h
  have h : ((intF ds) T).is (QD B l F H τ Q) (QE B W s F H τ) := h
  unfold intF at h
  split at h <;> first | exact False.elim h | skip
  · obtain ⟨v, rfl, r1⟩ := paired1 r
    rw [RpX.int r1]
    exact .inl ⟨_, rfl, QD.now S h (Rq.of (.int _))⟩
  · obtain ⟨v, rfl, r1⟩ := paired1 r
    rw [RpX.bl r1]
    exact .inr ⟨_, rfl, QD.now S h (Rq.of (.int _))⟩
theorem pr_all (hK : X.K = B.K) {s : L2.St} {vs : List V} {H : Hp} {Q : VK} (h : rPr B W H0 l .all s vs H Q) : rAll X.K vs H Q := by
  obtain ⟨ds, F, τ, σ, T, S, r, h⟩ := h
  have h : ((allD ds) T).is (QD B l F H τ Q) (QE B W s F H τ) := h
  unfold allD at h
  split at h <;> first | exact False.elim h | skip
  obtain ⟨bs, e, h⟩ := ofOpt_is (Res.is_bind.mp h)
  obtain ⟨v, rfl, r1⟩ := paired1 r
  obtain ⟨a, ws, rfl, ha, ra⟩ := RpX.lst S.sub r1
  have := boolsD_rp e ra
  subst this
  exact ⟨a, bs, rfl, .inl ha, QD.now S h (Rq.of (.bl _))⟩
theorem pr_any (hK : X.K = B.K) {s : L2.St} {vs : List V} {H : Hp} {Q : VK} (h : rPr B W H0 l .any s vs H Q) : rAny X.K vs H Q := by
  obtain ⟨ds, F, τ, σ, T, S, r, h⟩ := h
  have h : ((anyD ds) T).is (QD B l F H τ Q) (QE B W s F H τ) := h
  unfold anyD at h
  split at h <;> first | exact False.elim h | skip
  obtain ⟨bs, e, h⟩ := ofOpt_is (Res.is_bind.mp h)
  obtain ⟨v, rfl, r1⟩ := paired1 r
  obtain ⟨a, ws, rfl, ha, ra⟩ := RpX.lst S.sub r1
  have := boolsD_rp e ra
  subst this
  exact ⟨a, bs, rfl, .inl ha, QD.now S h (Rq.of (.bl _))⟩
theorem pr_max2 {s : L2.St} {vs : List V} {H : Hp} {Q : VK} (h : rPr B W H0 l .max2 s vs H Q) : ∃ i j, vs = [.int i, .int j] ∧ Q (.int (if j > i then j else i)) H := by
  obtain ⟨ds, F, τ, σ, T, S, r, h⟩ := h
  have h : ((max2D ds) T).is (QD B l F H τ Q) (QE B W s F H τ) := h
  unfold max2D at h
  split at h <;> first | exact False.elim h | skip
  obtain ⟨v, w, rfl, r1, r2⟩ := paired2 r
  rw [RpX.int r1, RpX.int r2]
  exact ⟨_, _, rfl, QD.now S h (Rq.of (.int _))⟩
theorem pr_min2 {s : L2.St} {vs : List V} {H : Hp} {Q : VK} (h : rPr B W H0 l .min2 s vs H Q) : ∃ i j, vs = [.int i, .int j] ∧ Q (.int (if j < i then j else i)) H := by
  obtain ⟨ds, F, τ, σ, T, S, r, h⟩ := h
  have h : ((min2D ds) T).is (QD B l F H τ Q) (QE B W s F H τ) := h
  unfold min2D at h
  split at h <;> first | exact False.elim h | skip
  obtain ⟨v, w, rfl, r1, r2⟩ := paired2 r
  rw [RpX.int r1, RpX.int r2]
  exact ⟨_, _, rfl, QD.now S h (Rq.of (.int _))⟩
theorem pr_tuple (hK : X.K = B.K) {s : L2.St} {vs : List V} {H : Hp} {Q : VK} (h : rPr B W H0 l .tuple s vs H Q) : ∃ p ys, vs = [.ref p] ∧ ((SqL X.K H p ys ∧ ∀ l, H l = none → Q (.ref l) (upd H l (.tup ys))) ∨ (SqT X.K H p ys ∧ Q (.ref p) H)) := by
  obtain ⟨ds, F, τ, σ, T, S, r, h⟩ := h
  have h : ((tupleD ds) T).is (QD B l F H τ Q) (QE B W s F H τ) := h
  unfold tupleD at h
  split at h <;> first | exact False.elim h | skip
  · obtain ⟨v, rfl, r1⟩ := paired1 r
    obtain ⟨a, ws, rfl, ha, ra⟩ := RpX.lst S.sub r1
    exact ⟨a, ws, rfl, .inl ⟨.inl ha, fun p hp => QD.laid S h hp (.tup (.inl (.inl upd_same)) (RpL.mono (Ext.laid (τ := τ) S.sub hp).grow (Tle.refl _) ra))⟩⟩
  · obtain ⟨v, rfl, r1⟩ := paired1 r
    obtain ⟨a, ws, rfl, ha, ra⟩ := RpX.tup r1
    exact ⟨a, ws, rfl, .inr ⟨by rw [hK]; exact sqt_mono S.sub ha, QD.now S h (Rq.of (.tup ha ra))⟩⟩
/-- which built-in it is -/
def prN : Pr → Str
  | .len => "len"
  | .abs => "abs"
  | .int => "int"
  | .all => "all"
  | .any => "any"
  | .sum => "sum"
  | .max1 => "max"
  | .min1 => "min"
  | .max2 => "max"
  | .min2 => "min"
  | .tuple => "tuple"
  | .list => "list"
theorem n_prim (g : Gd G kn B W H0 N k X) {q : Pr} {p : Pos} {e : Expr} {es : List Expr} {irs : Es} (b : Bn kn X (prN q)) (hs : (e :: es).all (fun e => !isStar e) = true) (ha : PA X (e :: es) (tL B W H0 true (evalEs G irs))) (hl : q ≠ .list) (hq2 : q ≠ .sum ∧ q ≠ .max1 ∧ q ≠ .min1) :
    PE X (.Call (.Name (prN q) p) (e :: es) [] pos) (tD B W H0 l (ev G (.prim q irs)).v) := by
  have hs1 : isStar e = false := by
    rw [List.all_cons, Bool.and_eq_true] at hs
    simpa using hs.1
  have hs2 : es.all (fun e => !isStar e) = true := by
    rw [List.all_cons, Bool.and_eq_true] at hs
    exact hs.2
  have s1 := @starEach_cons e es X.env hs1
  have s2 := @starEach_any es X.env pos hs2
  refine ⟨fun pins s σs H Q I hq => ?_⟩
  cases q with
  | len => exact (pe_callB call_len_seq b.gl (b.mg g PySem.boot_len) PySem.boot_len ha b.nn b.nd s1 s2).run pins s σs H Q I (prim_go rfl hq fun _ _ h => pr_len g.eK h)
  | abs => exact (pe_callB call_abs b.gl (b.mg g (v := .builtin "abs") (by decide +kernel)) (by decide +kernel) ha b.nn b.nd s1 s2).run pins s σs H Q I (prim_go rfl hq fun _ _ h => pr_abs h)
  | int => exact (pe_callTy call_int1 b.gl (b.mg g (v := .type "int") (by decide +kernel)) (by decide +kernel) ha b.nn b.nd s1 s2).run pins s σs H Q I (prim_go rfl hq fun _ _ h => pr_int h)
  | all => exact (pe_callB (cr_all g.calm) b.gl (b.mg g (v := .builtin "all") (by decide +kernel)) (by decide +kernel) ha b.nn b.nd s1 s2).run pins s σs H Q I (prim_go rfl hq fun _ _ h => pr_all g.eK h)
  | any => exact (pe_callB (cr_any g.calm) b.gl (b.mg g (v := .builtin "any") (by decide +kernel)) (by decide +kernel) ha b.nn b.nd s1 s2).run pins s σs H Q I (prim_go rfl hq fun _ _ h => pr_any g.eK h)
  | max2 => exact (pe_callB (call_max2 g.calm) b.gl (b.mg g (v := .builtin "max") (by decide +kernel)) (by decide +kernel) ha b.nn b.nd s1 s2).run pins s σs H Q I (prim_go rfl hq fun _ _ h => pr_max2 h)
  | min2 => exact (pe_callB (call_min2 g.calm) b.gl (b.mg g (v := .builtin "min") (by decide +kernel)) (by decide +kernel) ha b.nn b.nd s1 s2).run pins s σs H Q I (prim_go rfl hq fun _ _ h => pr_min2 h)
  | tuple => exact (pe_callTy call_tuple_of b.gl (b.mg g (v := .type "tuple") (by decide +kernel)) (by decide +kernel) ha b.nn b.nd s1 s2).run pins s σs H Q I (prim_go rfl hq fun _ _ h => pr_tuple g.eK h)
  | list => exact absurd rfl hl
  | sum => exact absurd rfl hq2.1
  | max1 => exact absurd rfl hq2.2.1
  | min1 => exact absurd rfl hq2.2.2
/-- list(x): a new list -/
theorem n_listN (g : Gd G kn B W H0 N k X) {p : Pos} {e : Expr} {es : List Expr} {irs : Es} (b : Bn kn X "list") (hs : (e :: es).all (fun e => !isStar e) = true) (ha : PA X (e :: es) (tL B W H0 true (evalEs G irs))) :
    PE X (.Call (.Name "list" p) (e :: es) [] pos) (tN B W H0 fun σ => (ev G (.prim .list irs)).v σ >>= lstD) := by
  have hs1 : isStar e = false := by
    rw [List.all_cons, Bool.and_eq_true] at hs
    simpa using hs.1
  have hs2 : es.all (fun e => !isStar e) = true := by
    rw [List.all_cons, Bool.and_eq_true] at hs
    exact hs.2
  refine ⟨fun pins s σs H Q I hq => (pe_callTy call_list_of b.gl (b.mg g (v := .type "list") (by decide +kernel)) (by decide +kernel) ha b.nn b.nd (starEach_cons hs1) (starEach_any hs2)).run pins s σs H Q I ?_⟩
  have hq : tR B W H0 .nil (fun σ => evalEs G irs σ >>= fun ds => primD .list ds >>= lstD) σs H (fun F H τ => QN B F H τ Q) := tR.eqv hq fun σ => M.bind_assoc _ _ _
  refine (tR.stepL fwd_N hq).mono fun vs H2 ⟨ds, F, τ, σ, T, S, ⟨r, _⟩, h⟩ => ?_
  have h : ((listD ds) T).is (fun d T1 => (lstD d T1).is (QN B F H2 τ Q) (QE B W σs F H2 τ)) (QE B W σs F H2 τ) := Res.is_bind.mp h
  unfold listD at h
  split at h <;> first | exact False.elim h | skip
  · obtain ⟨v, rfl, r1⟩ := paired1 r
    obtain ⟨a, ws, rfl, ha, ra⟩ := RpX.lst S.sub r1
    obtain ⟨ds, e, h⟩ := (show QN B F H2 τ Q (.lst _) T from h)
    cases e
    refine ⟨a, ws, rfl, .inl (.inl ha), fun p hp => h ws p _ _ _ (.refl S.sub) S.tape ra hp⟩
  · obtain ⟨v, rfl, r1⟩ := paired1 r
    obtain ⟨a, ws, rfl, ha, ra⟩ := RpX.tup r1
    obtain ⟨ds, e, h⟩ := (show QN B F H2 τ Q (.lst _) T from h)
    cases e
    refine ⟨a, ws, rfl, .inr (by rw [g.eK]; exact sqt_mono S.sub ha), fun p hp => h ws p _ _ _ (.refl S.sub) S.tape ra hp⟩
theorem list_own (irs : Es) (σ : Env) : (ev G (.prim .list irs)).v σ >>= lstD = (ev G (.prim .list irs)).v σ := by
  show (evalEs G irs σ >>= fun ds => listD ds) >>= lstD = (evalEs G irs σ >>= fun ds => listD ds)
  rw [M.bind_assoc]
  congr 1
  funext ds
  unfold listD
  split <;> rfl
/-! ### isinstance -/
def tyN : Ty → String
  | .int => "int"
  | .bool => "bool"
  | .tuple => "tuple"
  | .list => "list"
  | .str => "str"
/-- the name of a tree's kind -/
def kdN : D → Option String
  | .non => some "NoneType"
  | .bl _ => some "bool"
  | .int _ => some "int"
  | .str _ => some "str"
  | .tup _ => some "tuple"
  | .lst _ => some "list"
  | _ => none
theorem isTy_kd {d : D} {t : Ty} {b : Bool} (h : isTy d t = some b) : ∃ n, kdN d = some n ∧ kitB n (tyN t) = some b := by
  cases d <;> cases t <;> simp [isTy] at h <;> (subst h; exact ⟨_, rfl, by decide +kernel⟩)
theorem tyx_of (hK : X.K = B.K) {F H : Hp} {τ : Ta} {v : V} {d : D} (sub : Same F H) (r : RpX B F τ H v d) {n : String} (h : kdN d = some n) : TyX X.K H v (.type n) := by
  cases d with
  | non => cases h; rw [r.non]; exact .base .non
  | bl b => cases h; rw [r.bl]; exact .base (.bl b)
  | int i => cases h; rw [r.int]; exact .base (.int i)
  | str x => cases h; rw [r.str]; exact .base (.str x)
  | tup xs =>
    cases h
    obtain ⟨a, ws, rfl, ha, ra⟩ := r.tup
    rcases sqt_mono sub ha with (ha | ⟨o, ha⟩) | ⟨o, its, n, h1, h2, _⟩
    · exact .base (.tup ha)
    · exact .fTuple ha
    · exact .kTuple (by rw [hK]; exact h1) h2
  | lst xs =>
    cases h
    obtain ⟨a, ws, rfl, ha, ra⟩ := r.lst sub
    rcases ha with ha | ⟨o, ha⟩
    · exact .base (.lst ha)
    · exact .base (.frz ha)
  | _ => cases h
theorem isTys_kit {K : PySem.W.Frag} {d : D} : ∀ {ts : List Ty} {b : Bool} {n : String}, kdN d = some n → isTys d ts = some b → PySem.W.kitAny K (.type n) (ts.map fun t => Value.type (tyN t)) = some b
  | [], b, n, _, h => by cases h; exact kitAny_nil
  | t :: ts, b, n, hn, h => by
    unfold isTys at h
    cases e : isTy d t with
    | none => rw [e] at h; cases h
    | some c =>
      rw [e] at h
      obtain ⟨n', h1, h2⟩ := isTy_kd e
      rw [hn] at h1; cases h1
      cases c with
      | true => cases h; exact kitAny_cons (kit_ty h2) (fun z => by cases z) fun _ => rfl
      | false => exact kitAny_cons (kit_ty h2) (fun _ => isTys_kit hn h) fun z => by cases z
def tyX (t : Ty) (p : Pos) : Expr := .Name (Str.ofString (tyN t)) p
theorem n_ty (g : Gd G kn B W H0 N k X) {t : Ty} {p : Pos} (b : Bn kn X (Str.ofString (tyN t))) : PE X (.Name (Str.ofString (tyN t)) p) (tC (.ty (tyN t))) := by
  have hv : bootBuiltins (Str.ofString (tyN t)) = some (.type (tyN t)) := by cases t <;> decide +kernel
  exact pe_bltn b.gl (b.mg g hv) hv rfl b.nn b.nd
/-- isinstance(e, T) -/
theorem n_isi (g : Gd G kn B W H0 N k X) {t : Ty} {p p1 : Pos} {e : Expr} {ie : E} (b : Bn kn X "isinstance") (bt : Bn kn X (Str.ofString (tyN t))) (hs : isStar e = false) (ha : PE X e (tD B W H0 true (ev G ie).v)) :
    PE X (.Call (.Name "isinstance" p) [e, .Name (Str.ofString (tyN t)) p1] [] pos) (tD B W H0 l (ev G (.isi ie [t])).v) := by
  have hv : bootBuiltins ("isinstance" : Str) = some (.builtin "isinstance") := by decide +kernel
  refine ⟨fun pins s σs H Q I hq => (pe_callB call_isi b.gl (b.mg g hv) hv (pa_cons ha (pa_cons (n_ty g bt) pa_nil (starEach_cons rfl)) (starEach_cons hs)) b.nn b.nd (starEach_cons hs) (starEach_any rfl)).run pins s σs H Q I ?_⟩
  have hq : tR B W H0 .nil (fun σ => (ev G ie).v σ >>= fun d => ofOpt (isTys d [t]) >>= fun c => pure (.bl c)) σs H (fun F H τ => QD B l F H τ Q) := hq
  refine (tR.step fwd_D hq).mono fun v1 H1 ⟨x, F, τ, σ, T, S, ⟨r1, _⟩, h⟩ => ?_
  obtain ⟨c, e1, h⟩ := ofOpt_is (Res.is_bind.mp h)
  have e2 : isTy x t = some c := by
    unfold isTys at e1
    cases q : isTy x t with
    | none => rw [q] at e1; cases e1
    | some c' =>
      rw [q] at e1
      cases c' with
      | true => exact e1
      | false => cases e1; rfl
  obtain ⟨n, h1, h2⟩ := isTy_kd e2
  exact ⟨v1, .ty (tyN t), .type n, .type (tyN t), c, rfl, .ty _, tyx_of g.eK S.sub r1.x h1, kit_ty h2, QD.now S h (Rq.of (.bl _))⟩
theorem a_tys (g : Gd G kn B W H0 N k X) : ∀ {ts : List Ty} {es : List Expr}, (∀ t ∈ ts, Bn kn X (Str.ofString (tyN t))) → Paired (fun t e => ∃ p, e = Expr.Name (Str.ofString (tyN t)) p) ts es → ∃ ta, PA X es ta ∧ ∀ σ H Q, Q (ts.map fun t => V.ty (tyN t)) H → ta σ H Q
  | [], es, _, h => by cases h; exact ⟨_, pa_nil, fun _ _ _ q => q⟩
  | t :: ts, es, hb, h => by
    cases h with
    | cons h1 h2 =>
      obtain ⟨p, rfl⟩ := h1
      obtain ⟨ta, h3, h4⟩ := a_tys g (fun t ht => hb t (List.mem_cons_of_mem _ ht)) h2
      exact ⟨_, pa_cons (n_ty g (hb t List.mem_cons_self)) h3 (starEach_cons rfl), fun σ H Q q => h4 σ H _ q⟩
theorem clsV_tys : ∀ ts : List Ty, Paired ClsV (ts.map fun t => V.ty (tyN t)) (ts.map fun t => Value.type (tyN t))
  | [] => .nil
  | t :: ts => .cons (.ty _) (clsV_tys ts)
/-- isinstance(e, (T1, T2)) -/
theorem n_isiT (g : Gd G kn B W H0 N k X) {ts : List Ty} {p p1 : Pos} {k1 : Nat} {e : Expr} {es : List Expr} {ie : E} (b : Bn kn X "isinstance") (hb : ∀ t ∈ ts, Bn kn X (Str.ofString (tyN t))) (hp : Paired (fun t e => ∃ p, e = Expr.Name (Str.ofString (tyN t)) p) ts es) (hts : ts.length ≤ 5) (hne : ts ≠ [])
    (hs : isStar e = false) (ha : PE X e (tD B W H0 true (ev G ie).v)) : PE X (.Call (.Name "isinstance" p) [e, .Tuple es k1 p1] [] pos) (tD B W H0 l (ev G (.isi ie ts)).v) := by
  have hv : bootBuiltins ("isinstance" : Str) = some (.builtin "isinstance") := by decide +kernel
  obtain ⟨ta, h3, h4⟩ := a_tys g hb hp
  refine ⟨fun pins s σs H Q I hq => (pe_callB call_isiT b.gl (b.mg g hv) hv (pa_cons ha (pa_cons (pe_tup h3) pa_nil (starEach_cons rfl)) (starEach_cons hs)) b.nn b.nd (starEach_cons hs) (starEach_any rfl)).run pins s σs H Q I ?_⟩
  have hq : tR B W H0 .nil (fun σ => (ev G ie).v σ >>= fun d => ofOpt (isTys d ts) >>= fun c => pure (.bl c)) σs H (fun F H τ => QD B l F H τ Q) := hq
  refine (tR.step fwd_D hq).mono fun v1 H1 ⟨x, F, τ, σ, T, S, ⟨r1, _⟩, h⟩ => ?_
  obtain ⟨c, e1, h⟩ := ofOpt_is (Res.is_bind.mp h)
  cases hn : kdN x with
  | none =>
    exfalso
    cases ts with
    | nil => exact hne rfl
    | cons t ts =>
      unfold isTys at e1
      cases q : isTy x t with
      | none => rw [q] at e1; cases e1
      | some c' =>
        obtain ⟨n, h1, _⟩ := isTy_kd q
        rw [hn] at h1; cases h1
  | some n =>
    refine h4 _ _ _ ⟨?_, fun q hq2 => ?_⟩
    · rw [List.length_map, sizeLine_eq]; omega
    · have S2 := S.fresh (o := .tup (ts.map fun t => V.ty (tyN t))) hq2
      have r2 := RpX.mono (Ext.fresh (τ := τ) (o := .tup (ts.map fun t => V.ty (tyN t))) S.sub hq2) r1.x
      refine ⟨v1, q, _, .type n, ts.map fun t => Value.type (tyN t), c, rfl, upd_same, ?_, tyx_of g.eK S2.sub r2 hn, isTys_kit hn e1, ?_⟩
      · exact clsV_tys ts
      · exact (show QD B l F H1 τ Q (.bl c) T from h) _ _ _ _ (.fresh S.sub hq2) (S.tape.fresh hq2) (Rq.of (.bl _))
end
end Pu

/-! Pu9: targets, what is walked, comprehensions. -/
namespace Pu
open PySem PySem.Spec PyProof.Rows L2
section
variable {G : Gam} {kn : Str → Option Bool} {B : Tab} {W : WX} {H0 : Hp} {N : List Str} {k : Nat} {X : Cx} {l l' : Bool} {pos : Pos}
/-! ### targets -/
theorem St.set {F H : Hp} {τ : Ta} {σ : Env} {s : L2.St} {T : Tp} {i : Nat} {v : V} {d : D} (S : St B H0 F τ σ s H T) (r : Rp B F τ v d) : St B H0 F τ (σ.set i (some (.val d))) (s.set i (some v)) H T where
  sub := S.sub
  tape := S.tape
  slot := fun j sv h => by
    by_cases e : i = j
    · subst e
      by_cases hi : i < σ.length
      · rw [List.getElem?_set_self hi] at h
        cases h
        exact ⟨v, by rw [List.getElem?_set_self (by rw [← S.len]; exact hi)], r⟩
      · rw [List.getElem?_eq_none (by simpa using hi)] at h; cases h
    · rw [List.getElem?_set_ne e] at h
      rw [List.getElem?_set_ne e]
      exact S.slot j sv h
  dist := fun a b xs ys p hab h1 h2 h3 => by
    have na : i ≠ a := fun e => by
      subst e
      by_cases hi : i < σ.length
      · rw [List.getElem?_set_self hi] at h1; cases h1
      · rw [List.getElem?_eq_none (by simpa using hi)] at h1; cases h1
    have nb : i ≠ b := fun e => by
      subst e
      by_cases hi : i < σ.length
      · rw [List.getElem?_set_self hi] at h2; cases h2
      · rw [List.getElem?_eq_none (by simpa using hi)] at h2; cases h2
    rw [List.getElem?_set_ne na] at h1 h3
    rw [List.getElem?_set_ne nb] at h2 ⊢
    exact S.dist a b xs ys p hab h1 h2 h3
  len := by rw [List.length_set, List.length_set]; exact S.len
theorem St.forget {F H : Hp} {τ : Ta} {σ σ' : Env} {s s' : L2.St} {T : Tp} (S : St B H0 F τ σ s H T) (hl : σ'.length = s'.length) (h : ∀ (i : Nat) (sv : SV), σ'[i]? = some (some sv) → σ[i]? = some (some sv) ∧ s'[i]? = s[i]?) : St B H0 F τ σ' s' H T where
  sub := S.sub
  tape := S.tape
  slot := fun j sv e => by
    obtain ⟨h1, h2⟩ := h j sv e
    obtain ⟨v, hv, r⟩ := S.slot j sv h1
    exact ⟨v, by rw [h2]; exact hv, r⟩
  dist := fun a b xs ys p hab h1 h2 h3 => by
    obtain ⟨g1, g2⟩ := h a _ h1
    obtain ⟨g3, g4⟩ := h b _ h2
    rw [g2] at h3
    rw [g4]
    exact S.dist a b xs ys p hab g1 g3 h3
  len := hl
theorem wipeE_length (σ : Env) : ∀ vs : List Nat, (wipeE σ vs).length = σ.length
  | [] => rfl
  | v :: vs => by unfold wipeE; rw [List.length_set, wipeE_length σ vs]
theorem wipeE_some {σ : Env} {i : Nat} {x : SV} : ∀ {vs : List Nat}, (wipeE σ vs)[i]? = some (some x) → σ[i]? = some (some x) ∧ i ∉ vs
  | [], h => ⟨h, by simp⟩
  | v :: vs, h => by
    unfold wipeE at h
    by_cases hi : v = i
    · subst hi
      by_cases hv : v < (wipeE σ vs).length
      · rw [List.getElem?_set_self hv] at h; cases h
      · rw [List.getElem?_eq_none (by simpa using hv)] at h; cases h
    · rw [List.getElem?_set_ne hi] at h
      obtain ⟨h1, h2⟩ := wipeE_some h
      exact ⟨h1, by simp only [List.mem_cons, not_or]; exact ⟨fun e => hi e.symm, h2⟩⟩
theorem wipe_not {s : L2.St} {i : Nat} : ∀ {vs : List Nat}, i ∉ vs → (wipe s vs)[i]? = s[i]?
  | [], _ => rfl
  | v :: vs, h => by
    unfold wipe
    simp only [List.mem_cons, not_or] at h
    rw [List.getElem?_set_ne (Ne.symm h.1), wipe_not h.2]
theorem St.wiped {F H : Hp} {τ : Ta} {σ : Env} {s : L2.St} {T : Tp} (S : St B H0 F τ σ s H T) (vs : List Nat) : St B H0 F τ (wipeE σ vs) (wipe s vs) H T :=
  S.forget (by rw [wipeE_length, wipe_length]; exact S.len) fun i sv e => ⟨(wipeE_some e).1, wipe_not (wipeE_some e).2⟩
theorem St.wipedS {F H : Hp} {τ : Ta} {σ : Env} {s : L2.St} {T : Tp} (S : St B H0 F τ σ s H T) (vs : List Nat) : St B H0 F τ (wipeE σ vs) s H T :=
  S.forget (by rw [wipeE_length]; exact S.len) fun i sv e => ⟨(wipeE_some e).1, rfl⟩

mutual
def gP (K : PySem.W.Frag) : P → TG
  | .name i => gName i
  | .tup ps => gTup K ps.length (gPs K ps)
def gPs (K : PySem.W.Frag) : List P → TGs
  | [] => gNil
  | p :: ps => gCons (gP K p) (gPs K ps)
end
theorem wipe_set {s : L2.St} {i : Nat} {x : Option V} : ∀ {vs : List Nat}, i ∈ vs → wipe (s.set i x) vs = wipe s vs
  | [], h => by simp at h
  | v :: vs, h => by
    unfold wipe
    by_cases hi : i ∈ vs
    · rw [wipe_set hi]
    · have e : i = v := by simpa [hi] using h
      subst e
      clear h hi
      have g : ∀ (ws : List Nat) (t : L2.St), ((wipe (t.set i x) ws).set i none) = (wipe t ws).set i none := by
        intro ws
        induction ws with
        | nil => intro t; simp [wipe]
        | cons w ws ih =>
          intro t
          unfold wipe
          by_cases hw : w = i
          · subst hw
            rw [List.set_set, List.set_set, ih]
          · rw [List.set_comm _ _ hw, ih, List.set_comm _ _ (Ne.symm hw)]
      exact g vs s
theorem wipe_wipe (s : L2.St) : ∀ vs : List Nat, wipe (wipe s vs) vs = wipe s vs := by
  intro vs
  apply List.ext_getElem?
  intro i
  by_cases h : i ∈ vs
  · have key : ∀ t : L2.St, t.length = s.length → (wipe t vs)[i]? = if i < s.length then some none else none := by
      intro t ht
      split
      · rename_i hi
        cases e : (wipe t vs)[i]? with
        | none => rw [List.getElem?_eq_none_iff, wipe_length, ht] at e; omega
        | some o =>
          cases o with
          | none => rfl
          | some x => exact absurd h (wipe_some e).2
      · rename_i hi
        rw [List.getElem?_eq_none_iff, wipe_length, ht]; omega
    rw [key (wipe s vs) (by rw [wipe_length]), key s rfl]
  · rw [wipe_not h, wipe_not h]
mutual
theorem bind_ok (hK : X.K = B.K) : ∀ (p : P) {d : D} {v : V} {F H : Hp} {τ : Ta} {σ : Env} {s : L2.St} {T T1 : Tp} {Q : Env → Tp → Prop} {E : Str → Tp → Prop} {Q' : L2.St → Hp → Prop}, St B H0 F τ σ s H T → Rp B F τ v d → ((bindP p d σ) T).is Q E →
    (∀ σ' s', St B H0 F τ σ' s' H T → (∀ L, (∀ i ∈ p.slots, i ∈ L) → wipe s' L = wipe s L) → Q σ' T → Q' s' H) → gP X.K p v s H Q'
  | .name i, d, v, F, H, τ, σ, s, T, _, Q, E, Q', S, r, h, q => q _ _ (S.set r) (fun L hL => wipe_set (hL i (by unfold P.slots; simp))) (by unfold bindP at h; exact h)
  | .tup ps, d, v, F, H, τ, σ, s, T, _, Q, E, Q', S, r, h, q => by
    cases d with
    | tup ds =>
      unfold bindP at h
      split at h
      · rename_i hlen
        cases r with
        | tup h1 r =>
          rename_i a vs
          exact ⟨a, vs, rfl, by rw [hK]; exact sqt_mono S.sub h1, by rw [r.length]; exact hlen.symm, binds_ok hK ps S r h fun σ' s' S' w q' => q σ' s' S' (fun L hL => w L fun i hi => hL i (by unfold P.slots; exact hi)) q'⟩
      · exact False.elim h
    | _ => unfold bindP at h; exact False.elim h
theorem binds_ok (hK : X.K = B.K) : ∀ (ps : List P) {ds : List D} {vs : List V} {F H : Hp} {τ : Ta} {σ : Env} {s : L2.St} {T : Tp} {Q : Env → Tp → Prop} {E : Str → Tp → Prop} {Q' : L2.St → Hp → Prop}, St B H0 F τ σ s H T → RpL B F τ vs ds → ((bindPs ps ds σ) T).is Q E →
    (∀ σ' s', St B H0 F τ σ' s' H T → (∀ L, (∀ i ∈ P.slotss ps, i ∈ L) → wipe s' L = wipe s L) → Q σ' T → Q' s' H) → gPs X.K ps vs s H Q'
  | [], ds, vs, F, H, τ, σ, s, T, Q, E, Q', S, r, h, q => by
    cases ds with
    | nil => cases r; unfold bindPs at h; exact ⟨rfl, q _ _ S (fun _ _ => rfl) h⟩
    | cons d ds => unfold bindPs at h; exact False.elim h
  | p :: ps, ds, vs, F, H, τ, σ, s, T, Q, E, Q', S, r, h, q => by
    cases ds with
    | nil => unfold bindPs at h; exact False.elim h
    | cons d ds =>
      unfold bindPs at h
      cases r with
      | cons r1 r2 =>
        refine ⟨_, _, rfl, bind_ok (T1 := T) hK p S r1 (Res.is_bind.mp h) fun σ' s' S' w1 h' => ?_⟩
        refine binds_ok hK ps S' r2 h' fun σ2 s2 S2 w2 q2 => q σ2 s2 S2 (fun L hL => ?_) q2
        rw [w2 L fun i hi => hL i (by unfold P.slotss; exact List.mem_append_right _ hi), w1 L fun i hi => hL i (by unfold P.slotss; exact List.mem_append_left _ hi)]
end

/-! ### what is walked -/
/-- how states follow each other while something is walked -/
def Gro (l : Bool) (F H : Hp) (τ : Ta) (F2 H2 : Hp) (τ2 : Ta) : Prop := match l with
  | true => Ext F H τ F2 H2 τ2
  | false => Same F F2 ∧ Same F2 H2 ∧ Tle τ τ2
theorem Gro.now {F H : Hp} {τ : Ta} (sub : Same F H) : Gro l F H τ F H τ := by
  cases l with
  | true => exact .refl sub
  | false => exact ⟨Same.refl _, sub, Tle.refl _⟩
def ItOk (B : Tab) (l : Bool) (J : It) (items : List D) (F : Hp) (τ : Ta) (H : Hp) : Prop := ∀ F2 τ2 H2, Gro l F H τ F2 H2 τ2 → ∀ (i : Nat),
  (items.length ≤ i → J.stop i H2) ∧ ∀ d, items[i]? = some d → J.go i H2 ∧ ∀ x H3, J.yld i H2 x H3 → ∃ F3, Ext F2 H2 τ2 F3 H3 τ2 ∧ Rp B F3 τ2 x d ∧ ∀ T, TapeAt F2 H2 τ2 T → TapeAt F3 H3 τ2 T
def QI (B : Tab) (l : Bool) (F H : Hp) (τ : Ta) (R : It → Hp → Prop) (items : List D) (T' : Tp) : Prop := ∀ J H' F' τ', Ext F H τ F' H' τ' → TapeAt F' H' τ' T' → ItOk B l J items F' τ' H' → R J H'
def tI (B : Tab) (W : WX) (H0 : Hp) (l : Bool) (k : Env → M (List D)) : TI := fun s H R => tR B W H0 .nil k s H fun F H τ => QI B l F H τ R
theorem fwd_I {R : It → Hp → Prop} : Fwd (fun F H τ => QI B l F H τ R) := ⟨fun e h _ _ _ _ e' t r => h _ _ _ _ (e.trans e') t r⟩
theorem QI.now {F H : Hp} {τ : Ta} {σ : Env} {s : L2.St} {T : Tp} {R : It → Hp → Prop} {items : List D} {J : It} (S : St B H0 F τ σ s H T) (h : QI B l F H τ R items T) (r : ItOk B l J items F τ H) : R J H := h J H F τ (.refl S.sub) S.tape r
/-- a list or a tuple, walked -/
def iSeq (K : PySem.W.Frag) (tl : TE) : TI := fun σ H R => tl σ H fun x H1 => (∃ a xs, x = .ref a ∧ SqL K H1 a xs ∧ R (Itl K a) H1) ∨ ∃ a xs, x = .ref a ∧ SqT K H1 a xs ∧ R (Itt K a) H1
theorem pi_seq {tg e : Expr} {tl : TE} (hl : PE X e tl) : PI X tg e (iSeq X.K tl) := by
  refine ⟨fun pins s σ H R I h => ?_⟩
  refine thn (hl.run pins s σ H _ I h) fun v s1 ⟨x, H1, I1, r1, q1⟩ => ?_
  rcases q1 with ⟨a, xs, e, hq, q⟩ | ⟨a, xs, e, hq, q⟩
  · subst e
    cases r1
    obtain ⟨its, rv, p, hz⟩ := I1.list hq
    refine wpAny_pyIter_list p.isList ?_
    refine ⟨s1.heap.objs.size, [s1.heap.objs.size], _, _, H1, rfl, I1.kept (t' := s1.toks) fun b o e => Heap.get?_push_of_some _ e, turn_list a _, ⟨_, Heap.get?_push_size _ rfl, rfl, rfl⟩, fun b hb => ?_, q⟩
    have e : b = s1.heap.objs.size := by simpa using hb
    subst e
    exact I1.fpOk (Nat.le_refl _) (I1.hok.fresh (Nat.le_refl _))
  · subst e
    cases r1
    obtain ⟨its, rv, p, hz⟩ := I1.tuple hq
    refine wpAny_pyIter_tuple (show s1.heap.IsTuple a its.toArray from p) ?_
    refine ⟨s1.heap.objs.size, [s1.heap.objs.size], _, _, H1, rfl, I1.kept (t' := s1.toks) fun b o e => Heap.get?_push_of_some _ e, turn_tuple a _, ⟨_, Heap.get?_push_size _ rfl, rfl, rfl⟩, fun b hb => ?_, q⟩
    have e : b = s1.heap.objs.size := by simpa using hb
    subst e
    exact I1.fpOk (Nat.le_refl _) (I1.hok.fresh (Nat.le_refl _))
theorem sub_of {F F2 H H2 : Hp} {τ τ2 : Ta} (e : Gro l F H τ F2 H2 τ2) : Same F F2 ∧ Same F2 H2 ∧ Tle τ τ2 := by
  cases l with
  | true => exact ⟨e.grow, e.sub, e.ta⟩
  | false => exact e
theorem it_list {K : PySem.W.Frag} {F H : Hp} {τ : Ta} {a : Addr} {vs : List V} {ds : List D} (r : RpL B F τ vs ds) (hs : ∀ F2 τ2 H2, Gro l F H τ F2 H2 τ2 → SqL K H2 a vs) : ItOk B l (Itl K a) ds F τ H := by
  intro F2 τ2 H2 e i
  obtain ⟨e1, e2, e3⟩ := sub_of e
  have hq := hs F2 τ2 H2 e
  refine ⟨fun hi => ⟨vs, hq, by rw [r.length]; exact hi⟩, fun d hd => ?_⟩
  obtain ⟨v, hv, rv⟩ := r.get hd
  refine ⟨⟨vs, v, hq, hv⟩, fun x H3 ⟨y1, y2⟩ => ?_⟩
  subst y1
  have := y2 vs hq
  rw [hv] at this; cases this
  exact ⟨F2, .refl e2, Rp.mono e1 e3 rv, fun _ t => t⟩
theorem it_tup {K : PySem.W.Frag} {F H : Hp} {τ : Ta} {a : Addr} {vs : List V} {ds : List D} (r : RpL B F τ vs ds) (hs : SqT K F a vs) : ItOk B l (Itt K a) ds F τ H := by
  intro F2 τ2 H2 e i
  obtain ⟨e1, e2, e3⟩ := sub_of e
  have hq := sqt_mono e2 (sqt_mono e1 hs)
  refine ⟨fun hi => ⟨vs, hq, by rw [r.length]; exact hi⟩, fun d hd => ?_⟩
  obtain ⟨v, hv, rv⟩ := r.get hd
  refine ⟨⟨vs, v, hq, hv⟩, fun x H3 ⟨y1, y2⟩ => ?_⟩
  subst y1
  have := y2 vs hq
  rw [hv] at this; cases this
  exact ⟨F2, .refl e2, Rp.mono e1 e3 rv, fun _ t => t⟩
/-- a list's place, and that it stays -/
theorem lst_stays {K : PySem.W.Frag} {F H : Hp} {τ : Ta} {v : V} {ds : List D} (sub : Same F H) (r : Rq B l F τ H v (.lst ds)) : ∃ a vs, v = .ref a ∧ RpL B F τ vs ds ∧ ∀ F2 τ2 H2, Gro l F H τ F2 H2 τ2 → SqL K H2 a vs := by
  cases l with
  | false =>
    cases r with
    | lst h r => exact ⟨_, _, rfl, r, fun F2 τ2 H2 e => .inl (rd_mono (show Same F2 H2 from e.2.1) (rd_mono (show Same F F2 from e.1) h))⟩
  | true =>
    rcases r with r | ⟨ds', p, vs, e, e2, e3, e4, e5⟩
    · cases r with
      | lst h r => exact ⟨_, _, rfl, r, fun F2 τ2 H2 e => .inl (rd_mono (Ext.sub e) (rd_mono (Ext.grow e) h))⟩
    · cases e
      exact ⟨p, vs, e2, e4, fun F2 τ2 H2 e => .inl (.inl (Ext.keep e p _ e3 e5))⟩
theorem rpl_ints {F : Hp} {τ : Ta} : ∀ {ns : List Int}, RpL B F τ (ns.map V.int) (ns.map D.int)
  | [] => .nil
  | n :: ns => .cons (.int n) rpl_ints
theorem i_seq (g : Gd G kn B W H0 N k X) {tg e : Expr} {ie : E} (ha : PE X e (tD B W H0 l (ev G ie).v)) : PI X tg e (tI B W H0 l (evalI G (.seq ie))) := by
  refine ⟨fun pins s σs H Q I hq => (pi_seq ha).run pins s σs H Q I ?_⟩
  have hq : tR B W H0 .nil (fun σ => (ev G ie).v σ >>= fun d => ofOpt (seqD d)) σs H (fun F H τ => QI B l F H τ Q) := hq
  refine (tR.step (l := l) fwd_I hq).mono fun v1 H1 ⟨x, F, τ, σ, T, S, ⟨r1, _⟩, h⟩ => ?_
  obtain ⟨items, e1, h⟩ := ofOpt_is h
  cases x with
  | tup xs =>
    cases e1
    obtain ⟨a, vs, rfl, ha, ra⟩ := r1.x.tup
    refine .inr ⟨a, vs, rfl, by rw [g.eK]; exact sqt_mono S.sub ha, QI.now S h (it_tup ra ?_)⟩
    rw [g.eK]; exact ha
  | lst xs =>
    cases e1
    obtain ⟨a, vs, rfl, ra, hs⟩ := lst_stays (K := X.K) S.sub r1
    exact .inl ⟨a, vs, rfl, hs F τ H1 (.now S.sub), QI.now S h (it_list ra hs)⟩
  | scr ns =>
    cases e1
    rcases r1.x with r | ⟨_, _, _, e, _⟩
    · cases r with
      | scr hq =>
        have hs : ∀ F2 τ2 H2, Gro l F H1 τ F2 H2 τ2 → SqL X.K H2 _ (ns.map V.int) := fun F2 τ2 H2 e => by
          obtain ⟨e1, e2, _⟩ := sub_of e
          rw [g.eK]
          exact e2.seq (e1.seq hq)
        exact .inl ⟨_, _, rfl, hs F τ H1 (.now S.sub), QI.now S h (it_list rpl_ints hs)⟩
    · cases e
  | _ => cases e1
theorem it_range {lo : Int} {n : Nat} {F H : Hp} {τ : Ta} : ItOk B l (Itr lo n) (rangeL lo n) F τ H := by
  intro F2 τ2 H2 e i
  obtain ⟨e1, e2, e3⟩ := sub_of e
  have hl : (rangeL lo n).length = n := by unfold rangeL; rw [List.length_map, List.length_range]
  refine ⟨fun hi => by rw [hl] at hi; exact hi, fun d hd => ?_⟩
  have hi : i < n := by
    rw [← hl]
    exact (List.getElem?_eq_some_iff.mp hd).1
  refine ⟨hi, fun x H3 ⟨y1, y2⟩ => ?_⟩
  subst y1 y2
  have : d = .int (lo + (i : Nat)) := by
    unfold rangeL at hd
    rw [List.getElem?_map, List.getElem?_range hi] at hd
    cases hd; rfl
  subst this
  exact ⟨F2, .refl e2, .int _, fun _ t => t⟩
theorem i_range1 (g : Gd G kn B W H0 N k X) {tg a : Expr} {p : Pos} {ia : E} (b : Bn kn X "range") (hs : isStar a = false) (ha : PE X a (tD B W H0 true (ev G ia).v)) : PI X tg (.Call (.Name "range" p) [a] [] pos) (tI B W H0 l (evalI G (.range1 ia))) := by
  refine ⟨fun pins s σs H Q I hq => (pi_range1 b.gl (b.mg g boot_range) (pa_cons ha pa_nil (starEach_cons hs)) (by rw [starEach_cons hs]; rfl)).run pins s σs H Q I ?_⟩
  have hq : tR B W H0 .nil (fun σ => (ev G ia).v σ >>= fun d => intD d >>= fun j => guardD (-(2 ^ 62) ≤ j ∧ j < 2 ^ 62) (pure (rangeL 0 j.toNat))) σs H (fun F H τ => QI B l F H τ Q) := tR.eqv hq fun σ => M.bind_assoc _ _ _
  refine (tR.step (l := true) fwd_I hq).mono fun v1 H1 ⟨x, F, τ, σ, T, S, ⟨r1, _⟩, h⟩ => ?_
  obtain ⟨j, rfl, h⟩ := intD_is (Res.is_bind.mp h)
  obtain ⟨⟨h1, h2⟩, h⟩ := guard_is h
  exact ⟨j, by rw [r1.x.int], h1, h2, QI.now S h it_range⟩
theorem i_range2 (g : Gd G kn B W H0 N k X) {tg a c : Expr} {p : Pos} {ia ic : E} (b : Bn kn X "range") (hs : isStar a = false) (hs2 : isStar c = false) (ha : PE X a (tD B W H0 true (ev G ia).v)) (hc : PE X c (tD B W H0 true (ev G ic).v)) : PI X tg (.Call (.Name "range" p) [a, c] [] pos) (tI B W H0 l (evalI G (.range2 ia ic))) := by
  refine ⟨fun pins s σs H Q I hq => (pi_range2 b.gl (b.mg g boot_range) (pa_cons ha (pa_cons hc pa_nil (starEach_cons hs2)) (starEach_cons hs)) (by rw [starEach_cons hs, starEach_cons hs2]; rfl) (by rw [starEach_cons hs2]; rfl)).run pins s σs H Q I ?_⟩
  have hq : tR B W H0 .nil (fun σ => (ev G ia).v σ >>= fun d => intD d >>= fun i => ((ev G ic).v σ >>= intD) >>= fun j => guardD (-(2 ^ 62) ≤ i ∧ i < 2 ^ 62 ∧ -(2 ^ 62) ≤ j ∧ j < 2 ^ 62) (pure (rangeL i (j - i).toNat))) σs H (fun F H τ => QI B l F H τ Q) := tR.eqv hq fun σ => M.bind_assoc _ _ _
  refine (tR.step (l := true) fwd_I hq).mono fun v1 H1 ⟨x, h1⟩ => ?_
  obtain ⟨F, τ, σ, T, S, ⟨r1, _⟩, h⟩ := h1
  obtain ⟨i, rfl, h⟩ := intD_is (Res.is_bind.mp h)
  have e1 := r1.x.int
  subst e1
  have hq2 : tR B W H0 .nil (fun σ => (ev G ic).v σ >>= fun d => intD d >>= fun j => guardD (-(2 ^ 62) ≤ i ∧ i < 2 ^ 62 ∧ -(2 ^ 62) ≤ j ∧ j < 2 ^ 62) (pure (rangeL i (j - i).toNat))) σs H1 (fun F H τ => QI B l F H τ Q) := ⟨F, τ, σ, T, S, trivial, by
    have e2 := M.bind_assoc ((ev G ic).v σ) intD (fun j => guardD (-(2 ^ 62) ≤ i ∧ i < 2 ^ 62 ∧ -(2 ^ 62) ≤ j ∧ j < 2 ^ 62) (pure (rangeL i (j - i).toNat)))
    show (((ev G ic).v σ >>= fun d => intD d >>= fun j => guardD (-(2 ^ 62) ≤ i ∧ i < 2 ^ 62 ∧ -(2 ^ 62) ≤ j ∧ j < 2 ^ 62) (pure (rangeL i (j - i).toNat))) T).is _ _
    rw [← e2]; exact h⟩
  refine (tR.step (l := true) fwd_I hq2).mono fun v2 H2 ⟨y, F, τ, σ, T, S, ⟨r2, _⟩, h⟩ => ?_
  obtain ⟨j, rfl, h⟩ := intD_is (Res.is_bind.mp h)
  obtain ⟨⟨h1, h2, h3, h4⟩, h⟩ := guard_is h
  exact ⟨i, j, by rw [r2.x.int], ⟨h1, h2, h3, h4⟩, QI.now S h it_range⟩
/-! ### zip, enumerate -/
theorem zipL_get : ∀ {xs ys : List D} {i : Nat} {d : D}, (zipL xs ys)[i]? = some d → ∃ x y, xs[i]? = some x ∧ ys[i]? = some y ∧ d = .tup [x, y]
  | [], _, _, _, h => by unfold zipL at h; simp at h
  | _ :: _, [], _, _, h => by unfold zipL at h; simp at h
  | x :: xs, y :: ys, 0, d, h => by
    unfold zipL at h
    simp at h
    exact ⟨x, y, rfl, rfl, h.symm⟩
  | x :: xs, y :: ys, i + 1, d, h => by
    unfold zipL at h
    rw [List.getElem?_cons_succ] at h
    obtain ⟨a, b, h1, h2, h3⟩ := zipL_get h
    exact ⟨a, b, by simpa using h1, by simpa using h2, h3⟩
theorem zipL_len : ∀ (xs ys : List D), (zipL xs ys).length = min xs.length ys.length
  | [], _ => by unfold zipL; simp
  | _ :: _, [] => by unfold zipL; simp
  | x :: xs, y :: ys => by
    unfold zipL
    rw [List.length_cons, zipL_len xs ys, List.length_cons, List.length_cons]
    omega
theorem enumL_get : ∀ {xs : List D} {n : Int} {i : Nat} {d : D}, (enumL n xs)[i]? = some d → ∃ x, xs[i]? = some x ∧ d = .tup [.int (n + (i : Nat)), x]
  | [], _, _, _, h => by unfold enumL at h; simp at h
  | x :: xs, n, 0, d, h => by
    unfold enumL at h
    simp at h
    exact ⟨x, rfl, by rw [← h]; simp⟩
  | x :: xs, n, i + 1, d, h => by
    unfold enumL at h
    obtain ⟨y, h1, h2⟩ := enumL_get (xs := xs) (n := n + 1) (i := i) (d := d) (by simpa using h)
    refine ⟨y, by simpa using h1, ?_⟩
    rw [h2]
    have : n + 1 + (i : Int) = n + ((i + 1 : Nat) : Int) := by omega
    rw [this]
theorem enumL_len : ∀ (xs : List D) (n : Int), (enumL n xs).length = xs.length
  | [], _ => by unfold enumL; rfl
  | x :: xs, n => by unfold enumL; rw [List.length_cons, enumL_len xs, List.length_cons]
theorem new_pair {F H : Hp} {τ : Ta} {p : Addr} {x y : V} {d e : D} (sub : Same F H) (hp : H p = none) (r1 : Rp B F τ x d) (r2 : Rp B F τ y e) :
    ∃ F3, Ext F H τ F3 (upd H p (.tup [x, y])) τ ∧ Rp B F3 τ (.ref p) (.tup [d, e]) ∧ ∀ T, TapeAt F H τ T → TapeAt F3 (upd H p (.tup [x, y])) τ T := by
  have E := Ext.laid (τ := τ) (o := .tup [x, y]) sub hp
  exact ⟨_, E, .tup (.inl (.inl upd_same)) (.cons (Rp.mono E.grow (Tle.refl _) r1) (.cons (Rp.mono E.grow (Tle.refl _) r2) .nil)), fun T t => t.laid hp⟩
theorem i_zip (g : Gd G kn B W H0 N k X) {elts : List Expr} {kk : Nat} {tpos : Pos} {a c : Expr} {p : Pos} {ia ic : E} (b : Bn kn X "zip") (hs : isStar a = false) (hs2 : isStar c = false) (ha : PE X a (tD B W H0 l (ev G ia).v)) (hc : PE X c (tD B W H0 l (ev G ic).v)) :
    PI X (.Tuple elts kk tpos) (.Call (.Name "zip" p) [a, c] [] pos) (tI B W H0 l (evalI G (.zip ia ic))) := by
  refine ⟨fun pins s σs H Q I hq => (RZ.pi_zipA b.gl (b.mg g PyProof.Rows.boot_zip) (pa_cons ha (pa_cons hc pa_nil (starEach_cons hs2)) (starEach_cons hs)) (starEach_cons hs) (starEach_any (by simp [hs2]))).run pins s σs H Q I ?_⟩
  have hq : tR B W H0 .nil (fun σ => (ev G ia).v σ >>= fun x => (ev G ic).v σ >>= fun y => (match x, y with | .lst xs, .lst ys => pure (zipL xs ys) | .tup xs, .tup ys => pure (zipL xs ys) | _, _ => stuck : M (List D))) σs H (fun F H τ => QI B l F H τ Q) := hq
  refine (tR.step (l := l) fwd_I hq).mono fun v1 H1 ⟨x, h1⟩ => (tR.step (l := l) fwd_I h1).mono fun v2 H2 ⟨y, F, τ, σ, T, S, ⟨r2, r1, _⟩, h⟩ => ?_
  have now : Gro l F H2 τ F H2 τ := .now S.sub
  cases x with
  | lst xs =>
    cases y with
    | lst ys =>
      obtain ⟨a1, vs, rfl, ra, hsa⟩ := lst_stays (K := X.K) S.sub r1
      obtain ⟨a2, ws, rfl, rb, hsb⟩ := lst_stays (K := X.K) S.sub r2
      refine ⟨a1, a2, vs, ws, rfl, .inl ⟨hsa F τ H2 now, hsb F τ H2 now, QI.now S h ?_⟩⟩
      intro F2 τ2 H3 e i
      obtain ⟨e1, e2, e3⟩ := sub_of e
      have q1 := hsa F2 τ2 H3 e
      have q2 := hsb F2 τ2 H3 e
      refine ⟨fun hi => ⟨vs, ws, q1, q2, ?_⟩, fun d hd => ?_⟩
      · rw [zipL_len] at hi
        rw [ra.length, rb.length]
        omega
      · obtain ⟨dx, dy, hx, hy, rfl⟩ := zipL_get hd
        obtain ⟨v, hv, rv⟩ := ra.get hx
        obtain ⟨w, hw, rw'⟩ := rb.get hy
        refine ⟨⟨vs, ws, v, w, q1, q2, hv, hw⟩, fun z H4 ⟨Tp, x', y', z1, z2, z3, z4, z5⟩ => ?_⟩
        subst z1 z3
        have f1 := z4 vs q1
        rw [hv] at f1; cases f1
        have f2 := z5 ws q2
        rw [hw] at f2; cases f2
        exact new_pair e2 z2 (Rp.mono e1 e3 rv) (Rp.mono e1 e3 rw')
    | _ => exact False.elim h
  | tup xs =>
    cases y with
    | tup ys =>
      obtain ⟨a1, vs, rfl, ha1, ra⟩ := r1.x.tup
      obtain ⟨a2, ws, rfl, hb1, rb⟩ := r2.x.tup
      have st : ∀ {F2 : Hp} {H3 : Hp} {a : Addr} {zs : List V}, Same F F2 → Same F2 H3 → SqT B.K F a zs → SqT X.K H3 a zs := fun e1 e2 hz => by rw [g.eK]; exact sqt_mono e2 (sqt_mono e1 hz)
      refine ⟨a1, a2, vs, ws, rfl, .inr ⟨st (Same.refl _) S.sub ha1, st (Same.refl _) S.sub hb1, QI.now S h ?_⟩⟩
      intro F2 τ2 H3 e i
      obtain ⟨e1, e2, e3⟩ := sub_of e
      have q1 := st e1 e2 ha1
      have q2 := st e1 e2 hb1
      refine ⟨fun hi => ⟨vs, ws, q1, q2, ?_⟩, fun d hd => ?_⟩
      · rw [zipL_len] at hi
        rw [ra.length, rb.length]
        omega
      · obtain ⟨dx, dy, hx, hy, rfl⟩ := zipL_get hd
        obtain ⟨v, hv, rv⟩ := ra.get hx
        obtain ⟨w, hw, rw'⟩ := rb.get hy
        refine ⟨⟨vs, ws, v, w, q1, q2, hv, hw⟩, fun z H4 ⟨Tp, x', y', z1, z2, z3, z4, z5⟩ => ?_⟩
        subst z1 z3
        have f1 := z4 vs q1
        rw [hv] at f1; cases f1
        have f2 := z5 ws q2
        rw [hw] at f2; cases f2
        exact new_pair e2 z2 (Rp.mono e1 e3 rv) (Rp.mono e1 e3 rw')
    | _ => exact False.elim h
  | _ => exact False.elim h
/-! ### comprehensions -/
theorem tR.stepI {β : Type} {c : Carry} {s : L2.St} {H : Hp} {m : Env → M (List D)} {f : Env → List D → M β} {Q : Hp → Hp → Ta → β → Tp → Prop} (fw : Fwd Q) (h : tR B W H0 c (fun σ => m σ >>= f σ) s H Q) :
    tI B W H0 l m s H (fun J H1 => ∃ items F τ σ T, St B H0 F τ σ s H1 T ∧ ItOk B l J items F τ H1 ∧ (f σ items T).is (Q F H1 τ) (QE B W s F H1 τ)) := by
  obtain ⟨F, τ, σ, T, S, hc, h⟩ := h
  refine ⟨F, τ, σ, T, S, trivial, ?_⟩
  rw [Res.is_bind] at h
  refine h.mono (fun x T1 hx J H' F' τ' e t r => ?_) fun _ _ z => z
  exact ⟨x, F', τ', σ, T1, S.ext e t, r, hx.mono (fun a t q => fw.run e q) fun _ _ z => z.shift e⟩
theorem tI.mono {s : L2.St} {H : Hp} {m : Env → M (List D)} {Q Q' : It → Hp → Prop} (h : tI B W H0 l m s H Q) (hQ : ∀ v H, Q v H → Q' v H) : tI B W H0 l m s H Q' := by
  obtain ⟨F, τ, σ, T, S, hc, h⟩ := h
  exact ⟨F, τ, σ, T, S, hc, h.mono (fun a t q v H' F' τ' e t' r => hQ _ _ (q v H' F' τ' e t' r)) fun _ _ z => z⟩
def ers (H : Hp) (D : Addr) : Hp := fun a => if a = D then none else H a
theorem ers_upd {H : Hp} {D : Addr} {o : HO} (h : H D = some o) : upd (ers H D) D o = H := by
  funext a
  unfold upd ers
  by_cases e : a = D
  · rw [if_pos e, e, h]
  · rw [if_neg e, if_neg e]
theorem ers_ne {H : Hp} {D a : Addr} (h : a ≠ D) : ers H D a = H a := by unfold ers; rw [if_neg h]
theorem ers_same {H : Hp} {D : Addr} : ers H D D = none := by unfold ers; rw [if_pos rfl]
theorem Ext.ers {F H F' H' : Hp} {τ τ' : Ta} {D : Addr} (e : Ext F H τ F' H' τ') (hD : H D = none) (hF : F' D = none) : Ext F H τ F' (ers H' D) τ' where
  keep := fun a o h n => by rw [ers_ne (ne_of_none h hD)]; exact e.keep a o h n
  there := fun a h => by
    by_cases q : a = D
    · rw [q]; exact hD
    · rw [ers_ne q] at h; exact e.there a h
  grow := e.grow
  sub := fun a o h => by rw [ers_ne (ne_of_none h hF)]; exact e.sub a o h
  new := e.new
  ta := e.ta
  tn := e.tn
theorem TapeAt.ers {F H : Hp} {τ : Ta} {T : Tp} {D : Addr} (t : TapeAt F H τ T) (hD : ∀ q, τ = some q → D ≠ q.1 ∧ D ≠ q.2) : TapeAt F (ers H D) τ T := by
  match τ, T, t with
  | none, none, _ => trivial
  | some (a, b), some (cells, seed), ⟨h1, h2, h3, h4, h5⟩ =>
    obtain ⟨n1, n2⟩ := hD _ rfl
    exact ⟨by rw [ers_ne (Ne.symm n1)]; exact h1, by rw [ers_ne (Ne.symm n2)]; exact h2, h3, h4, h5⟩
/-- a list that is not frozen is changed -/
theorem Ext.write {F H F' H' : Hp} {τ τ' : Ta} {D : Addr} {o : HO} (e : Ext F H τ F' H' τ') (hD : H D = none) (hF : F' D = none) : Ext F H τ F' (upd H' D o) τ' where
  keep := fun a u h n => by rw [upd_ne (ne_of_none h hD)]; exact e.keep a u h n
  there := fun a h => by
    by_cases q : a = D
    · rw [q]; exact hD
    · rw [upd_ne q] at h; exact e.there a h
  grow := e.grow
  sub := fun a u h => by rw [upd_ne (ne_of_none h hF)]; exact e.sub a u h
  new := e.new
  ta := e.ta
  tn := e.tn
theorem TapeAt.write {F H : Hp} {τ : Ta} {T : Tp} {D : Addr} {o : HO} (t : TapeAt F H τ T) (hD : ∀ q, τ = some q → D ≠ q.1 ∧ D ≠ q.2) : TapeAt F (upd H D o) τ T := by
  match τ, T, t with
  | none, none, _ => trivial
  | some (a, b), some (cells, seed), ⟨h1, h2, h3, h4, h5⟩ =>
    obtain ⟨n1, n2⟩ := hD _ rfl
    exact ⟨by rw [upd_ne (Ne.symm n1)]; exact h1, by rw [upd_ne (Ne.symm n2)]; exact h2, h3, h4, h5⟩
/-- no error leaves -/
def WF : WX := fun _ _ _ _ => False
def compF (G : Gam) (σ : Env) (tg : P) (cond : Oe) (elt : E) (x : D) : M (Option D) := do
  let σ' ← bindP tg x (wipeE σ tg.slots)
  if (← evalC G cond σ') = true then do let y ← (ev G elt).v σ'; pure (some y) else pure none
theorem drop_get {α : Type} {xs : List α} {i : Nat} (h : i < xs.length) : xs.drop i = xs[i] :: xs.drop (i + 1) := List.drop_eq_getElem_cons h
/-- the heart of a comprehension -/
theorem comp_core (hK : X.K = B.K) {elt : E} {tg : P} {cond : Oe} {J : It} {items : List D} {F H1 : Hp} {τ : Ta} {σ : Env} {s : L2.St} {T : Tp} {Q : VK} (S : St B H0 F τ σ s H1 T) (it : ItOk B true J items F τ H1)
    (h : (compM (compF G σ tg cond elt) items [] T).is (fun ys T1 => QN B F H1 τ Q (.lst ys) T1) fun _ _ => False) {D : Addr} (hD : H1 D = none) :
    ∃ Wv : Nat → Nat → Hp → Prop, (∃ m, Wv 0 m (upd H1 D (.lst []))) ∧ ∀ i m H, Wv i m H →
      (J.stop i H ∧ Q (.ref D) H) ∨ (J.go i H ∧ ∃ Nx : Hp → Prop, (∀ H', Nx H' → ∃ m', m' < m ∧ Wv (i + 1) m' H') ∧ ∀ x H', J.yld i H x H' → gP X.K tg x (wipe s tg.slots) H' fun σ2 H2 => wipe σ2 tg.slots = wipe s tg.slots ∧ tB B WF H0 (evalC G cond) σ2 H2 fun b H3 =>
        if b = true then tD B WF H0 false (ev G elt).v σ2 H3 fun y H4 => ∃ acc, H4 D = some (.lst acc) ∧ acc.length < sizeLine ∧ Nx (upd H4 D (.lst (acc ++ [y]))) else Nx H3) := by
  have noD : ∀ q, τ = some q → D ≠ q.1 ∧ D ≠ q.2 := fun q e => by
    have t := S.tape
    rw [e] at t
    match T, t with
    | some (cells, seed), ⟨h1, h2, _⟩ => exact ⟨(fun z => by rw [← z, hD] at h1; cases h1), (fun z => by rw [← z, hD] at h2; cases h2)⟩
  refine ⟨fun i m H => m = items.length - i ∧ i ≤ items.length ∧ ∃ F2 τ2 T2 acc accD, Ext F H1 τ F2 H τ2 ∧ TapeAt F2 H τ2 T2 ∧ H D = some (.lst acc) ∧ RpL B F2 τ2 acc accD ∧ F2 D = none ∧ (∀ q, τ2 = some q → D ≠ q.1 ∧ D ≠ q.2) ∧
    (compM (compF G σ tg cond elt) (items.drop i) accD T2).is (fun ys T1 => QN B F H1 τ Q (.lst ys) T1) fun _ _ => False, ⟨_, rfl, Nat.zero_le _, F, τ, T, [], [], .fresh S.sub hD, S.tape.fresh hD, upd_same, .nil, ?_, noD, h⟩, ?_⟩
  · cases q : F D with
    | none => rfl
    | some o => rw [S.sub D o q] at hD; cases hD
  rintro i m H ⟨rfl, hi, F2, τ2, T2, acc, accD, e, t, hacc, racc, hFD, hτ, h⟩
  obtain ⟨it1, it2⟩ := it F2 τ2 H e i
  by_cases hlt : i < items.length
  · obtain ⟨go, it3⟩ := it2 items[i] (by simp [hlt])
    refine .inr ⟨go, fun H' => i + 1 ≤ items.length ∧ ∃ F2 τ2 T2 acc accD, Ext F H1 τ F2 H' τ2 ∧ TapeAt F2 H' τ2 T2 ∧ H' D = some (.lst acc) ∧ RpL B F2 τ2 acc accD ∧ F2 D = none ∧ (∀ q, τ2 = some q → D ≠ q.1 ∧ D ≠ q.2) ∧
      (compM (compF G σ tg cond elt) (items.drop (i + 1)) accD T2).is (fun ys T1 => QN B F H1 τ Q (.lst ys) T1) fun _ _ => False, fun H' w => ⟨items.length - (i + 1), by omega, rfl, w⟩, fun x H3 hy => ?_⟩
    obtain ⟨F3, e3, rx, t3⟩ := it3 x H3 hy
    rw [drop_get hlt] at h
    unfold compM at h
    have h := Res.is_bind.mp h
    unfold compF at h
    have h := Res.is_bind.mp h
    have E3 := e.trans e3
    have S3 := (S.ext E3 (t3 _ t)).wiped tg.slots
    have D3 : ∀ {F' H' : Hp} {τ' : Ta}, Ext F2 H τ2 F' H' τ' → H' D = some (.lst acc) ∧ RpL B F' τ' acc accD ∧ F' D = none ∧ ∀ q, τ' = some q → D ≠ q.1 ∧ D ≠ q.2 := fun {F' H' τ'} ee => by
      refine ⟨ee.keep D _ hacc hτ, RpL.mono ee.grow ee.ta racc, ?_, fun q hq => ?_⟩
      · cases z : F' D with
        | none => rfl
        | some o =>
          have := ee.new D (by rw [z]; simp) hFD
          rw [hacc] at this; cases this
      · cases z : τ2 with
        | some q' =>
          have := ee.ta q' z
          rw [hq] at this; cases this
          exact hτ q z
        | none =>
          obtain ⟨h1, h2⟩ := ee.tn q z hq
          exact ⟨ne_of_none hacc h1, ne_of_none hacc h2⟩
    refine bind_ok (T1 := T2) hK tg S3 rx h fun σ' s' S' w h' => ⟨?_, ?_⟩
    · rw [w tg.slots fun _ z => z, wipe_wipe]
    have h' := Res.is_bind.mp h'
    refine ⟨F3, τ2, σ', T2, S', trivial, h'.mono (fun b T4 hb H4 F4 τ4 e4 t4 => ?_) fun _ _ z => z.elim⟩
    have E4 := e3.trans e4
    cases b with
    | false =>
      obtain ⟨d1, d2, d3, d4⟩ := D3 E4
      exact iteF ⟨hlt, F4, τ4, T4, acc, accD, e.trans E4, t4, d1, d2, d3, d4, hb⟩
    | true =>
      have hb := Res.is_bind.mp (show (((ev G elt).v σ' >>= fun y => pure (some y)) T4).is _ _ from hb)
      refine iteT ⟨F4, τ4, σ', T4, S'.ext e4 t4, trivial, hb.mono (fun y T5 hy v H5 F5 τ5 e5 t5 ry => ?_) fun _ _ z => z.elim⟩
      have E5 := E4.trans e5
      obtain ⟨d1, d2, d3, d4⟩ := D3 E5
      have hy : ((if accD.length < sizeLine then compM (compF G σ tg cond elt) (items.drop (i + 1)) (accD ++ [y]) else stuck : M (List Pu.D)) T5).is _ _ := hy
      by_cases hz : accD.length < sizeLine
      · rw [if_pos hz] at hy
        refine ⟨acc, d1, by rw [racc.length]; exact hz, hlt, F5, τ5, T5, acc ++ [v], accD ++ [y], (e.trans E5).write hD d3, t5.write d4, upd_same, d2.append (.cons ry .nil), d3, d4, hy⟩
      · rw [if_neg hz] at hy
        exact False.elim hy
  · have ei : i = items.length := by omega
    subst ei
    rw [List.drop_length] at h
    obtain ⟨ds, e1, h⟩ := (show QN B F H1 τ Q (.lst accD) T2 from h)
    cases e1
    refine .inl ⟨it1 (Nat.le_refl _), ?_⟩
    have := h acc D (ers H D) F2 τ2 (e.ers hD hFD) (t.ers hτ) racc ers_same
    rw [ers_upd hacc] at this
    exact this
def condT (B : Tab) (H0 : Hp) (G : Gam) (X : Cx) (cond : Oe) (ifs : List Expr) : Prop := match cond, ifs with
  | .none, [] => True
  | .some c, [e] => PT X e (tB B WF H0 (ev G c).t)
  | _, _ => False
theorem c_conds {cond : Oe} {ifs : List Expr} (h : condT B H0 G X cond ifs) : PTs X ifs (tB B WF H0 (evalC G cond)) := by
  match cond, ifs, h with
  | .none, [], _ =>
    refine ⟨fun pins s σs H Q I hq => pts_nil.run pins s σs H Q I ?_⟩
    obtain ⟨F, τ, σ, T, S, _, hq⟩ := hq
    exact (show QB F H τ Q true T from hq) _ _ _ (.refl S.sub) S.tape
  | .some c, [e], h => exact pts_one h
theorem n_compN (g : Gd G kn B W H0 N k X) {elt tg' iter : Expr} {ifs : List Expr} {scope : Scope} {own : List (Str × Nat)} {ie : E} {tg : P} {src : I} {cond : Oe} (hi : PI X tg' iter (tI B W H0 true (evalI G src))) (ok : BlkOk X.N X.env.scope scope own) (ho : own.map (·.2) = tg.slots)
    (hg : ∀ (s : Shared) (H : Hp) (C : Addr) (cl : List (Str × Addr)) (fp : List Addr), PG (X.blk s H scope (compEnvC scope cl C X.env) fp) tg' (gP X.K tg))
    (ht : ∀ (s : Shared) (H : Hp) (C : Addr) (cl : List (Str × Addr)) (fp : List Addr), condT B H0 G (X.blk s H scope (compEnvC scope cl C X.env) fp) cond ifs)
    (he : ∀ (s : Shared) (H : Hp) (C : Addr) (cl : List (Str × Addr)) (fp : List Addr), PE (X.blk s H scope (compEnvC scope cl C X.env) fp) elt (tD B WF H0 false (ev G ie).v)) (hs : ∀ x, foldedSetIterable iter X.env x = pure x) :
    PE X (.ListComp elt [⟨tg', iter, ifs, 0⟩] scope pos) (tN B W H0 fun σ => (ev G (.comp ie tg src cond)).v σ >>= lstD) := by
  refine ⟨fun pins s σs H Q I hq => (pe_lc g.calm (by rw [g.eN]; exact g.nd) hi ok hg (fun s H C cl fp => c_conds (ht s H C cl fp)) he hs).run pins s σs H Q I ?_⟩
  have hq : tR B W H0 .nil (fun σ => evalI G src σ >>= fun items => (noExc (compM (compF G σ tg cond ie) items []) >>= fun ys => pure (.lst ys)) >>= lstD) σs H (fun F H τ => QN B F H τ Q) := tR.eqv hq fun σ => M.bind_assoc _ _ _
  refine (tR.stepI fwd_N hq).mono fun J H1 ⟨items, F, τ, σ, T, S, it, h⟩ D hD => ?_
  have h := Res.is_noExc (Res.is_bind.mp (Res.is_bind.mp h))
  rw [ho]
  exact comp_core g.eK S it h hD
theorem comp_own (ie : E) (tg : P) (src : I) (cond : Oe) (σ : Env) : (ev G (.comp ie tg src cond)).v σ >>= lstD = (ev G (.comp ie tg src cond)).v σ := by
  show (evalI G src σ >>= fun items => noExc (compM (compF G σ tg cond ie) items []) >>= fun ys => pure (D.lst ys)) >>= lstD = (evalI G src σ >>= fun items => noExc (compM (compF G σ tg cond ie) items []) >>= fun ys => pure (D.lst ys))
  rw [M.bind_assoc]
  congr 1
  funext items
  rw [M.bind_assoc]
  congr 1
end
end Pu

/-! Pu10: statements. -/
namespace Pu
open PySem PySem.Spec PyProof.Rows L2
/-- where the def was entered -/
structure Ent where
  F : Hp
  H : Hp
  τ : Ta
  n : Nat
def QX (B : Tab) (W : WX) (e0 : Ent) (c : Str) (T' : Tp) : Prop := ∀ F' H' τ' s', s'.length = e0.n → Ext e0.F e0.H e0.τ F' H' τ' → TapeAt F' H' τ' T' → W (.ref (B.ex c)) none s' H'
def QSt (B : Tab) (e0 : Ent) (σ : Env) (T' : Tp) (R : L2.St → Hp → Prop) : Prop := ∀ F' H' τ' s', St B e0.H F' τ' σ s' H' T' → Ext e0.F e0.H e0.τ F' H' τ' → s'.length = e0.n → R s' H'
def QF (B : Tab) (e0 : Ent) (D : Ends) (f : Fl) (T' : Tp) : Prop := match f with
  | .next σ => QSt B e0 σ T' D.nx
  | .brk σ => QSt B e0 σ T' D.bk
  | .cont σ => QSt B e0 σ T' D.ct
  | .ret d => ∀ v F' H' τ', Ext e0.F e0.H e0.τ F' H' τ' → TapeAt F' H' τ' T' → Rp B F' τ' v d → D.rt v H'
def tS (B : Tab) (W : WX) (e0 : Ent) (m : Env → M Fl) : TS := fun D s H => ∃ F τ σ T, St B e0.H F τ σ s H T ∧ Ext e0.F e0.H e0.τ F H τ ∧ s.length = e0.n ∧ (m σ T).is (QF B e0 D) (QX B W e0)
section
variable {G : Gam} {U : Sub} {kn : Str → Option Bool} {B : Tab} {W : WX} {H0 : Hp} {N : List Str} {k : Nat} {X : Cx} {l l' : Bool} {pos : Pos} {e0 : Ent} {K0 : Ends} {s : L2.St} {H : Hp}
theorem pss_imp {sts : List Stmt} {t t' : TS} (h : PSs X sts t) (q : ∀ K0 s H, t' K0 s H → t K0 s H) : PSs X sts t' := ⟨fun pins s σ H K0 I w => h.run pins s σ H K0 I (q K0 σ H w)⟩
theorem ps_imp {st : Stmt} {t t' : TS} (h : PS X st t) (q : ∀ K0 s H, t' K0 s H → t K0 s H) : PS X st t' := ⟨fun pins s σ H K0 I w => h.run pins s σ H K0 I (q K0 σ H w)⟩
theorem pe_imp {e : Expr} {t t' : TE} (h : PE X e t) (q : ∀ s H Q, t' s H Q → t s H Q) : PE X e t' := ⟨fun pins s σ H Q I w => h.run pins s σ H Q I (q σ H Q w)⟩
theorem QSt.now {F : Hp} {τ : Ta} {σ : Env} {T : Tp} {R : L2.St → Hp → Prop} (S : St B e0.H F τ σ s H T) (e : Ext e0.F e0.H e0.τ F H τ) (hn : s.length = e0.n) (h : QSt B e0 σ T R) : R s H := h F H τ s S e hn
theorem QX.qe {F : Hp} {τ : Ta} {c : Str} {T : Tp} (e : Ext e0.F e0.H e0.τ F H τ) (hn : s.length = e0.n) (h : QX B W e0 c T) : QE B W s F H τ c T := fun H' F' τ' e' t => h F' H' τ' s hn (e.trans e') t
/-- an expression ahead -/
theorem tS.expr {m : Env → M D} {f : Env → D → M Fl} {Q : VK} (h : tS B W e0 (fun σ => m σ >>= f σ) K0 s H)
    (q : ∀ v H1 d, (∃ F τ σ T, St B e0.H F τ σ s H1 T ∧ Ext e0.F e0.H e0.τ F H1 τ ∧ s.length = e0.n ∧ Rp B F τ v d ∧ (f σ d T).is (QF B e0 K0) (QX B W e0)) → Q v H1) : tD B W e0.H false m s H Q := by
  obtain ⟨F, τ, σ, T, S, e, hn, h⟩ := h
  refine ⟨F, τ, σ, T, S, trivial, (Res.is_bind.mp h).mono (fun d T1 hd v H' F' τ' e' t r => ?_) fun c T1 z => z.qe e hn⟩
  exact q v H' d ⟨F', τ', σ, T1, S.ext e' t, e.trans e', hn, r, hd⟩
theorem tS.exprN {m : Env → M D} {f : Env → D → M Fl} {Q : VK} (h : tS B W e0 (fun σ => m σ >>= f σ) K0 s H) (hf : ∀ σ d, (∀ ds, d ≠ .lst ds) → f σ d = stuck)
    (q : ∀ vs p H1 ds, (∃ F τ σ T, St B e0.H F τ σ s H1 T ∧ Ext e0.F e0.H e0.τ F H1 τ ∧ s.length = e0.n ∧ RpL B F τ vs ds ∧ H1 p = none ∧ (f σ (.lst ds) T).is (QF B e0 K0) (QX B W e0)) → Q (.ref p) (upd H1 p (.lst vs))) : tN B W e0.H (fun σ => m σ >>= lstD) s H Q := by
  obtain ⟨F, τ, σ, T, S, e, hn, h⟩ := h
  refine ⟨F, τ, σ, T, S, trivial, Res.is_bind.mpr ((Res.is_bind.mp h).mono (fun d T1 hd => ?_) fun c T1 z => z.qe e hn)⟩
  by_cases hl : ∃ ds, d = .lst ds
  · obtain ⟨ds, rfl⟩ := hl
    exact ⟨ds, rfl, fun vs p H' F' τ' e' t r n => q vs p H' ds ⟨F', τ', σ, T1, S.ext e' t, e.trans e', hn, r, n, hd⟩⟩
  · rw [hf σ d fun ds z => hl ⟨ds, z⟩] at hd
    exact False.elim hd
theorem tS.test {m : Env → M Bool} {f : Env → Bool → M Fl} {Q : Bool → Hp → Prop} (h : tS B W e0 (fun σ => m σ >>= f σ) K0 s H)
    (q : ∀ b H1, tS B W e0 (fun σ => f σ b) K0 s H1 → Q b H1) : tB B W e0.H m s H Q := by
  obtain ⟨F, τ, σ, T, S, e, hn, h⟩ := h
  refine ⟨F, τ, σ, T, S, trivial, (Res.is_bind.mp h).mono (fun d T1 hd H' F' τ' e' t => ?_) fun c T1 z => z.qe e hn⟩
  exact q d H' ⟨F', τ', σ, T1, S.ext e' t, e.trans e', hn, hd⟩

/-! ### rows of statements -/
theorem ss_nil : PSs X [] (tS B W e0 (exSs G U .nil)) := pss_imp pss_nil fun K0 s H ⟨F, τ, σ, T, S, e, hn, h⟩ => QSt.now S e hn (show QSt B e0 σ T K0.nx from h)
theorem exSs_cons (st : Pu.S) (r : Ss) (σ : Env) : exSs G U (.cons st r) σ = (exS G U st σ >>= fun f => match f with
    | .next σ' => exSs G U r σ'
    | .brk σ' => pure (.brk σ')
    | .cont σ' => pure (.cont σ')
    | .ret d => pure (.ret d)) := rfl
theorem ss_cons {st : Stmt} {sts : List Stmt} {i : Pu.S} {r : Ss} (h1 : PS X st (tS B W e0 (exS G U i))) (h2 : PSs X sts (tS B W e0 (exSs G U r))) : PSs X (st :: sts) (tS B W e0 (exSs G U (.cons i r))) := by
  refine pss_imp (pss_cons h1 h2) fun K0 s H ⟨F, τ, σ, T, S, e, hn, h⟩ => ?_
  rw [exSs_cons] at h
  refine ⟨F, τ, σ, T, S, e, hn, (Res.is_bind.mp h).mono (fun f T1 hf => ?_) fun _ _ z => z⟩
  cases f with
  | next σ' => exact fun F' H' τ' s' S' e' hn' => ⟨F', τ', σ', T1, S', e', hn', hf⟩
  | brk σ' => exact hf
  | cont σ' => exact hf
  | ret d => exact hf
theorem wipeE_keep {σ : Env} {is : List Nat} : (wipeE σ is).length = σ.length := wipeE_length σ is
theorem ss_wipe {sts : List Stmt} {is : List Nat} {r : Ss} (h : PSs X sts (tS B W e0 (exSs G U r))) : PSs X sts (tS B W e0 (exSs G U (.wipe is r))) :=
  pss_imp h fun K0 s H ⟨F, τ, σ, T, S, e, hn, h⟩ => ⟨F, τ, wipeE σ is, T, S.wipedS is, e, hn, h⟩
theorem Ext.freeze {F F' H H' : Hp} {τ τ' : Ta} {p : Addr} {o : HO} (e : Ext F H τ F' H' τ') (h1 : H' p = some o) (h2 : F' p = none) (h3 : H p = none) : Ext F H τ (upd F' p o) H' τ' where
  keep := e.keep
  there := e.there
  grow := fun a u q => by rw [upd_ne (ne_of_none (e.grow a u q) h2)]; exact e.grow a u q
  sub := fun a u q => by
    by_cases z : a = p
    · subst z; rw [upd_same] at q; cases q; exact h1
    · rw [upd_ne z] at q; exact e.sub a u q
  new := fun a q1 q2 => by
    by_cases z : a = p
    · subst z; exact h3
    · rw [upd_ne z] at q1; exact e.new a q1 q2
  ta := e.ta
  tn := e.tn
theorem TapeAt.freeze {F H : Hp} {τ : Ta} {T : Tp} {p : Addr} {o : HO} (t : TapeAt F H τ T) (n : ∀ q, τ = some q → p ≠ q.1 ∧ p ≠ q.2) : TapeAt (upd F p o) H τ T := by
  match τ, T, t with
  | none, none, _ => trivial
  | some (a, b), some (cells, seed), ⟨h1, h2, h3, h4, h5⟩ =>
    obtain ⟨n1, n2⟩ := n _ rfl
    exact ⟨h1, h2, h3, by rw [upd_ne (Ne.symm n1)]; exact h4, by rw [upd_ne (Ne.symm n2)]; exact h5⟩
theorem RpS.grow {F F' H : Hp} {τ : Ta} {v : V} {sv : SV} {H0 : Hp} (e : Same F F') (h : RpS B H0 F τ H v sv) (n : ∀ xs p, sv = .own xs → v = .ref p → F' p = none) : RpS B H0 F' τ H v sv := by
  cases sv with
  | val d => exact Rp.mono e (Tle.refl _) h
  | own xs =>
    obtain ⟨p, vs, e1, e2, e3, e4, e5, e6⟩ := h
    exact ⟨p, vs, e1, e2, RpL.mono e (Tle.refl _) e3, n xs p rfl e1, e5, e6⟩
theorem St.frozen {F : Hp} {τ : Ta} {σ : Env} {T : Tp} {i : Nat} {xs : List D} (S : St B H0 F τ σ s H T) (hi : σ[i]? = some (some (.own xs))) : ∃ p vs, s[i]? = some (some (.ref p)) ∧ H p = some (.lst vs) ∧ F p = none ∧ H0 p = none ∧ (∀ q, τ = some q → p ≠ q.1 ∧ p ≠ q.2) ∧
    St B H0 (upd F p (.lst vs)) τ (σ.set i (some (.val (.lst xs)))) s H T := by
  obtain ⟨v, hv, r⟩ := S.slot i _ hi
  obtain ⟨p, vs, rfl, e2, e3, e4, e5, e6⟩ := r
  have lt : i < σ.length := by
    cases z : σ[i]? with
    | none => rw [z] at hi; cases hi
    | some o => exact (List.getElem?_eq_some_iff.mp z).1
  have gr : Same F (upd F p (.lst vs)) := fun a u q => by rw [upd_ne (ne_of_none q e4)]; exact q
  refine ⟨p, vs, hv, e2, e4, e6, e5, ?_, S.tape.freeze e5, fun j sv hj => ?_, fun a b x y q hab h1 h2 h3 => ?_, by rw [List.length_set]; exact S.len⟩
  · intro a u q
    by_cases z : a = p
    · subst z; rw [upd_same] at q; cases q; exact e2
    · rw [upd_ne z] at q; exact S.sub a u q
  · by_cases z : i = j
    · subst z
      rw [List.getElem?_set_self lt] at hj
      cases hj
      exact ⟨_, hv, .lst (.inl upd_same) (RpL.mono gr (Tle.refl _) e3)⟩
    · rw [List.getElem?_set_ne z] at hj
      obtain ⟨w, hw, r⟩ := S.slot j sv hj
      refine ⟨w, hw, r.grow gr fun ys p' e1' e2' => ?_⟩
      subst e1'
      obtain ⟨p2, vs2, f1, _, _, f4, _⟩ := r
      rw [e2'] at f1; cases f1
      rw [upd_ne fun e => ?_]
      · exact f4
      · subst e e2'
        exact S.dist i j _ _ _ z hi hj hv hw
  · have na : i ≠ a := fun z => by subst z; rw [List.getElem?_set_self lt] at h1; cases h1
    have nb : i ≠ b := fun z => by subst z; rw [List.getElem?_set_self lt] at h2; cases h2
    rw [List.getElem?_set_ne na] at h1
    rw [List.getElem?_set_ne nb] at h2
    exact S.dist a b x y q hab h1 h2 h3
theorem ss_freeze {sts : List Stmt} {i : Nat} {r : Ss} (h : PSs X sts (tS B W e0 (exSs G U r))) : PSs X sts (tS B W e0 (exSs G U (.freeze i r))) := by
  refine pss_imp h fun K0 s H ⟨F, τ, σ, T, S, e, hn, h⟩ => ?_
  have h : (exSs G U r (freezeE σ i) T).is (QF B e0 K0) (QX B W e0) := h
  unfold freezeE at h
  split at h
  · rename_i xs hi
    obtain ⟨p, vs, h1, h2, h3, h4, h5, S'⟩ := S.frozen hi
    exact ⟨_, τ, _, T, S', e.freeze h2 h3 h4, hn, h⟩
  · exact ⟨F, τ, σ, T, S, e, hn, h⟩

/-! ### small statements -/
theorem st_pass : PS X (.Pass pos) (tS B W e0 (exS G U .pass)) := ps_imp ps_pass fun K0 s H ⟨F, τ, σ, T, S, e, hn, h⟩ => QSt.now S e hn (show QSt B e0 σ T K0.nx from h)
theorem st_doc {x : Str} {j : Nat} {pos' : Pos} : PS X (.Expr (.Constant (.str x) j pos) pos') (tS B W e0 (exS G U .pass)) := ps_imp ps_doc fun K0 s H ⟨F, τ, σ, T, S, e, hn, h⟩ => QSt.now S e hn (show QSt B e0 σ T K0.nx from h)
theorem st_brk : PS X (.Break pos) (tS B W e0 (exS G U .brk)) := ps_imp ps_break fun K0 s H ⟨F, τ, σ, T, S, e, hn, h⟩ => QSt.now S e hn (show QSt B e0 σ T K0.bk from h)
theorem st_cont : PS X (.Continue pos) (tS B W e0 (exS G U .cont)) := ps_imp ps_continue fun K0 s H ⟨F, τ, σ, T, S, e, hn, h⟩ => QSt.now S e hn (show QSt B e0 σ T K0.ct from h)
theorem st_ret {e : Expr} {i : E} (he : PE X e (tD B W e0.H false (ev G i).v)) : PS X (.Return (some e) pos) (tS B W e0 (exS G U (.ret i))) := by
  refine ps_imp (ps_ret he) fun K0 s H h => tS.expr (f := fun _ d => pure (.ret d)) h fun v H1 d ⟨F, τ, σ, T, S, e, hn, r, h⟩ => ?_
  exact (show QF B e0 K0 (.ret d) T from h) v F H1 τ e S.tape r
theorem st_expr {e : Expr} {i : E} (he : PE X e (tD B W e0.H false (ev G i).v)) (hs : swapsWith e none pos.line X.env = pure false) : PS X (.Expr e pos) (tS B W e0 (exS G U (.expr i))) := by
  refine ps_imp (ps_expr he hs) fun K0 s H h => tS.expr (f := fun σ _ => pure (.next σ)) h fun v H1 d ⟨F, τ, σ, T, S, e, hn, r, h⟩ => ?_
  exact QSt.now S e hn (show QSt B e0 σ T K0.nx from h)
theorem st_if {c : Expr} {a b : List Stmt} {ic : E} {ia ib : Ss} (hc : PT X c (tB B W e0.H (ev G ic).t)) (ha : PSs X a (tS B W e0 (exSs G U ia))) (hb : PSs X b (tS B W e0 (exSs G U ib))) : PS X (.If c a b pos) (tS B W e0 (exS G U (.iff ic ia ib))) := by
  refine ps_imp (ps_if hc ha hb) fun K0 s H h => tS.test (f := fun σ b => if b = true then exSs G U ia σ else exSs G U ib σ) h fun b H1 h => ?_
  cases b with
  | true => exact h
  | false => exact h
theorem st_set {e : Expr} {i : E} {j : Nat} {x : Str} {pos' : Pos} (hN : X.N.Nodup) (hi : X.N[j]? = some x) (hx : X.env.scope.names.lookup x = some .local) (he : PE X e (tD B W e0.H false (ev G i).v)) (hs : swapsWith e (some (.Name x pos')) pos.line X.env = pure false) :
    PS X (.Assign [.Name x pos'] e pos) (tS B W e0 (exS G U (.set (.name j) i))) := by
  refine ps_imp (ps_set hN hi (.inl hx) he hs (.inr hx)) fun K0 s H h => tS.expr (f := fun σ d => bindP (.name j) d σ >>= fun σ' => pure (.next σ')) h fun v H1 d ⟨F, τ, σ, T, S, e, hn, r, h⟩ => ?_
  have h : QSt B e0 (σ.set j (some (.val d))) T K0.nx := h
  exact QSt.now (S.set r) e (by rw [List.length_set]; exact hn) h
/-- a fresh list is taken as the slot's own -/
theorem Ext.unborn {F F' H H' : Hp} {τ τ' : Ta} {p : Addr} (e : Ext F H τ F' H' τ') (n : H' p = none) : H p = none := e.there p n
theorem St.setOwn {F : Hp} {τ : Ta} {σ : Env} {T : Tp} {i : Nat} {vs : List V} {ds : List D} {p : Addr} (S : St B H0 F τ σ s H T) (r : RpL B F τ vs ds) (n : H p = none) (n0 : H0 p = none) : St B H0 F τ (σ.set i (some (.own ds))) (s.set i (some (.ref p))) (upd H p (.lst vs)) T := by
  have nt : ∀ q, τ = some q → p ≠ q.1 ∧ p ≠ q.2 := fun q e => by
    have t := S.tape
    rw [e] at t
    match T, t with
    | some (cells, seed), ⟨h1, h2, _⟩ => exact ⟨(fun z => by rw [← z, n] at h1; cases h1), (fun z => by rw [← z, n] at h2; cases h2)⟩
  have nF : F p = none := by
    cases z : F p with
    | none => rfl
    | some o => rw [S.sub p o z] at n; cases n
  have S1 := S.ext (.fresh (o := .lst vs) S.sub n) (S.tape.fresh n)
  have other : ∀ (j : Nat) (ys : List D) , σ[j]? = some (some (.own ys)) → s[j]? ≠ some (some (.ref p)) := fun j ys hj hs => by
    obtain ⟨v, hv, p', vs', e1, e2, _⟩ := S.slot j _ hj
    rw [hs] at hv; cases hv
    cases e1
    rw [n] at e2; cases e2
  refine ⟨S1.sub, S1.tape, fun j sv h => ?_, fun a b xs ys q hab h1 h2 h3 => ?_, by rw [List.length_set, List.length_set]; exact S.len⟩
  · by_cases e : i = j
    · subst e
      by_cases hi : i < σ.length
      · rw [List.getElem?_set_self hi] at h
        cases h
        exact ⟨.ref p, by rw [List.getElem?_set_self (by rw [← S.len]; exact hi)], p, vs, rfl, upd_same, r, nF, nt, n0⟩
      · rw [List.getElem?_eq_none (by simpa using hi)] at h; cases h
    · rw [List.getElem?_set_ne e] at h
      rw [List.getElem?_set_ne e]
      exact S1.slot j sv h
  · by_cases ea : i = a
    · subst ea
      have nb : i ≠ b := hab
      rw [List.getElem?_set_ne nb] at h2 ⊢
      by_cases hi : i < s.length
      · rw [List.getElem?_set_self hi] at h3
        cases h3
        exact other b ys h2
      · rw [List.getElem?_eq_none (by simpa using hi)] at h3; cases h3
    · rw [List.getElem?_set_ne ea] at h1 h3
      by_cases eb : i = b
      · subst eb
        intro z
        by_cases hi : i < s.length
        · rw [List.getElem?_set_self hi] at z
          cases z
          exact other a xs h1 h3
        · rw [List.getElem?_eq_none (by simpa using hi)] at z; cases z
      · rw [List.getElem?_set_ne eb] at h2 ⊢
        exact S.dist a b xs ys q hab h1 h2 h3
theorem st_setOwn {e : Expr} {i : E} {j : Nat} {x : Str} {pos' : Pos} (hN : X.N.Nodup) (hi : X.N[j]? = some x) (hx : X.env.scope.names.lookup x = some .local) (he : PE X e (tN B W e0.H fun σ => (ev G i).v σ >>= lstD)) (hs : swapsWith e (some (.Name x pos')) pos.line X.env = pure false) :
    PS X (.Assign [.Name x pos'] e pos) (tS B W e0 (exS G U (.setOwn j i))) := by
  refine ps_imp (ps_set hN hi (.inl hx) he hs (.inr hx)) fun K0 s H h => tS.exprN (f := fun σ d => match d with
    | .lst xs => pure (.next (σ.set j (some (.own xs))))
    | _ => stuck) h (fun σ d n => ?_) fun vs p H1 ds ⟨F, τ, σ, T, S, e, hn, r, n, h⟩ => ?_
  · cases d with
    | lst ds => exact absurd rfl (n ds)
    | _ => rfl
  · have h : QSt B e0 (σ.set j (some (.own ds))) T K0.nx := h
    exact QSt.now (S.setOwn r n (e.there p n)) (e.trans (.fresh S.sub n)) (by rw [List.length_set]; exact hn) h
end
end Pu

/-! Pu11: loops, stores, lists that grow, errors. -/
namespace Pu
open PySem PySem.Spec PyProof.Rows L2
section
variable {G : Gam} {U : Sub} {kn : Str → Option Bool} {B : Tab} {W : WX} {H0 : Hp} {N : List Str} {k : Nat} {X : Cx} {l l' : Bool} {pos : Pos} {e0 : Ent} {K0 : Ends} {s : L2.St} {H : Hp}
/-! ### enumerate -/
theorem i_enum (g : Gd G kn B W H0 N k X) {elts : List Expr} {kk : Nat} {tpos : Pos} {a : Expr} {p : Pos} {ia : E} (b : Bn kn X "enumerate") (hs : isStar a = false) (ha : PE X a (tD B W H0 l (ev G ia).v)) :
    PI X (.Tuple elts kk tpos) (.Call (.Name "enumerate" p) [a] [] pos) (tI B W H0 l (evalI G (.enum ia))) := by
  refine ⟨fun pins s σs H Q I hq => (pi_enum b.gl (b.mg g boot_enumerate) (pa_cons ha pa_nil (starEach_cons hs)) (starEach_cons hs)).run pins s σs H Q I ?_⟩
  have hq : tR B W H0 .nil (fun σ => (ev G ia).v σ >>= fun d => (match d with | .lst xs => pure (enumL 0 xs) | _ => stuck : M (List D))) σs H (fun F H τ => QI B l F H τ Q) := hq
  refine (tR.step (l := l) fwd_I hq).mono fun v1 H1 ⟨x, F, τ, σ, T, S, ⟨r1, _⟩, h⟩ => ?_
  cases x with
  | lst xs =>
    obtain ⟨a1, vs, rfl, ra, hsa⟩ := lst_stays (K := X.K) S.sub r1
    refine ⟨a1, vs, rfl, hsa F τ H1 (.now S.sub), QI.now S h ?_⟩
    intro F2 τ2 H3 e i
    obtain ⟨e1, e2, e3⟩ := sub_of e
    have q1 := hsa F2 τ2 H3 e
    refine ⟨fun hi => ⟨vs, q1, ?_⟩, fun d hd => ?_⟩
    · rw [enumL_len] at hi
      rw [ra.length]; exact hi
    · obtain ⟨dx, hx, rfl⟩ := enumL_get hd
      obtain ⟨v, hv, rv⟩ := ra.get hx
      refine ⟨⟨vs, v, q1, hv⟩, fun z H4 ⟨Tp, x', z1, z2, z3, z4⟩ => ?_⟩
      subst z1 z3
      have f1 := z4 vs q1
      rw [hv] at f1; cases f1
      refine new_pair e2 z2 ?_ (Rp.mono e1 e3 rv)
      have : (0 : Int) + (i : Int) = (i : Int) := by omega
      rw [this]; exact .int _
  | _ => exact False.elim h

/-! ### for -/
theorem Ext.at1 {F F' H H' : Hp} {τ τ' : Ta} (e : Ext F H τ F' H' τ') : Ext F' H τ' F' H' τ' where
  keep := fun a o h n => e.keep a o h fun p hp => n p (e.ta p hp)
  there := e.there
  grow := Same.refl _
  sub := e.sub
  new := fun a h1 h2 => absurd h2 h1
  ta := Tle.refl _
  tn := fun p h1 h2 => by rw [h1] at h2; cases h2
theorem Ext.from1 {F F' F'' H H' H'' : Hp} {τ τ' τ'' : Ta} (e : Ext F H τ F' H' τ') (e' : Ext F' H τ' F'' H'' τ'') : Ext F H τ F'' H'' τ'' where
  keep := fun a o h n => e'.keep a o h fun p hp => by
    cases z : τ with
    | some q =>
      have := e.ta q z
      rw [hp] at this; cases this
      exact n p z
    | none =>
      obtain ⟨h1, h2⟩ := e.tn p z hp
      exact ⟨ne_of_none h h1, ne_of_none h h2⟩
  there := e'.there
  grow := e.grow.trans e'.grow
  sub := e'.sub
  new := fun a h1 h2 => by
    cases z : F' a with
    | none => exact e'.new a h1 z
    | some o => exact e.new a (by rw [z]; simp) h2
  ta := e.ta.trans e'.ta
  tn := fun p h1 h2 => by
    cases z : τ' with
    | none => exact e'.tn p z h2
    | some q =>
      have := e'.ta q z
      rw [h2] at this; cases this
      exact e.tn p h1 z
/-- a later entry -/
def Ent.at (e0 : Ent) (F : Hp) (τ : Ta) : Ent := ⟨F, e0.H, τ, e0.n⟩
theorem QX.at {F H : Hp} {τ : Ta} {c : Str} {T : Tp} (e : Ext e0.F e0.H e0.τ F H τ) (h : QX B W e0 c T) : QX B W (e0.at F τ) c T := fun F' H' τ' s' hn e' t => h F' H' τ' s' hn (e.from1 e') t
theorem QSt.at {F H : Hp} {τ : Ta} {σ : Env} {T : Tp} {R : L2.St → Hp → Prop} (e : Ext e0.F e0.H e0.τ F H τ) (h : QSt B e0 σ T R) : QSt B (e0.at F τ) σ T R := fun F' H' τ' s' S e' hn => h F' H' τ' s' S (e.from1 e') hn
theorem forM_cons {tg : P} {body : Env → M Fl} {x : D} {xs : List D} {σ : Env} : forM tg body (x :: xs) σ = (bindP tg x σ >>= fun σ' => body σ' >>= fun f => match f with
    | .next σ2 => forM tg body xs σ2
    | .cont σ2 => forM tg body xs σ2
    | .brk σ2 => pure (.next σ2)
    | .ret d => pure (.ret d)) := rfl
mutual
theorem bindP_len : ∀ (p : P) {d : D} {σ : Env} {T : Tp} {Q : Env → Tp → Prop} {E : Str → Tp → Prop}, ((bindP p d σ) T).is Q E → ((bindP p d σ) T).is (fun σ' T' => σ'.length = σ.length ∧ Q σ' T') E
  | .name i, d, σ, T, Q, E, h => by
    unfold bindP at h ⊢
    exact ⟨List.length_set, h⟩
  | .tup ps, d, σ, T, Q, E, h => by
    cases d with
    | tup ds =>
      unfold bindP at h ⊢
      split
      · rename_i hl
        rw [if_pos hl] at h
        exact bindPs_len ps h
      · rename_i hl
        rw [if_neg hl] at h
        exact h
    | _ => unfold bindP at h; exact False.elim h
theorem bindPs_len : ∀ (ps : List P) {ds : List D} {σ : Env} {T : Tp} {Q : Env → Tp → Prop} {E : Str → Tp → Prop}, ((bindPs ps ds σ) T).is Q E → ((bindPs ps ds σ) T).is (fun σ' T' => σ'.length = σ.length ∧ Q σ' T') E
  | [], ds, σ, T, Q, E, h => by
    cases ds with
    | nil => unfold bindPs at h ⊢; exact ⟨rfl, h⟩
    | cons d ds => unfold bindPs at h; exact False.elim h
  | p :: ps, ds, σ, T, Q, E, h => by
    cases ds with
    | nil => unfold bindPs at h; exact False.elim h
    | cons d ds =>
      unfold bindPs at h ⊢
      refine Res.is_bind.mpr ((bindP_len p (Res.is_bind.mp h)).mono (fun σ1 T1 ⟨e, h1⟩ => ?_) fun _ _ z => z)
      exact (bindPs_len ps h1).mono (fun σ2 T2 ⟨e2, h2⟩ => ⟨e2.trans e, h2⟩) fun _ _ z => z
end
/-- a target takes a value, at a state of a def -/
theorem bind_st (hK : X.K = B.K) (p : P) {d : D} {v : V} {F H : Hp} {τ : Ta} {σ : Env} {s : L2.St} {T : Tp} {Q : Env → Tp → Prop} {E : Str → Tp → Prop} {Q' : L2.St → Hp → Prop} (S : St B H0 F τ σ s H T) (r : Rp B F τ v d) (h : ((bindP p d σ) T).is Q E)
    (q : ∀ σ' s', St B H0 F τ σ' s' H T → s'.length = s.length → Q σ' T → Q' s' H) : gP X.K p v s H Q' :=
  bind_ok (T1 := T) hK p S r (bindP_len p h) fun σ' s' S' _ ⟨e, h2⟩ => q σ' s' S' (by rw [← S'.len, e, S.len]) h2
/-- for -/
theorem st_for (g : Gd G kn B W e0.H N k X) (hp : PassesOwn (model X.prog X.w) X.A X.env X.xe) {tg iter : Expr} {body : List Stmt} {p : P} {src : I} {ib : Ss} (hi : PI X tg iter (tI B W e0.H false (evalI G src))) (hg : PG X tg (gP X.K p)) (hb : ∀ e1, PSs X body (tS B W e1 (exSs G U ib)))
    (hs : ∀ x, foldedSetIterable iter X.env x = pure x) : PS X (.For tg iter body [] pos) (tS B W e0 (exS G U (.forr p src ib))) := by
  have hb' : PSs X body (fun K0 s H => ∃ e1, tS B W e1 (exSs G U ib) K0 s H) := ⟨fun pins s σ H D I ⟨e1, w⟩ => (hb e1).run pins s σ H D I w⟩
  refine ps_imp (ps_for hp g.calm hi hg hb' hs) fun K0 s H ⟨F, τ, σ, T, S, e, hn, h⟩ => ?_
  have h : ((evalI G src σ >>= fun items => forM p (exSs G U ib) items σ) T).is (QF B e0 K0) (QX B W e0) := h
  refine ⟨F, τ, σ, T, S, trivial, (Res.is_bind.mp h).mono (fun items T1 h1 J H1 F1 τ1 e1 t1 it => ?_) fun c T1 z => z.qe e hn⟩
  have S1 := S.ext e1 t1
  have E1 := e.trans e1
  refine ⟨fun i m s H => m = items.length - i ∧ i ≤ items.length ∧ ∃ F2 τ2 σ2 T2, St B e0.H F2 τ2 σ2 s H T2 ∧ Ext e0.F e0.H e0.τ F2 H τ2 ∧ s.length = e0.n ∧ Same F1 F2 ∧ Tle τ1 τ2 ∧
    (forM p (exSs G U ib) (items.drop i) σ2 T2).is (QF B e0 K0) (QX B W e0), ⟨_, rfl, Nat.zero_le _, F1, τ1, σ, T1, S1, E1, hn, Same.refl _, Tle.refl _, h1⟩, ?_⟩
  rintro i m s2 H2 ⟨rfl, hi, F2, τ2, σ2, T2, S2, E2, hn2, m1, m2, h2⟩
  obtain ⟨it1, it2⟩ := it F2 τ2 H2 ⟨m1, S2.sub, m2⟩ i
  by_cases hlt : i < items.length
  · obtain ⟨go, it3⟩ := it2 items[i] (by simp [hlt])
    refine .inr ⟨go, fun s' H' => i + 1 ≤ items.length ∧ ∃ F2 τ2 σ2 T2, St B e0.H F2 τ2 σ2 s' H' T2 ∧ Ext e0.F e0.H e0.τ F2 H' τ2 ∧ s'.length = e0.n ∧ Same F1 F2 ∧ Tle τ1 τ2 ∧
      (forM p (exSs G U ib) (items.drop (i + 1)) σ2 T2).is (QF B e0 K0) (QX B W e0), fun s' H' w => ⟨items.length - (i + 1), by omega, rfl, w⟩, fun x H3 hy => ?_⟩
    obtain ⟨F3, e3, rx, t3⟩ := it3 x H3 hy
    rw [drop_get hlt, forM_cons] at h2
    have S3 := S2.ext e3 (t3 _ S2.tape)
    have E3 := E2.trans e3
    refine bind_st g.eK p S3 rx (Res.is_bind.mp h2) fun σ' s' S' hl h3 => ?_
    have hn' : s'.length = e0.n := hl.trans hn2
    refine ⟨e0.at F3 τ2, F3, τ2, σ', T2, S', E3.at1, hn', (Res.is_bind.mp h3).mono (fun f T4 hf => ?_) fun c T4 z => z.at E3⟩
    have nxt : ∀ σ4, (forM p (exSs G U ib) (items.drop (i + 1)) σ4 T4).is (QF B e0 K0) (QX B W e0) → QSt B (e0.at F3 τ2) σ4 T4 fun s' H' => i + 1 ≤ items.length ∧ ∃ F2 τ2 σ2 T2, St B e0.H F2 τ2 σ2 s' H' T2 ∧ Ext e0.F e0.H e0.τ F2 H' τ2 ∧ s'.length = e0.n ∧ Same F1 F2 ∧ Tle τ1 τ2 ∧
        (forM p (exSs G U ib) (items.drop (i + 1)) σ2 T2).is (QF B e0 K0) (QX B W e0) := fun σ4 h4 F' H' τ' s4 S4 e4 hn4 =>
      ⟨hlt, F', τ', σ4, T4, S4, E3.from1 e4, hn4, (m1.trans e3.grow).trans e4.grow, m2.trans e4.ta, h4⟩
    cases f with
    | next σ4 => exact nxt σ4 hf
    | cont σ4 => exact nxt σ4 hf
    | brk σ4 => exact QSt.at E3 (show QSt B e0 σ4 T4 K0.nx from hf)
    | ret d => exact fun v F' H' τ' e' t r => (show QF B e0 K0 (.ret d) T4 from hf) v F' H' τ' (E3.from1 e') t r
  · have ei : i = items.length := by omega
    subst ei
    rw [List.drop_length] at h2
    exact .inl ⟨it1 (Nat.le_refl _), QSt.now S2 E2 hn2 (show QSt B e0 σ2 T2 K0.nx from h2)⟩
/-- while -/
theorem st_while (g : Gd G kn B W e0.H N k X) (hp : PassesOwn (model X.prog X.w) X.A X.env X.xe) {c : Expr} {body : List Stmt} {ic : E} {ib : Ss} (hc : PT X c (tB B W e0.H (ev G ic).t)) (hb : PSs X body (tS B W e0 (exSs G U ib))) :
    PS X (.While c body [] pos) (tS B W e0 (exS G U (.whil ic ib))) := by
  refine ps_imp (ps_while hp hc hb) fun K0 s H ⟨F, τ, σ, T, S, e, hn, h⟩ => ?_
  have h : (whileM (evalT G ic) (exSs G U ib) FU σ T).is (QF B e0 K0) (QX B W e0) := h
  refine ⟨fun m s H => ∃ F τ σ T, St B e0.H F τ σ s H T ∧ Ext e0.F e0.H e0.τ F H τ ∧ s.length = e0.n ∧ (whileM (evalT G ic) (exSs G U ib) m σ T).is (QF B e0 K0) (QX B W e0), ⟨FU, F, τ, σ, T, S, e, hn, h⟩, ?_⟩
  rintro m s H ⟨F, τ, σ, T, S, e, hn, h⟩
  cases m with
  | zero => exact False.elim h
  | succ m =>
    have h : ((evalT G ic σ >>= fun b => if b = true then exSs G U ib σ >>= fun f => (match f with
      | .next σ2 => whileM (evalT G ic) (exSs G U ib) m σ2
      | .cont σ2 => whileM (evalT G ic) (exSs G U ib) m σ2
      | .brk σ2 => pure (.next σ2)
      | .ret d => pure (.ret d)) else pure (.next σ)) T).is (QF B e0 K0) (QX B W e0) := h
    refine tS.test (m := evalT G ic) (f := fun σ b => if b = true then exSs G U ib σ >>= fun f => (match f with
      | .next σ2 => whileM (evalT G ic) (exSs G U ib) m σ2
      | .cont σ2 => whileM (evalT G ic) (exSs G U ib) m σ2
      | .brk σ2 => pure (.next σ2)
      | .ret d => pure (.ret d)) else pure (.next σ)) (K0 := K0) ⟨F, τ, σ, T, S, e, hn, h⟩ fun b H1 ⟨F1, τ1, σ1, T1, S1, e1, hn1, h1⟩ => ?_
    cases b with
    | true =>
      dsimp only at h1
      rw [if_pos rfl] at h1 ⊢
      refine ⟨fun s H => ∃ F τ σ T, St B e0.H F τ σ s H T ∧ Ext e0.F e0.H e0.τ F H τ ∧ s.length = e0.n ∧ (whileM (evalT G ic) (exSs G U ib) m σ T).is (QF B e0 K0) (QX B W e0), fun s' H' w => ⟨m, Nat.lt_succ_self _, w⟩, F1, τ1, σ1, T1, S1, e1, hn1, (Res.is_bind.mp h1).mono (fun f T2 hf => ?_) fun _ _ z => z⟩
      cases f with
      | next σ2 => exact fun F' H' τ' s' S' e' hn' => ⟨F', τ', σ2, T2, S', e', hn', hf⟩
      | cont σ2 => exact fun F' H' τ' s' S' e' hn' => ⟨F', τ', σ2, T2, S', e', hn', hf⟩
      | brk σ2 => exact hf
      | ret d => exact hf
    | false =>
      dsimp only at h1
      rw [if_neg Bool.false_ne_true] at h1 ⊢
      exact QSt.now S1 e1 hn1 (show QSt B e0 σ1 T1 K0.nx from h1)
end
end Pu

/-! Pu12: stores, lists that grow, errors. -/
namespace Pu
open PySem PySem.Spec PyProof.Rows L2
/-! ### a class of errors, made without arguments -/
section
variable {X : Cx} {C : Addr} {bmB : List Value} {B newId initId : String}
theorem pmk_own0 {x : Str} {p pos : Pos} (F : ExcBaseFacts B newId initId bmB) (q : PySem.W.excIn X.K C bmB newId = true) (gC : X.mg x = some (.ref C)) (kC : PySem.W.keepIn X.K (.ref C) = true) (r : Raises X (.ref C)) (hg : Gl X x)
    (hdb : (x == ("__debug__" : Str)) = false) : PMk X (.Call (.Name x p) [] [] pos) (fun _ H Q => Q (.ref C) none H) := by
  intro pins s σ H Q I h
  refine wpAny_Call_Name_kw (ld_glob I hg gC ?_ hdb)
  refine PySem.W.callWith_K0 I.kIn kC ?_
  show wpAny _ _ (call (.ref C) []) _ _ _
  obtain ⟨bm, N, nm, qn, bs, hdct, sn, sub, ab, col, dd, k0, k1, k2, k3, k5, mN, hC, hN, hni, T⟩ := exc_obj I.kIn q
  refine wpAny_call_exc_subT F T hC hN hni (fun h' e hm => ?_) (by show 0 ≤ sizeLine; exact Nat.zero_le _)
  exact mk_of I hm r h (I.hok.gone hm.new)
end
/-- the surroundings of a statement -/
structure GdS (G : Gam) (U : Sub) (kn : Str → Option Bool) (B : Tab) (W : WX) (N : List Str) (k : Nat) (X : Cx) : Prop where
  g : ∀ H0, Gd G kn B W H0 N k X
  hp : PassesOwn (model X.prog X.w) X.A X.env X.xe
  tk : Takes X W
  hs : X.stack = X.env :: X.outer
  hf : X.env.frame = some X.env.locals
  mkx : ∀ X' : Cx, X'.mg = X.mg → X'.K = X.K → ∀ c p pos, U.ex c = true → Gl X' c → (c == ("__debug__" : Str)) = false → PMk X' (.Call (.Name c p) [] [] pos) (fun _ H Q => Q (.ref (B.ex c)) none H)
  mg : ∀ c, U.ex c = true → X.mg c = some (.ref (B.ex c))
  hd : ∀ c x, U.ex c = true → U.ex x = true → PySem.W.exmOne X.K (.ref (B.ex c)) (.ref (B.ex x)) = some (U.sub c x)
  loc : ∀ x, X.fn x = true
section
variable {G : Gam} {U : Sub} {kn : Str → Option Bool} {B : Tab} {W W' : WX} {H0 : Hp} {N : List Str} {k : Nat} {X : Cx} {l l' : Bool} {pos : Pos} {e0 : Ent} {K0 : Ends} {s : L2.St} {H : Hp}
theorem Gd.tr (g : Gd G kn B W H0 N k X) {pn : List (Addr × Obj)} {xe : Value → Shared → Prop} (tk : Takes (X.tr pn xe) W') : Gd G kn B W' H0 N k (X.tr pn xe) where
  eK := g.eK
  eN := g.eN
  nd := g.nd
  calm := g.calm
  room := g.room
  blt := g.blt
  const := g.const
  fn := g.fn
  call := g.call
  pass := fun σ => passAt tk σ
theorem GdS.tr (g : GdS G U kn B W N k X) {pn : List (Addr × Obj)} {xe : Value → Shared → Prop} (tk : Takes (X.tr pn xe) W') (hp : PassesOwn (model X.prog X.w) X.A X.env xe) : GdS G U kn B W' N k (X.tr pn xe) where
  g := fun H0 => (g.g H0).tr tk
  hp := hp
  tk := tk
  hs := g.hs
  hf := g.hf
  mkx := g.mkx
  mg := g.mg
  hd := g.hd
  loc := g.loc
/-! ### stores -/
theorem tN_of {m : Env → M D} {Q : VK} (h : tD B W H0 l m s H Q) (hk : ∀ σ, m σ >>= lstD = m σ) : tN B W H0 (fun σ => m σ >>= lstD) s H Q := by
  obtain ⟨F, τ, σ, T, S, hc, h⟩ := h
  refine ⟨F, τ, σ, T, S, hc, QN.toD (l := l) (k := m) ?_⟩
  show ((m σ >>= lstD) T).is _ _
  rw [hk]
  exact h
theorem st_asg (g : GdS G U kn B W N k X) {tg e : Expr} {p : P} {i : E} (hg : PG X tg (gP X.K p)) (he : PE X e (tD B W e0.H false (ev G i).v)) (hs : swapsWithSole [tg] e pos.line X.env = pure false) (hw : swappedStores [tg] e X.env = pure none)
    (h1 : (assignEach [tg] X.env).map (·.2) = [assign tg X.env]) : PS X (.Assign [tg] e pos) (tS B W e0 (exS G U (.set p i))) := by
  refine ps_imp (ps_asg he hg hs hw h1) fun K0 s H h => tS.expr (f := fun σ d => bindP p d σ >>= fun σ' => pure (.next σ')) h fun v H1 d ⟨F, τ, σ, T, S, e, hn, r, h⟩ => ?_
  exact bind_st (g.g e0.H).eK p S r (Res.is_bind.mp h) fun σ' s' S' hl h' => QSt.now S' e (hl.trans hn) (show QSt B e0 σ' T K0.nx from h')
theorem st_aug (g : GdS G U kn B W N k X) {e : Expr} {i : E} {j : Nat} {o : Op2} {op : Operator} {x : Str} {pos' : Pos} {c : Int → Int → Prop} {f : Int → Int → Int} (hN : X.N.Nodup) (hi : X.N[j]? = some x) (hx : Loc X.env.scope x) (he : PE X e (tD B W e0.H false (ev G i).v))
    (ho : PIp X op fun x y H Q => ∃ i j, x = .int i ∧ y = .int j ∧ c i j ∧ Q (.int (f i j)) H) (hc : ∀ i j T Q E, ((binD o (.int i) (.int j)) T).is Q E → c i j ∧ Q (.int (f i j)) T) :
    PS X (.AugAssign (.Name x pos') op e pos) (tS B W e0 (exS G U (.aug j o i))) := by
  refine ps_imp (ps_aug hN hi hx he ho (.inl (g.loc x))) fun K0 s H ⟨F, τ, σ, T, S, e, hn, h⟩ => ?_
  have h : ((match σ[j]? with
    | some (some (.val x)) => (ev G i).v σ >>= fun y => augD o x y >>= fun z => pure (.next (σ.set j (some (.val z))))
    | _ => stuck : M Fl) T).is (QF B e0 K0) (QX B W e0) := h
  cases hσ : σ[j]? with
  | none => rw [hσ] at h; exact False.elim h
  | some o =>
    cases o with
    | none => rw [hσ] at h; exact False.elim h
    | some sv =>
      cases sv with
      | own xs => rw [hσ] at h; exact False.elim h
      | val dx =>
        rw [hσ] at h
        obtain ⟨v, hv, r⟩ := S.slot j _ hσ
        have r : Rp B F τ v dx := r
        refine ⟨v, hv, F, τ, σ, T, S, trivial, (Res.is_bind.mp h).mono (fun y T1 h1 w H1 F1 τ1 e1 t1 ry => ?_) fun c T1 z => z.qe e hn⟩
        have h1 := Res.is_bind.mp h1
        have r' : Rp B F1 τ1 v dx := Rp.mono e1.grow e1.ta r
        have ry : Rp B F1 τ1 w y := ry
        cases dx with
        | int a =>
          cases y with
          | int b =>
            cases r'
            cases ry
            obtain ⟨hc1, h2⟩ := hc _ _ _ _ _ h1
            refine ⟨a, b, rfl, rfl, hc1, ?_⟩
            exact QSt.now ((S.ext e1 t1).set (.int (f a b))) (e.trans e1) (by rw [List.length_set]; exact hn) (show QSt B e0 (σ.set j (some (.val (.int (f a b))))) T1 K0.nx from h2)
          | _ => exact False.elim h1
        | _ => exact False.elim h1
theorem ip_addA : PIp X .Add fun x y H Q => ∃ i j, x = .int i ∧ y = .int j ∧ True ∧ Q (.int (i + j)) H := by
  intro pins s σ H x y v u Q I r1 r2 h
  obtain ⟨i, j, e1, e2, _, q⟩ := h
  subst e1; subst e2
  obtain ⟨t, rfl⟩ := r1
  obtain ⟨t', rfl⟩ := r2
  exact iadd_int ⟨.int _, H, I.tok _, ⟨_, rfl⟩, q⟩
theorem ip_subA : PIp X .Sub fun x y H Q => ∃ i j, x = .int i ∧ y = .int j ∧ True ∧ Q (.int (i - j)) H := by
  intro pins s σ H x y v u Q I r1 r2 h
  obtain ⟨i, j, e1, e2, _, q⟩ := h
  subst e1; subst e2
  obtain ⟨t, rfl⟩ := r1
  obtain ⟨t', rfl⟩ := r2
  exact isub_int ⟨.int _, H, I.tok _, ⟨_, rfl⟩, q⟩
theorem ip_mulA : PIp X .Mult fun x y H Q => ∃ i j, x = .int i ∧ y = .int j ∧ mulOk i j ∧ Q (.int (i * j)) H := by
  intro pins s σ H x y v u Q I r1 r2 h
  obtain ⟨i, j, e1, e2, hc, q⟩ := h
  subst e1; subst e2
  obtain ⟨t, rfl⟩ := r1
  obtain ⟨t', rfl⟩ := r2
  exact imul_int ⟨.int _, H, I.tok _, ⟨_, rfl⟩, q⟩ hc
theorem ip_fdivA : PIp X .FloorDiv fun x y H Q => ∃ i j, x = .int i ∧ y = .int j ∧ divOk i j = true ∧ Q (.int (i.fdiv j)) H := by
  intro pins s σ H x y v u Q I r1 r2 h
  obtain ⟨i, j, e1, e2, hc, q⟩ := h
  subst e1; subst e2
  obtain ⟨t, rfl⟩ := r1
  obtain ⟨t', rfl⟩ := r2
  unfold divOk at hc
  simp only [Bool.and_eq_true, decide_eq_true_eq, Bool.not_eq_true'] at hc
  refine PyProof.Rows.ifloordiv_int hc.1 ⟨.int _, H, I.tok _, ⟨_, rfl⟩, q⟩ ?_
  first
    | exact hc.2
    | simp [hc.2]
theorem ip_modA : PIp X .Mod fun x y H Q => ∃ i j, x = .int i ∧ y = .int j ∧ j ≠ 0 ∧ Q (.int (i.fmod j)) H := by
  intro pins s σ H x y v u Q I r1 r2 h
  obtain ⟨i, j, e1, e2, hc, q⟩ := h
  subst e1; subst e2
  obtain ⟨t, rfl⟩ := r1
  obtain ⟨t', rfl⟩ := r2
  exact PyProof.Rows.imod_int hc ⟨.int _, H, I.tok _, ⟨_, rfl⟩, q⟩
theorem augs (g : GdS G U kn B W N k X) {e : Expr} {i : E} {j : Nat} {o : Op2} {x : Str} {pos' : Pos} (hN : X.N.Nodup) (hi : X.N[j]? = some x) (hx : Loc X.env.scope x) (he : PE X e (tD B W e0.H false (ev G i).v)) (ho : o ≠ .pow) :
    PS X (.AugAssign (.Name x pos') (opOf o) e pos) (tS B W e0 (exS G U (.aug j o i))) := by
  cases o with
  | add => exact st_aug g hN hi hx he ip_addA fun i j T Q E h => ⟨trivial, h⟩
  | sub => exact st_aug g hN hi hx he ip_subA fun i j T Q E h => ⟨trivial, h⟩
  | mul => exact st_aug g hN hi hx he ip_mulA (by
      intro i j T Q E h
      have h : ((guardD (mulOk i j) (pure (.int (i * j)))) T).is Q E := h
      unfold guardD at h
      split at h
      · exact ⟨by assumption, h⟩
      · exact False.elim h)
  | fdiv => exact st_aug g hN hi hx he ip_fdivA (by
      intro i j T Q E h
      have h : ((guardD (divOk i j = true) (pure (.int (i.fdiv j)))) T).is Q E := h
      unfold guardD at h
      split at h
      · exact ⟨by assumption, h⟩
      · exact False.elim h)
  | mod => exact st_aug g hN hi hx he ip_modA (by
      intro i j T Q E h
      have h : ((guardD (j ≠ 0) (pure (.int (i.fmod j)))) T).is Q E := h
      unfold guardD at h
      split at h
      · exact ⟨by assumption, h⟩
      · exact False.elim h)
  | pow => exact absurd rfl ho
/-! ### a, b = x, y -/
theorem rpl_two {F : Hp} {τ : Ta} {vs : List V} {ds : List D} {n : Nat} (r : RpL B F τ vs ds) : vs.length = ds.length := r.length
theorem st_par2 (g : GdS G U kn B W N k X) {i j : Nat} {x y : Str} {a b : Expr} {px py pt : Pos} {kt k2 pt2} {irs : Es} (hN : X.N.Nodup) (hi : X.N[i]? = some x) (hj : X.N[j]? = some y) (hij : i ≠ j)
    (hx : X.env.scope.names.lookup x = some .local) (hy : X.env.scope.names.lookup y = some .local) (ha : PA X [a, b] (tL B W e0.H false (evalEs G irs)))
    (hw : swappedStores [.Tuple [.Name x px, .Name y py] kt pt] (.Tuple [a, b] k2 pt2) X.env = pure (some [x, y])) :
    PS X (.Assign [.Tuple [.Name x px, .Name y py] kt pt] (.Tuple [a, b] k2 pt2) pos) (tS B W e0 (exS G U (.setPar [i, j] irs))) := by
  refine ps_imp (ps_par (g.g e0.H).calm hN hi hj hij hx hy ha hw) fun K0 s H ⟨F, τ, σ, T, S, e, hn, h⟩ => ?_
  have h : ((evalEs G irs σ >>= fun ds => if [i, j].length = ds.length then pure (.next (setsE σ [i, j] ds)) else stuck) T).is (QF B e0 K0) (QX B W e0) := h
  refine ⟨F, τ, σ, T, S, trivial, (Res.is_bind.mp h).mono (fun ds T1 h1 vs H1 F1 τ1 e1 t1 r => ?_) fun c T1 z => z.qe e hn⟩
  have r := rpl_paired r
  split at h1
  · rename_i hl
    match ds, hl, vs, r, h1 with
    | [d1, d2], _, [v, w], .cons r1 (.cons r2 .nil), h1 =>
      refine ⟨v, w, rfl, ?_⟩
      exact QSt.now (((S.ext e1 t1).set r1).set r2) (e.trans e1) (by rw [List.length_set, List.length_set]; exact hn) (show QSt B e0 ((σ.set i (some (.val d1))).set j (some (.val d2))) T1 K0.nx from h1)
  · exact False.elim h1
theorem st_par3 (g : GdS G U kn B W N k X) {i j m : Nat} {x y z : Str} {a b c : Expr} {px py pz pt : Pos} {kt k2 pt2} {irs : Es} (hN : X.N.Nodup) (hi : X.N[i]? = some x) (hj : X.N[j]? = some y) (hm : X.N[m]? = some z) (hij : i ≠ j) (him : i ≠ m) (hjm : j ≠ m)
    (hx : X.env.scope.names.lookup x = some .local) (hy : X.env.scope.names.lookup y = some .local) (hz : X.env.scope.names.lookup z = some .local) (ha : PA X [a, b, c] (tL B W e0.H false (evalEs G irs)))
    (hw : swappedStores [.Tuple [.Name x px, .Name y py, .Name z pz] kt pt] (.Tuple [a, b, c] k2 pt2) X.env = pure (some [x, y, z])) :
    PS X (.Assign [.Tuple [.Name x px, .Name y py, .Name z pz] kt pt] (.Tuple [a, b, c] k2 pt2) pos) (tS B W e0 (exS G U (.setPar [i, j, m] irs))) := by
  refine ps_imp (ps_par3 (g.g e0.H).calm hN hi hj hm hij him hjm hx hy hz ha hw) fun K0 s H ⟨F, τ, σ, T, S, e, hn, h⟩ => ?_
  have h : ((evalEs G irs σ >>= fun ds => if [i, j, m].length = ds.length then pure (.next (setsE σ [i, j, m] ds)) else stuck) T).is (QF B e0 K0) (QX B W e0) := h
  refine ⟨F, τ, σ, T, S, trivial, (Res.is_bind.mp h).mono (fun ds T1 h1 vs H1 F1 τ1 e1 t1 r => ?_) fun c T1 z => z.qe e hn⟩
  have r := rpl_paired r
  split at h1
  · rename_i hl
    match ds, hl, vs, r, h1 with
    | [d1, d2, d3], _, [v, w, u], .cons r1 (.cons r2 (.cons r3 .nil)), h1 =>
      refine ⟨v, w, u, rfl, ?_⟩
      exact QSt.now ((((S.ext e1 t1).set r1).set r2).set r3) (e.trans e1) (by rw [List.length_set, List.length_set, List.length_set]; exact hn) (show QSt B e0 (((σ.set i (some (.val d1))).set j (some (.val d2))).set m (some (.val d3))) T1 K0.nx from h1)
  · exact False.elim h1
/-! ### an own list is changed -/
theorem St.write {F : Hp} {τ : Ta} {σ : Env} {T : Tp} {i : Nat} {xs ys : List D} {ws : List V} (S : St B H0 F τ σ s H T) (hi : σ[i]? = some (some (.own xs))) (r : RpL B F τ ws ys) {p : Addr} (hp : s[i]? = some (some (.ref p))) : St B H0 F τ (σ.set i (some (.own ys))) s (upd H p (.lst ws)) T := by
  obtain ⟨v, hv, q⟩ := S.slot i _ hi
  rw [hp] at hv; cases hv
  obtain ⟨p', vs, e1, e2, e3, e4, e5, e6⟩ := q
  cases e1
  have lt : i < σ.length := (List.getElem?_eq_some_iff.mp hi).1
  refine ⟨fun a u q => ?_, ?_, fun j sv h => ?_, fun a b x y q hab h1 h2 h3 => ?_, by rw [List.length_set]; exact S.len⟩
  · rw [upd_ne (ne_of_none q e4)]; exact S.sub a u q
  · exact S.tape.write e5
  · by_cases e : i = j
    · subst e
      rw [List.getElem?_set_self lt] at h
      cases h
      exact ⟨_, hp, p, ws, rfl, upd_same, r, e4, e5, e6⟩
    · rw [List.getElem?_set_ne e] at h
      obtain ⟨w, hw, q⟩ := S.slot j sv h
      refine ⟨w, hw, ?_⟩
      cases sv with
      | val d => exact q
      | own zs =>
        obtain ⟨p2, vs2, f1, f2, f3, f4, f5, f6⟩ := q
        subst f1
        refine ⟨p2, vs2, rfl, ?_, f3, f4, f5, f6⟩
        rw [upd_ne fun z => ?_]
        · exact f2
        · subst z
          exact S.dist i j _ _ _ e hi h hp hw
  · by_cases ea : i = a
    · subst ea
      rw [List.getElem?_set_ne hab] at h2
      exact S.dist i b _ _ q hab hi h2 h3
    · rw [List.getElem?_set_ne ea] at h1
      by_cases eb : i = b
      · subst eb
        exact S.dist a i _ _ q hab h1 hi h3
      · rw [List.getElem?_set_ne eb] at h2
        exact S.dist a b x y q hab h1 h2 h3
theorem Ext.write0 {F F' H H' : Hp} {τ τ' : Ta} {p : Addr} {o : HO} (e : Ext F H τ F' H' τ') (h1 : H p = none) (h2 : F' p = none) : Ext F H τ F' (upd H' p o) τ' := e.write h1 h2
theorem st_setIx (g : GdS G U kn B W N k X) {i : Nat} {x : Str} {ix e : Expr} {ii ie : E} {p tpos : Pos} (hi : X.N[i]? = some x) (hv : Vis X.env.scope x) (hd : (x == ("__debug__" : Str)) = false) (hcd : (x == ("__classdict__" : Str)) = false) (hix : PE X ix (tD B W e0.H false (ev G ii).v)) (he : PE X e (tD B W e0.H false (ev G ie).v))
    (hs : swapsWithSole [.Subscript (.Name x p) ix tpos] e pos.line X.env = pure false) (hw : swappedStores [.Subscript (.Name x p) ix tpos] e X.env = pure none)
    (h1 : (assignEach [.Subscript (.Name x p) ix tpos] X.env).map (·.2) = [assign (.Subscript (.Name x p) ix tpos) X.env])
    (ha : ∀ v, assign (.Subscript (.Name x p) ix tpos) X.env v = (do
      let ov ← holding [v] (eval (.Name x p) X.env)
      let iv ← holding [v, ov] (eval ix X.env)
      standAt tpos
      holding [v, ov, iv] (setItem ov iv v)
      release [v, ov, iv] [])) :
    PS X (.Assign [.Subscript (.Name x p) ix tpos] e pos) (tS B W e0 (exS G U (.setIx i ii ie))) := by
  refine ps_imp (ps_asg he (pg_sub (pe_var hi hv hd hcd) hix set_list ha) hs hw h1) fun K0 s H ⟨F, τ, σ, T, S, e, hn, h⟩ => ?_
  have h : ((match σ[i]? with
    | some (some (.own xs)) => (ev G ie).v σ >>= fun d => ((ev G ii).v σ >>= intD) >>= fun k => (match ixN xs.length k with
      | some j => pure (.next (σ.set i (some (.own (xs.set j d)))))
      | none => stuck)
    | _ => stuck : M Fl) T).is (QF B e0 K0) (QX B W e0) := h
  cases hσ : σ[i]? with
  | none => rw [hσ] at h; exact False.elim h
  | some o =>
    cases o with
    | none => rw [hσ] at h; exact False.elim h
    | some sv =>
      cases sv with
      | val d => rw [hσ] at h; exact False.elim h
      | own xs =>
        rw [hσ] at h
        refine ⟨F, τ, σ, T, S, trivial, (Res.is_bind.mp h).mono (fun d T1 h1 v H1 F1 τ1 e1 t1 r => ?_) fun c T1 z => z.qe e hn⟩
        have S1 := S.ext e1 t1
        have E1 := e.trans e1
        obtain ⟨_, hp, p, vs, rfl, q2, q3, q4, q5, q6⟩ := S1.slot i _ hσ
        rw [M.bind_assoc] at h1
        refine ⟨_, hp, F1, τ1, σ, T1, S1, trivial, (Res.is_bind.mp h1).mono (fun kd T2 h2 w H2 F2 τ2 e2 t2 rk => ?_) fun c T2 z => z.qe E1 hn⟩
        have rk : Rp B F2 τ2 w kd := rk
        cases kd with
        | int z =>
          cases rk
          have h2 : ((match ixN xs.length z with
            | some j => pure (.next (σ.set i (some (.own (xs.set j d)))))
            | none => stuck : M Fl) T2).is (QF B e0 K0) (QX B W e0) := h2
          have S2 := S1.ext e2 t2
          obtain ⟨_, hp', p', vs', e', q2, q3, q4, q5, q6⟩ := S2.slot i _ hσ
          rw [hp] at hp'; cases hp'; cases e'
          have r : Rp B F1 τ1 v d := r
          cases hx : ixN xs.length z with
          | none => rw [hx] at h2; exact False.elim h2
          | some j =>
            rw [hx] at h2
            refine ⟨p, vs', z, j, rfl, rfl, q2, by rw [q3.length]; exact hx, ?_⟩
            exact QSt.now (S2.write hσ (q3.set j (Rp.mono e2.grow e2.ta r)) hp) ((E1.trans e2).write q6 q4) hn (show QSt B e0 (σ.set i (some (.own (xs.set j d)))) T2 K0.nx from h2)
        | _ => exact False.elim h2
theorem st_app (g : GdS G U kn B W N k X) {i : Nat} {x : Str} {e : Expr} {ie : E} {p apos cpos : Pos} (hi : X.N[i]? = some x) (hv : Vis X.env.scope x) (hd : (x == ("__debug__" : Str)) = false) (hcd : (x == ("__classdict__" : Str)) = false) (he : PE X e (tD B W e0.H false (ev G ie).v)) (hst : isStar e = false)
    (hbase : attributeBase (.Name x p) "append" X.env (eval (.Name x p) X.env) = eval (.Name x p) X.env) (hline : (apos.endLine == cpos.line) = true) :
    PS X (.Expr (.Call (.Attribute (.Name x p) "append" apos) [e] [] cpos) pos) (tS B W e0 (exS G U (.app i ie))) := by
  have hP := pe_bm (apos := apos) (cpos := cpos) PySem.F.plainAttrs_list PySem.F.slot_list_append PySem.F.type_list_append mt_append (pe_var hi hv hd hcd (pos := p)) (pa_cons he pa_nil (starEach_cons hst)) hbase (by rw [starEach_cons hst]; rfl) hline (starEach_cons hst) rfl
  refine ps_imp (ps_expr hP rfl) fun K0 s H ⟨F, τ, σ, T, S, e, hn, h⟩ => ?_
  have h : ((match σ[i]? with
    | some (some (.own xs)) => (ev G ie).v σ >>= fun d => if xs.length < sizeLine then pure (.next (σ.set i (some (.own (xs ++ [d]))))) else stuck
    | _ => stuck : M Fl) T).is (QF B e0 K0) (QX B W e0) := h
  cases hσ : σ[i]? with
  | none => rw [hσ] at h; exact False.elim h
  | some o =>
    cases o with
    | none => rw [hσ] at h; exact False.elim h
    | some sv =>
      cases sv with
      | val d => rw [hσ] at h; exact False.elim h
      | own xs =>
        rw [hσ] at h
        obtain ⟨_, hp, p, vs, rfl, q2, q3, q4, q5, q6⟩ := S.slot i _ hσ
        refine ⟨_, hp, .inl ⟨rfl, vs, .inl (.inl q2)⟩, ?_⟩
        refine ⟨F, τ, σ, T, S, trivial, (Res.is_bind.mp h).mono (fun d T1 h1 v H1 F1 τ1 e1 t1 r => ?_) fun c T1 z => z.qe e hn⟩
        have S1 := S.ext e1 t1
        have E1 := e.trans e1
        obtain ⟨_, hp', p', vs', e', q2, q3, q4, q5, q6⟩ := S1.slot i _ hσ
        rw [hp] at hp'; cases hp'; cases e'
        have r : Rp B F1 τ1 v d := r
        by_cases hz : xs.length < sizeLine
        · rw [if_pos hz] at h1
          refine ⟨p, vs', v, rfl, rfl, q2, by rw [q3.length]; exact hz, ?_⟩
          exact QSt.now (S1.write hσ (q3.append (.cons r .nil)) hp) (E1.write q6 q4) hn (show QSt B e0 (σ.set i (some (.own (xs ++ [d])))) T1 K0.nx from h1)
        · rw [if_neg hz] at h1
          exact False.elim h1
/-! ### errors -/
theorem st_raise (g : GdS G U kn B W N k X) {c : Str} {p cpos : Pos} (hu : U.ex c = true) (hg : Gl X c) (hd : (c == ("__debug__" : Str)) = false) : PS X (.Raise (some (.Call (.Name c p) [] [] cpos)) none pos) (tS B W e0 (exS G U (.raise c))) := by
  refine ps_imp (ps_raise (g.g e0.H).calm g.tk (g.mkx X rfl rfl c p cpos hu hg hd)) fun K0 s H ⟨F, τ, σ, T, S, e, hn, h⟩ => ?_
  exact (show QX B W e0 c T from h) F H τ s hn e S.tape
def Lf.v : Lf → V
  | .non => .non
  | .bl b => .bl b
  | .str x => .str x
theorem Lf.rp (v : Lf) {F : Hp} {τ : Ta} : Rp B F τ v.v v.d := by
  cases v with
  | non => exact .non
  | bl b => exact .bl b
  | str x => exact .str x
def hdsT (B : Tab) (hs : List (Str × Lf)) : List (Value × (Addr → Value → Option Addr → TS)) := hs.map fun q => (.ref (B.ex q.1), fun _ _ _ => tRet (tC q.2.v))
theorem handle_ok (g : GdS G U kn B W N k X) {c : Str} (hc : U.ex c = true) {T : Tp} : ∀ (hs : List (Str × Lf)), (∀ q ∈ hs, U.ex q.1 = true) → ((handle U c hs) T).is (QF B e0 K0) (QX B W e0) → QX B (wMany X.K W K0 (hdsT B hs)) e0 c T
  | [], _, h => h
  | (x, v) :: r, hu, h => by
    have ih := handle_ok g hc (T := T) r fun q hq => hu q (List.mem_cons_of_mem _ hq)
    have hx : U.ex x = true := hu (x, v) List.mem_cons_self
    unfold handle at h
    intro F' H' τ' s' hn e t
    refine ⟨U.sub c x, g.hd c x hc hx, fun z a ha => ?_, fun z => ?_⟩
    · rw [if_pos z] at h
      exact (show QF B e0 K0 (.ret v.d) T from h) v.v F' H' τ' e t v.rp
    · rw [if_neg (by rw [z]; exact Bool.false_ne_true)] at h
      exact ih h F' H' τ' s' hn e t
def lfE (v : Lf) : Expr → Bool := fun e => match v, e with
  | .non, .Constant .none _ _ => true
  | .bl b, .Constant (.bool c) _ _ => b == c
  | .str x, .Constant (.str y) _ _ => x == y
  | _, _ => false
theorem lf_pe {v : Lf} {e : Expr} (h : lfE v e = true) : PE X e (tC v.v) := by
  unfold lfE at h
  split at h
  · exact pe_non
  · rename_i b c _ _
    have : b = c := by simpa using h
    subst this
    exact pe_bl
  · rename_i x y _ _
    have : x = y := by simpa using h
    subst this
    exact pe_str
  · cases h
def hd1 : ExceptHandler → Option (Str × Expr)
  | .ExceptHandler (some (.Name y _)) none [.Return (some e) _] _ => some (y, e)
  | _ => none
theorem hd1_eq {h : ExceptHandler} {y : Str} {e : Expr} (q : hd1 h = some (y, e)) : ∃ np rp hp, h = .ExceptHandler (some (.Name y np)) none [.Return (some e) rp] hp := by
  unfold hd1 at q
  split at q
  · cases q; exact ⟨_, _, _, rfl⟩
  · cases q
def hdC (X : Cx) (U : Sub) : List (Str × Lf) → List ExceptHandler → Prop
  | [], [] => True
  | q :: r, h :: hs => (∃ e, hd1 h = some (q.1, e) ∧ lfE q.2 e = true) ∧ U.ex q.1 = true ∧ Gl X q.1 ∧ (q.1 == ("__debug__" : Str)) = false ∧ hdC X U r hs
  | _, _ => False
theorem hds_ok (g : GdS G U kn B W N k X) : ∀ {hs : List (Str × Lf)} {l : List ExceptHandler}, hdC X U hs l → HdsOk X l (hdsT B hs) ∧ ∀ q ∈ hs, U.ex q.1 = true
  | [], [], _ => ⟨.nil, fun _ z => by simp at z⟩
  | q :: r, h :: hs, hh => by
    unfold hdC at hh
    obtain ⟨⟨e, h0, h1⟩, h2, h3, h4, h5⟩ := hh
    obtain ⟨i1, i2⟩ := hds_ok g h5
    obtain ⟨np, rp, hp, rfl⟩ := hd1_eq h0
    refine ⟨.cons ⟨h3, h4, .inl (g.mg q.1 h2)⟩ (fun a oe cls d pn _ _ => pss_one (ps_ret (lf_pe h1))) i1, fun p hp => ?_⟩
    rcases List.mem_cons.mp hp with z | z
    · rw [z]; exact h2
    · exact i2 p z
  | [], _ :: _, h => by unfold hdC at h; exact False.elim h
  | _ :: _, [], h => by unfold hdC at h; exact False.elim h
theorem st_try (g : GdS G U kn B W N k X) {body : List Stmt} {h₀ : ExceptHandler} {l : List ExceptHandler} {ib : Ss} {hs : List (Str × Lf)} (hb : ∀ (W : WX) (pn : List (Addr × Obj)) (xe : Value → Shared → Prop), GdS G U kn B W N k (X.tr pn xe) → PSs (X.tr pn xe) body (tS B W e0 (exSs G U ib)))
    (hh : hdC X U hs (h₀ :: l)) : PS X (.Try body (h₀ :: l) [] [] pos) (tS B W e0 (exS G U (.tryy ib hs))) := by
  obtain ⟨h1, h2⟩ := hds_ok g hh
  refine ps_imp (ps_try_many g.hs g.hf g.tk (tb := fun W => tS B W e0 (exSs G U ib)) (fun W pn xe tk hp => hb W pn xe (g.tr tk hp)) h1) fun K0 s H ⟨F, τ, σ, T, S, e, hn, h⟩ => ?_
  refine ⟨F, τ, σ, T, S, e, hn, ?_⟩
  have h : ((tryM U hs (exSs G U ib σ)) T).is (QF B e0 K0) (QX B W e0) := h
  unfold tryM at h
  cases q : exSs G U ib σ T with
  | ok f T1 => rw [q] at h; exact h
  | exc c T1 =>
    rw [q] at h
    dsimp only at h
    by_cases hc : U.ex c = true
    · rw [if_pos hc] at h
      exact handle_ok g hc hs h2 h
    · rw [if_neg hc] at h
      exact False.elim h
  | stuck => rw [q] at h; exact h
end
end Pu

/-! Pu13: names stored, comprehensions stored. -/
namespace Pu
open PySem PySem.Spec PyProof.Rows L2
section
variable {G : Gam} {U : Sub} {kn : Str → Option Bool} {B : Tab} {W W' : WX} {H0 : Hp} {N : List Str} {k : Nat} {X : Cx} {l l' : Bool} {pos : Pos} {e0 : Ent} {K0 : Ends} {s : L2.St} {H : Hp}
theorem st_setG (g : GdS G U kn B W N k X) {e : Expr} {i : E} {j : Nat} {x : Str} {pos' : Pos} (hi : X.N[j]? = some x) (hx : Loc X.env.scope x) (he : PE X e (tD B W e0.H false (ev G i).v)) (hs : swapsWith e (some (.Name x pos')) pos.line X.env = pure false) :
    PS X (.Assign [.Name x pos'] e pos) (tS B W e0 (exS G U (.set (.name j) i))) := by
  have hN : X.N.Nodup := by rw [(g.g e0.H).eN]; exact (g.g e0.H).nd
  refine ps_imp (ps_set hN hi hx he hs (.inl (g.loc x))) fun K0 s H h => tS.expr (f := fun σ d => bindP (.name j) d σ >>= fun σ' => pure (.next σ')) h fun v H1 d ⟨F, τ, σ, T, S, e, hn, r, h⟩ => ?_
  have h : QSt B e0 (σ.set j (some (.val d))) T K0.nx := h
  exact QSt.now (S.set r) e (by rw [List.length_set]; exact hn) h
def ownF (j : Nat) : Env → D → M Fl := fun σ d => match d with
    | .lst xs => pure (.next (σ.set j (some (.own xs))))
    | _ => stuck
theorem own_end {j : Nat} {Q : VK} (hQ : Q = fun x H1 => gName j x s H1 K0.nx) {m : Env → M D} (h : tS B W e0 (fun σ => m σ >>= ownF j σ) K0 s H) : tN B W e0.H (fun σ => m σ >>= lstD) s H Q := by
  subst hQ
  refine tS.exprN (f := ownF j) h (fun σ d n => ?_) fun vs p H1 ds ⟨F, τ, σ, T, S, e, hn, r, n, h⟩ => ?_
  · cases d with
    | lst ds => exact absurd rfl (n ds)
    | _ => rfl
  · have h : QSt B e0 (σ.set j (some (.own ds))) T K0.nx := h
    exact QSt.now (S.setOwn r n (e.there p n)) (e.trans (.fresh S.sub n)) (by rw [List.length_set]; exact hn) h
theorem st_setOwnG (g : GdS G U kn B W N k X) {e : Expr} {i : E} {j : Nat} {x : Str} {pos' : Pos} (hi : X.N[j]? = some x) (hx : Loc X.env.scope x) (he : PE X e (tN B W e0.H fun σ => (ev G i).v σ >>= lstD)) (hs : swapsWith e (some (.Name x pos')) pos.line X.env = pure false) :
    PS X (.Assign [.Name x pos'] e pos) (tS B W e0 (exS G U (.setOwn j i))) := by
  have hN : X.N.Nodup := by rw [(g.g e0.H).eN]; exact (g.g e0.H).nd
  exact ps_imp (ps_set hN hi hx he hs (.inl (g.loc x))) fun K0 s H h => own_end rfl h
theorem comp_tLc (g : Gd G kn B W H0 N k X) {own : List (Str × Nat)} {ie : E} {tg : P} {src : I} {cond : Oe} (ho : own.map (·.2) = tg.slots) {Q : VK} (hq : tN B W H0 (fun σ => (ev G (.comp ie tg src cond)).v σ >>= lstD) s H Q) :
    tLc (tI B W H0 true (evalI G src)) (gP X.K tg) (tB B WF H0 (evalC G cond)) (tD B WF H0 false (ev G ie).v) (own.map (·.2)) s H Q := by
  have hq : tR B W H0 .nil (fun σ => evalI G src σ >>= fun items => (noExc (compM (compF G σ tg cond ie) items []) >>= fun ys => pure (.lst ys)) >>= lstD) s H (fun F H τ => QN B F H τ Q) := tR.eqv hq fun σ => M.bind_assoc _ _ _
  refine (tR.stepI fwd_N hq).mono fun J H1 ⟨items, F, τ, σ, T, S, it, h⟩ D hD => ?_
  have h := Res.is_noExc (Res.is_bind.mp (Res.is_bind.mp h))
  rw [ho]
  exact comp_core g.eK S it h hD
section
variable {elt tg' iter : Expr} {ifs : List Expr} {scope : Scope} {own : List (Str × Nat)} {ie : E} {tg : P} {src : I} {cond : Oe} {j : Nat} {y : Str} {py cpos : Pos}
theorem st_setLc (g : GdS G U kn B W N k X) (hj : X.N[j]? = some y) (hy : X.env.scope.names.lookup y = some .local) (hsw : swapsWith (.ListComp elt [⟨tg', iter, ifs, 0⟩] scope cpos) (some (.Name y py)) pos.line X.env = pure true)
    (hi : PI X tg' iter (tI B W e0.H true (evalI G src))) (ok : BlkOk X.N X.env.scope scope own) (ho : own.map (·.2) = tg.slots)
    (hg : ∀ (s : Shared) (H : Hp) (C : Addr) (cl : List (Str × Addr)) (fp : List Addr), PG (X.blk s H scope (compEnvC scope cl C X.env) fp) tg' (gP X.K tg))
    (ht : ∀ (s : Shared) (H : Hp) (C : Addr) (cl : List (Str × Addr)) (fp : List Addr), condT B e0.H G (X.blk s H scope (compEnvC scope cl C X.env) fp) cond ifs)
    (he : ∀ (s : Shared) (H : Hp) (C : Addr) (cl : List (Str × Addr)) (fp : List Addr), PE (X.blk s H scope (compEnvC scope cl C X.env) fp) elt (tD B WF e0.H false (ev G ie).v)) (hs : ∀ x, foldedSetIterable iter X.env x = pure x) :
    PS X (.Assign [.Name y py] (.ListComp elt [⟨tg', iter, ifs, 0⟩] scope cpos) pos) (tS B W e0 (exS G U (.set (.name j) (.comp ie tg src cond)))) := by
  have gg := g.g e0.H
  have hN : X.N.Nodup := by rw [gg.eN]; exact gg.nd
  refine ps_imp (ps_setLc gg.calm hN hj hy hsw hi ok hg (fun s H C cl fp => c_conds (ht s H C cl fp)) he hs) fun K0 s H h => comp_tLc gg ho (tN_of (l := false) (tS.expr (f := fun σ d => bindP (.name j) d σ >>= fun σ' => pure (.next σ')) h fun v H1 d ⟨F, τ, σ, T, S, e, hn, r, h⟩ => ?_) fun σ => comp_own ie tg src cond σ)
  have h : QSt B e0 (σ.set j (some (.val d))) T K0.nx := h
  exact QSt.now (S.set r) e (by rw [List.length_set]; exact hn) h
theorem st_setOwnLc (g : GdS G U kn B W N k X) (hj : X.N[j]? = some y) (hy : X.env.scope.names.lookup y = some .local) (hsw : swapsWith (.ListComp elt [⟨tg', iter, ifs, 0⟩] scope cpos) (some (.Name y py)) pos.line X.env = pure true)
    (hi : PI X tg' iter (tI B W e0.H true (evalI G src))) (ok : BlkOk X.N X.env.scope scope own) (ho : own.map (·.2) = tg.slots)
    (hg : ∀ (s : Shared) (H : Hp) (C : Addr) (cl : List (Str × Addr)) (fp : List Addr), PG (X.blk s H scope (compEnvC scope cl C X.env) fp) tg' (gP X.K tg))
    (ht : ∀ (s : Shared) (H : Hp) (C : Addr) (cl : List (Str × Addr)) (fp : List Addr), condT B e0.H G (X.blk s H scope (compEnvC scope cl C X.env) fp) cond ifs)
    (he : ∀ (s : Shared) (H : Hp) (C : Addr) (cl : List (Str × Addr)) (fp : List Addr), PE (X.blk s H scope (compEnvC scope cl C X.env) fp) elt (tD B WF e0.H false (ev G ie).v)) (hs : ∀ x, foldedSetIterable iter X.env x = pure x) :
    PS X (.Assign [.Name y py] (.ListComp elt [⟨tg', iter, ifs, 0⟩] scope cpos) pos) (tS B W e0 (exS G U (.setOwn j (.comp ie tg src cond)))) := by
  have gg := g.g e0.H
  have hN : X.N.Nodup := by rw [gg.eN]; exact gg.nd
  exact ps_imp (ps_setLc gg.calm hN hj hy hsw hi ok hg (fun s H C cl fp => c_conds (ht s H C cl fp)) he hs) fun K0 s H h => comp_tLc gg ho (own_end rfl h)
end
/-! ### the surroundings within a comprehension -/
theorem Gd.blk (g : Gd G kn B W H0 N k X) {s : Shared} {H : Hp} {scope : Scope} {cenv : PySem.Env} {fp : List Addr} : Gd G kn B WF H0 N k (X.blk s H scope cenv fp) where
  eK := g.eK
  eN := g.eN
  nd := g.nd
  calm := g.calm
  room := g.room
  blt := g.blt
  const := g.const
  fn := g.fn
  call := g.call
  pass := fun σ => passAt (W := WF) takes0 σ
end
end Pu

/-! Pu13b: the tape, read and written. -/
namespace Pu
open PySem PySem.Spec PyProof.Rows L2
section
variable {G : Gam} {U : Sub} {kn : Str → Option Bool} {B : Tab} {W W' : WX} {H0 : Hp} {N : List Str} {k : Nat} {X : Cx} {l l' : Bool} {pos : Pos} {e0 : Ent} {K0 : Ends} {s : L2.St} {H : Hp}
/-- a slot's value, for a reading -/
theorem slot_open {β : Type} {f : D → M β} {i : Nat} {σ : Env} {T : Tp} {Q : β → Tp → Prop} {E : Str → Tp → Prop} (h : ((match σ[i]? with
    | some (some (.val d)) => f d
    | _ => stuck : M β) T).is Q E) : ∃ d, σ[i]? = some (some (.val d)) ∧ (f d T).is Q E := by
  cases hσ : σ[i]? with
  | none => rw [hσ] at h; exact False.elim h
  | some o =>
    cases o with
    | none => rw [hσ] at h; exact False.elim h
    | some sv =>
      cases sv with
      | own xs => rw [hσ] at h; exact False.elim h
      | val d => rw [hσ] at h; exact ⟨d, rfl, h⟩
theorem tape_open {F H : Hp} {p : Addr × Addr} {T : Tp} (t : TapeAt F H (some p) T) : ∃ cells seed, T = some (cells, seed) ∧ H p.1 = some (.lst [.ref p.2, .int seed]) ∧ H p.2 = some (.lst (cells.map V.int)) ∧ p.1 ≠ p.2 ∧ F p.1 = none ∧ F p.2 = none := by
  obtain ⟨a, b⟩ := p
  match T, t with
  | some (cells, seed), ⟨h1, h2, h3, h4, h5⟩ => exact ⟨cells, seed, rfl, h1, h2, h3, h4, h5⟩
section
variable {i : Nat} {x : Str} {p : Pos}
theorem n_tpix (hN : X.N[i]? = some x) (hv : Vis X.env.scope x) (hd : (x == ("__debug__" : Str)) = false) (hcd : (x == ("__classdict__" : Str)) = false) (hK : X.K = B.K) {q : TpE} {z : Int} {j : Nat} {p2 : Pos} (hq : (q = .cell ∧ z = 0) ∨ (q = .seed ∧ z = 1) ∨ (q = .head ∧ z = 0)) :
    PE X (.Subscript (.Name x p) (.Constant (.int z) j p2) pos) (tD B W H0 l (ev G (.tp q i)).v) := by
  refine pe_imp (pe_ix ix_list (pe_var hN hv hd hcd) pe_int (fun _ _ => rfl)) fun s H Q ⟨F, τ, σ, T, S, _, h⟩ => ?_
  obtain ⟨d, hσ, h⟩ := slot_open h
  obtain ⟨v, hv, r⟩ := S.slot i _ hσ
  have r : Rp B F τ v d := r
  refine ⟨v, hv, ?_⟩
  rcases hq with ⟨rfl, rfl⟩ | ⟨rfl, rfl⟩ | ⟨rfl, rfl⟩
  · cases d with
    | tape =>
      cases r with
      | tape e =>
        subst e
        obtain ⟨cells, seed, rfl, h1, h2, h3, h4, h5⟩ := tape_open S.tape
        exact ⟨_, _, 0, _, rfl, rfl, .inl (.inl h1), rfl, QD.now S (show QD B l F H _ Q .cells _ from h) (Rq.of (.cells rfl))⟩
    | _ => exact False.elim h
  · cases d with
    | tape =>
      cases r with
      | tape e =>
        subst e
        obtain ⟨cells, seed, rfl, h1, h2, h3, h4, h5⟩ := tape_open S.tape
        exact ⟨_, _, 1, _, rfl, rfl, .inl (.inl h1), rfl, QD.now S (show QD B l F H _ Q (.int seed) _ from h) (Rq.of (.int seed))⟩
    | _ => exact False.elim h
  · cases d with
    | cells =>
      cases r with
      | cells e =>
        subst e
        obtain ⟨cells, seed, rfl, h1, h2, h3, h4, h5⟩ := tape_open S.tape
        cases cells with
        | nil => exact False.elim h
        | cons n c => exact ⟨_, _, 0, _, rfl, rfl, .inl (.inl h2), atI_nat (xs := (n :: c).map V.int) (j := 0) rfl, QD.now S (show QD B l F H _ Q (.int n) _ from h) (Rq.of (.int n))⟩
    | _ => exact False.elim h
theorem n_tplen (g : Gd G kn B W H0 N k X) (b : Bn kn X "len") (hN : X.N[i]? = some x) (hv : Vis X.env.scope x) (hd : (x == ("__debug__" : Str)) = false) (hcd : (x == ("__classdict__" : Str)) = false) {p1 : Pos} :
    PE X (.Call (.Name "len" p1) [.Name x p] [] pos) (tD B W H0 l (ev G (.tp .len i)).v) := by
  refine pe_imp (pe_callB call_len_seq b.gl (b.mg g PySem.boot_len) PySem.boot_len (pa_cons (pe_var hN hv hd hcd) pa_nil)) fun s H Q ⟨F, τ, σ, T, S, _, h⟩ => ?_
  obtain ⟨d, hσ, h⟩ := slot_open h
  obtain ⟨v, hv, r⟩ := S.slot i _ hσ
  have r : Rp B F τ v d := r
  refine ⟨v, hv, ?_⟩
  cases d with
  | cells =>
    cases r with
    | cells e =>
      subst e
      obtain ⟨cells, seed, rfl, h1, h2, h3, h4, h5⟩ := tape_open S.tape
      refine ⟨_, _, rfl, .inl (.inl (.inl h2)), ?_⟩
      rw [List.length_map]
      exact QD.now S (show QD B l F H _ Q (.int cells.length) _ from h) (Rq.of (.int _))
  | _ => exact False.elim h
/-- the tape's lists are written -/
theorem Ext.tape {F H : Hp} {a b c : Addr} {o : HO} (h : Same F H) (hc : c = a ∨ c = b) (ha : H a ≠ none) (hb : H b ≠ none) (fa : F a = none) (fb : F b = none) : Ext F H (some (a, b)) F (upd H c o) (some (a, b)) where
  keep := fun d u e n => by
    obtain ⟨n1, n2⟩ := n _ rfl
    rw [upd_ne (by rcases hc with z | z <;> rw [z] <;> assumption)]
    exact e
  there := fun d e => by
    by_cases q : d = c
    · rw [q, upd_same] at e; cases e
    · rw [upd_ne q] at e; exact e
  grow := Same.refl F
  sub := fun d u e => by
    rw [upd_ne fun z => ?_]
    · exact h d u e
    · rcases hc with q | q <;> (rw [z, q] at e; first | (rw [fa] at e; cases e) | (rw [fb] at e; cases e))
  new := fun d h1 h2 => absurd h2 h1
  ta := Tle.refl _
  tn := fun p h1 h2 => by cases h1
theorem st_tput (g : GdS G U kn B W N k X) {q : TpE} {z : Int} {j : Nat} {p2 tpos : Pos} (hq : (q = .seed ∧ z = 1) ∨ (q = .head ∧ z = 0)) {e : Expr} {ie : E} (hN : X.N[i]? = some x) (hv : Vis X.env.scope x) (hd : (x == ("__debug__" : Str)) = false) (hcd : (x == ("__classdict__" : Str)) = false)
    (he : PE X e (tD B W e0.H false (ev G ie).v)) (hs : swapsWithSole [.Subscript (.Name x p) (.Constant (.int z) j p2) tpos] e pos.line X.env = pure false) (hw : swappedStores [.Subscript (.Name x p) (.Constant (.int z) j p2) tpos] e X.env = pure none) :
    PS X (.Assign [.Subscript (.Name x p) (.Constant (.int z) j p2) tpos] e pos) (tS B W e0 (exS G U (.tput q i ie))) := by
  refine ps_imp (ps_asg he (pg_sub (pe_var hN hv hd hcd) pe_int set_list (fun _ => rfl)) hs hw rfl) fun K0 s H ⟨F, τ, σ, T, S, e, hn, h⟩ => ?_
  have h : ((match σ[i]? with
    | some (some (.val d)) => ((ev G ie).v σ >>= intD) >>= fun n => tputD q d n >>= fun _ => (pure (Fl.next σ) : M Fl)
    | _ => stuck : M Fl) T).is (QF B e0 K0) (QX B W e0) := h
  obtain ⟨d, hσ, h⟩ := slot_open h
  rw [M.bind_assoc] at h
  refine ⟨F, τ, σ, T, S, trivial, (Res.is_bind.mp h).mono (fun nd T1 h1 v H1 F1 τ1 e1 t1 r => ?_) fun c T1 z => z.qe e hn⟩
  have r : Rp B F1 τ1 v nd := r
  cases nd with
  | int n =>
    cases r
    have h1 : ((tputD q d n >>= fun _ => (pure (Fl.next σ) : M Fl)) T1).is (QF B e0 K0) (QX B W e0) := h1
    have h1 := Res.is_bind.mp h1
    have S1 := S.ext e1 t1
    have E1 := e.trans e1
    obtain ⟨w, hw, rw'⟩ := S1.slot i _ hσ
    have rw' : Rp B F1 τ1 w d := rw'
    refine ⟨w, hw, ?_⟩
    rcases hq with ⟨rfl, rfl⟩ | ⟨rfl, rfl⟩
    · cases d with
      | tape =>
        cases rw' with
        | tape e2 =>
          rename_i pq
          obtain ⟨pa, pb⟩ := pq
          subst e2
          obtain ⟨cells, seed, rfl, g1, g2, g3, g4, g5⟩ := tape_open S1.tape
          refine ⟨_, _, 1, 1, rfl, rfl, g1, rfl, ?_⟩
          have E2 := Ext.tape (o := .lst [.ref pb, .int n]) S1.sub (.inl rfl) (by rw [g1]; simp) (by rw [g2]; simp) g4 g5
          refine QSt.now (S1.ext E2 (T' := some (cells, n)) ⟨upd_same, ?_, g3, g4, g5⟩) (E1.trans E2) hn (show QSt B e0 σ (some (cells, n)) K0.nx from h1)
          rw [upd_ne (Ne.symm g3)]
          exact g2
      | _ => exact False.elim h1
    · cases d with
      | cells =>
        cases rw' with
        | cells e2 =>
          subst e2
          obtain ⟨cells, seed, rfl, g1, g2, g3, g4, g5⟩ := tape_open S1.tape
          cases cells with
          | nil => exact False.elim h1
          | cons m c =>
            refine ⟨_, _, 0, 0, rfl, rfl, g2, by unfold ixN; simp, ?_⟩
            have E2 := Ext.tape (o := .lst (V.int n :: c.map V.int)) S1.sub (.inr rfl) (by rw [g1]; simp) (by rw [g2]; simp) g4 g5
            refine QSt.now (S1.ext E2 (T' := some (n :: c, seed)) ⟨?_, upd_same, g3, g4, g5⟩) (E1.trans E2) hn (show QSt B e0 σ (some (n :: c, seed)) K0.nx from h1)
            rw [upd_ne g3]
            exact g1
      | _ => exact False.elim h1
  | _ => exact False.elim h1
theorem st_tpop (g : GdS G U kn B W N k X) {apos cpos p2 : Pos} {j : Nat} (hN : X.N[i]? = some x) (hv : Vis X.env.scope x) (hd : (x == ("__debug__" : Str)) = false) (hcd : (x == ("__classdict__" : Str)) = false) (hline : (apos.endLine == cpos.line) = true) :
    PS X (.Expr (.Call (.Attribute (.Name x p) "pop" apos) [.Constant (.int 0) j p2] [] cpos) pos) (tS B W e0 (exS G U (.tpop i))) := by
  have hP := pe_bm (apos := apos) (cpos := cpos) PySem.F.plainAttrs_list PySem.F.slot_list_pop PySem.F.type_list_pop mt_popAt (pe_var hN hv hd hcd (pos := p)) (pa_cons (pe_int (i := 0) (j := j) (pos := p2)) pa_nil) rfl rfl hline rfl rfl
  refine ps_imp (ps_expr hP rfl) fun K0 s H ⟨F, τ, σ, T, S, e, hn, h⟩ => ?_
  have h : ((match σ[i]? with
    | some (some (.val d)) => tpopD d >>= fun _ => (pure (Fl.next σ) : M Fl)
    | _ => stuck : M Fl) T).is (QF B e0 K0) (QX B W e0) := h
  obtain ⟨d, hσ, h⟩ := slot_open h
  have h := Res.is_bind.mp h
  obtain ⟨w, hw, rw'⟩ := S.slot i _ hσ
  have rw' : Rp B F τ w d := rw'
  cases d with
  | cells =>
    cases rw' with
    | cells e2 =>
      subst e2
      obtain ⟨cells, seed, rfl, g1, g2, g3, g4, g5⟩ := tape_open S.tape
      cases cells with
      | nil => exact False.elim h
      | cons m c =>
        refine ⟨_, hw, .inl ⟨rfl, _, .inl (.inl g2)⟩, _, _, 0, 0, .int m, rfl, rfl, g2, by decide, by decide, ?_, rfl, ?_⟩
        · rw [List.length_map, List.length_cons]
          exact seqIndex_of (by decide) (by omega)
        · have E2 := Ext.tape (o := .lst (c.map V.int)) S.sub (.inr rfl) (by rw [g1]; simp) (by rw [g2]; simp) g4 g5
          refine QSt.now (S.ext E2 (T' := some (c, seed)) ⟨?_, upd_same, g3, g4, g5⟩) (e.trans E2) hn (show QSt B e0 σ (some (c, seed)) K0.nx from h)
          rw [upd_ne g3]
          exact g1
  | _ => exact False.elim h
theorem rpl_ints_of {F : Hp} {τ : Ta} : ∀ {ds : List D} {ns : List Int} {vs : List V}, intsD ds = some ns → RpL B F τ vs ds → vs = ns.map V.int
  | [], ns, vs, h, r => by
    unfold intsD at h
    cases h; cases r; rfl
  | .int i :: ds, ns, vs, h, r => by
    unfold intsD at h
    cases q : intsD ds with
    | none => rw [q] at h; cases h
    | some ms =>
      rw [q] at h
      cases h
      cases r with
      | cons r1 r2 =>
        cases r1
        rw [rpl_ints_of q r2]
        rfl
  | .non :: _, _, _, h, _ => by unfold intsD at h; cases h
  | .bl _ :: _, _, _, h, _ => by unfold intsD at h; cases h
  | .str _ :: _, _, _, h, _ => by unfold intsD at h; cases h
  | .tup _ :: _, _, _, h, _ => by unfold intsD at h; cases h
  | .lst _ :: _, _, _, h, _ => by unfold intsD at h; cases h
  | .fn _ :: _, _, _, h, _ => by unfold intsD at h; cases h
  | .tape :: _, _, _, h, _ => by unfold intsD at h; cases h
  | .cells :: _, _, _, h, _ => by unfold intsD at h; cases h
  | .scr _ :: _, _, _, h, _ => by unfold intsD at h; cases h
theorem st_tnew (g : GdS G U kn B W N k X) {a b : Expr} {ia ib : E} {p1 : Pos} (ha : PE X a (tN B W e0.H fun σ => (ev G ia).v σ >>= lstD)) (hb : PE X b (tD B W e0.H false (ev G ib).v)) (hsa : isStar a = false) (hsb : isStar b = false) :
    PS X (.Return (some (.List [a, b] p1)) pos) (tS B W e0 (exS G U (.tnew ia ib))) := by
  refine ps_imp (ps_ret (pe_lst (pa_cons ha (pa_cons hb pa_nil (starEach_cons hsb)) (starEach_cons hsa)))) fun K0 s H ⟨F, τ, σ, T, S, e, hn, h⟩ => ?_
  have h : ((((ev G ia).v σ) >>= fun x => (match x with
    | .lst xs => (ev G ib).v σ >>= fun y => tnewD (.lst xs) y >>= fun _ => pure (Fl.ret .tape)
    | _ => stuck : M Fl)) T).is (QF B e0 K0) (QX B W e0) := h
  refine ⟨F, τ, σ, T, S, trivial, Res.is_bind.mpr ((Res.is_bind.mp h).mono (fun d T1 hd => ?_) fun c T1 z => z.qe e hn)⟩
  cases d with
  | lst ds =>
    refine ⟨ds, rfl, fun vs q H1 F1 τ1 e1 t1 r n1 => ?_⟩
    have f1 := Ext.fresh (τ := τ1) (o := .lst vs) e1.sub n1
    have S2 := (S.ext e1 t1).ext f1 (t1.fresh n1)
    have E2 := (e.trans e1).trans f1
    refine ⟨F1, τ1, σ, T1, S2, trivial, (Res.is_bind.mp hd).mono (fun y T3 h3 v3 H3 F3 τ3 e3 t3 r3 => ?_) fun c T3 z => z.qe E2 hn⟩
    have E3 := E2.trans e3
    have r3 : Rp B F3 τ3 v3 y := r3
    have h3 := Res.is_bind.mp h3
    cases y with
    | int sd =>
      cases r3
      have h3 : ((fun T => match T, intsD ds with
        | none, some ns => .ok () (some (ns, sd))
        | _, _ => .stuck : M Unit) T3).is (fun _ T1 => (QF B e0 K0) (.ret .tape) T1) (QX B W e0) := h3
      cases T3 with
      | some t => exact False.elim h3
      | none =>
        cases hi : intsD ds with
        | none => rw [hi] at h3; exact False.elim h3
        | some ns =>
          rw [hi] at h3
          have hv := rpl_ints_of hi r
          subst hv
          have hτ3 : τ3 = none := by
            cases τ3 with
            | none => rfl
            | some q => obtain ⟨a, b⟩ := q; exact False.elim t3
          subst hτ3
          have hτ1 : τ1 = none := by
            cases τ1 with
            | none => rfl
            | some q => have := e3.ta q rfl; cases this
          subst hτ1
          have hτ0 : e0.τ = none := by
            cases z : e0.τ with
            | none => rfl
            | some q => have := E3.ta q z; cases this
          have hq3 : H3 q = some (.lst (ns.map V.int)) := e3.keep q _ upd_same (fun p hp => by cases hp)
          have hF1 : F1 q = none := by
            cases z : F1 q with
            | none => rfl
            | some o => rw [e1.sub q o z] at n1; cases n1
          have hF3 : F3 q = none := by
            cases z : F3 q with
            | none => rfl
            | some o =>
              have := e3.new q (by rw [z]; simp) hF1
              rw [upd_same] at this; cases this
          refine ⟨by show 2 ≤ sizeLine; decide, fun p hp => ?_⟩
          have hpq : p ≠ q := fun z => by rw [z, hq3] at hp; cases hp
          have hFp : F3 p = none := by
            cases z : F3 p with
            | none => rfl
            | some o => rw [e3.sub p o z] at hp; cases hp
          have hq0 : e0.H q = none := by
            have : H q = none := e1.there q n1
            exact e.there q this
          have hp0 : e0.H p = none := E3.there p hp
          refine (show QF B e0 K0 (.ret .tape) (some (ns, sd)) from h3) (.ref p) F3 _ (some (p, q)) ?_ ⟨upd_same, ?_, hpq, hFp, hF3⟩ (.tape (p := (p, q)) rfl)
          · exact {
              keep := fun a o h' n => by
                rw [upd_ne (ne_of_none h' hp0)]
                exact E3.keep a o h' n
              there := fun a h' => by
                by_cases z : a = p
                · rw [z]; exact hp0
                · rw [upd_ne z] at h'; exact E3.there a h'
              grow := E3.grow
              sub := fun a o h' => by
                rw [upd_ne (ne_of_none h' hFp)]
                exact E3.sub a o h'
              new := E3.new
              ta := fun q' hq' => by rw [hτ0] at hq'; cases hq'
              tn := fun q' _ hq' => by cases hq'; exact ⟨hp0, hq0⟩ }
          · rw [upd_ne (Ne.symm hpq)]
            exact hq3
    | _ => exact False.elim h3
  | _ => exact False.elim hd
end
end
end Pu

/-! Pu14: which text a term of the small language stands for: expressions. -/
namespace Pu
open PySem PySem.Spec PyProof.Rows L2
def oany {α : Type} (o : Option α) (p : α → Bool) : Bool := match o with
  | some a => p a
  | none => false
theorem oany_eq {α : Type} {o : Option α} {p : α → Bool} (h : oany o p = true) : ∃ a, o = some a ∧ p a = true := by
  cases o with
  | none => cases h
  | some a => exact ⟨a, rfl, h⟩
theorem and_eq {a b : Bool} (h : (a && b) = true) : a = true ∧ b = true := by simpa using h
theorem dec_eq {p : Prop} [Decidable p] (h : decide p = true) : p := of_decide_eq_true h
theorem not_eq {a : Bool} (h : (!a) = true) : a = false := by simpa using h
/-! ### an expression taken apart -/
def dName : Expr → Option Str
  | .Name x _ => some x
  | _ => none
theorem dName_eq {e : Expr} {x : Str} (h : dName e = some x) : ∃ p, e = .Name x p := by
  unfold dName at h
  split at h
  · cases h; exact ⟨_, rfl⟩
  · cases h
def dConst : Expr → Option Const
  | .Constant k _ _ => some k
  | _ => none
theorem dConst_eq {e : Expr} {x : Const} (h : dConst e = some x) : ∃ j p, e = .Constant x j p := by
  unfold dConst at h
  split at h
  · cases h; exact ⟨_, _, rfl⟩
  · cases h
def dTup : Expr → Option (List Expr)
  | .Tuple l _ _ => some l
  | _ => none
theorem dTup_eq {e : Expr} {x : List Expr} (h : dTup e = some x) : ∃ j p, e = .Tuple x j p := by
  unfold dTup at h
  split at h
  · cases h; exact ⟨_, _, rfl⟩
  · cases h
def dList : Expr → Option (List Expr)
  | .List l _ => some l
  | _ => none
theorem dList_eq {e : Expr} {x : List Expr} (h : dList e = some x) : ∃ p, e = .List x p := by
  unfold dList at h
  split at h
  · cases h; exact ⟨_, rfl⟩
  · cases h
def dUn : Expr → Option (UnaryOp × Expr)
  | .UnaryOp o a _ => some (o, a)
  | _ => none
theorem dUn_eq {e : Expr} {x : UnaryOp × Expr} (h : dUn e = some x) : ∃ p, e = .UnaryOp x.1 x.2 p := by
  unfold dUn at h
  split at h
  · cases h; exact ⟨_, rfl⟩
  · cases h
def dBin : Expr → Option (Expr × Operator × Expr)
  | .BinOp a o b _ => some (a, o, b)
  | _ => none
theorem dBin_eq {e : Expr} {x : Expr × Operator × Expr} (h : dBin e = some x) : ∃ p, e = .BinOp x.1 x.2.1 x.2.2 p := by
  unfold dBin at h
  split at h
  · cases h; exact ⟨_, rfl⟩
  · cases h
def dCmp : Expr → Option (Expr × CmpOp × Expr)
  | .Compare a [o] [b] _ => some (a, o, b)
  | _ => none
theorem dCmp_eq {e : Expr} {x : Expr × CmpOp × Expr} (h : dCmp e = some x) : ∃ p, e = .Compare x.1 [x.2.1] [x.2.2] p := by
  unfold dCmp at h
  split at h
  · cases h; exact ⟨_, rfl⟩
  · cases h
def dBool : Expr → Option (BoolOp × List Expr)
  | .BoolOp o l _ => some (o, l)
  | _ => none
theorem dBool_eq {e : Expr} {x : BoolOp × List Expr} (h : dBool e = some x) : ∃ p, e = .BoolOp x.1 x.2 p := by
  unfold dBool at h
  split at h
  · cases h; exact ⟨_, rfl⟩
  · cases h
def dIf : Expr → Option (Expr × Expr × Expr)
  | .IfExp a b c _ => some (a, b, c)
  | _ => none
theorem dIf_eq {e : Expr} {x : Expr × Expr × Expr} (h : dIf e = some x) : ∃ p, e = .IfExp x.1 x.2.1 x.2.2 p := by
  unfold dIf at h
  split at h
  · cases h; exact ⟨_, rfl⟩
  · cases h
def dCall : Expr → Option (Str × List Expr)
  | .Call (.Name f _) l [] _ => some (f, l)
  | _ => none
theorem dCall_eq {e : Expr} {x : Str × List Expr} (h : dCall e = some x) : ∃ q p, e = .Call (.Name x.1 q) x.2 [] p := by
  unfold dCall at h
  split at h
  · cases h; exact ⟨_, _, rfl⟩
  · cases h
def dSub : Expr → Option (Expr × Expr)
  | .Subscript a b _ => some (a, b)
  | _ => none
theorem dSub_eq {e : Expr} {x : Expr × Expr} (h : dSub e = some x) : ∃ p, e = .Subscript x.1 x.2 p := by
  unfold dSub at h
  split at h
  · cases h; exact ⟨_, rfl⟩
  · cases h
def dSlc : Expr → Option (Option Expr × Option Expr)
  | .Slice a b none _ => some (a, b)
  | _ => none
theorem dSlc_eq {e : Expr} {x : Option Expr × Option Expr} (h : dSlc e = some x) : ∃ p, e = .Slice x.1 x.2 none p := by
  unfold dSlc at h
  split at h
  · cases h; exact ⟨_, rfl⟩
  · cases h
def isSlc : Expr → Bool
  | .Slice .. => true
  | _ => false
theorem plain_ix {e : Expr} (h : isSlc e = false) : PlainIx e := by
  intro o i
  cases e <;> first | rfl | (cases h)
def isSet : Expr → Bool
  | .Set .. => true
  | _ => false
theorem folded_no {e : Expr} (h : isSet e = false) (env : PySem.Env) : ∀ x, foldedSetIterable e env x = pure x := by
  intro x
  cases e <;> first | rfl | (cases h)
structure Cmp where
  elt : Expr
  tg : Expr
  iter : Expr
  ifs : List Expr
  sc : Scope
def dComp : Expr → Option Cmp
  | .ListComp elt [⟨tg, iter, ifs, 0⟩] sc _ => some ⟨elt, tg, iter, ifs, sc⟩
  | _ => none
theorem dComp_eq {e : Expr} {x : Cmp} (h : dComp e = some x) : ∃ p, e = .ListComp x.elt [⟨x.tg, x.iter, x.ifs, 0⟩] x.sc p := by
  unfold dComp at h
  split at h
  · cases h; exact ⟨_, rfl⟩
  · cases h
/-! ### the check -/
structure Ck where
  sc : Scope
  N : List Str
  kn : Str → Option Bool
  fn : Str → Bool
def locB (c : Ck) (x : Str) : Bool := match c.sc.names.lookup x with
  | some .local => true
  | some .cell => true
  | _ => false
def visB (c : Ck) (x : Str) : Bool := match c.sc.names.lookup x with
  | some .local => true
  | some .cell => true
  | some .free => true
  | _ => false
def glB (c : Ck) (x : Str) : Bool := match c.sc.names.lookup x with
  | some .globalImplicit => true
  | _ => false
def ndB (x : Str) : Bool := !(x == ("__debug__" : Str)) && !(x == ("__classdict__" : Str))
def bnB (c : Ck) (x : Str) : Bool := glB c x && decide (c.kn x = some false) && !(x == ("__name__" : Str)) && !(x == ("__debug__" : Str))
def nmB (c : Ck) (i : Nat) (x : Str) : Bool := (match c.N[i]? with | some y => y == x | none => false) && visB c x && ndB x
def ckTy (c : Ck) (t : Ty) (e : Expr) : Bool := oany (dName e) fun x => x == Str.ofString (tyN t) && bnB c x
def ckTys (c : Ck) : List Ty → List Expr → Bool
  | [], [] => true
  | t :: ts, e :: es => ckTy c t e && ckTys c ts es
  | _, _ => false
mutual
def ckP (c : Ck) : P → Expr → Bool
  | .name i, e => oany (dName e) fun x => (match c.N[i]? with | some y => y == x | none => false) && locB c x && (c.fn x || (match c.sc.names.lookup x with | some .local => true | _ => false))
  | .tup ps, e => oany (dTup e) fun l => ckPs c ps l
def ckPs (c : Ck) : List P → List Expr → Bool
  | [], l => l.isEmpty
  | p :: ps, l => match l with
    | [] => false
    | e :: es => ckP c p e && !isStar e && ckPs c ps es
end
def inner (c : Ck) (sc : Scope) : Ck := { c with sc := relS sc c.sc, fn := fun x => sc.names.lookup x == some .cell }
def ownOf (c : Ck) (tg : P) : List (Str × Nat) := tg.slots.map fun i => (c.N.getD i ⟨#[]⟩, i)
def pOk : Pr → Bool
  | .list => false
  | .sum => false
  | .max1 => false
  | .min1 => false
  | _ => true
def tpC (c : Ck) (q : TpE) (i : Nat) (e : Expr) : Bool := match q with
  | .len => oany (dCall e) fun x => x.1 == ("len" : Str) && bnB c "len" && (match x.2 with
    | [y] => oany (dName y) fun z => nmB c i z
    | _ => false)
  | .seed => oany (dSub e) fun x => oany (dName x.1) fun z => nmB c i z && oany (dConst x.2) fun k => decide (k = .int 1)
  | .cell => oany (dSub e) fun x => oany (dName x.1) fun z => nmB c i z && oany (dConst x.2) fun k => decide (k = .int 0)
  | .head => oany (dSub e) fun x => oany (dName x.1) fun z => nmB c i z && oany (dConst x.2) fun k => decide (k = .int 0)
/-- a test's leaf -/
def lf (m : Option Bool) (e : Expr) : Bool := match m with
  | none => leafX e
  | some _ => true
def lo (m : Option Bool) : Bool := m.getD true
mutual
def ckE : E → Ck → Option Bool → Expr → Bool
  | .slot i, c, m, e => lf m e && oany (dName e) fun x => nmB c i x
  | .peek i, c, m, e => lf m e && lo m && oany (dName e) fun x => nmB c i x
  | .non, c, m, e => lf m e && oany (dConst e) fun k => decide (k = .none)
  | .bl b, c, m, e => lf m e && oany (dConst e) fun k => decide (k = .bool b)
  | .int i, c, m, e => lf m e && oany (dConst e) fun k => decide (k = .int i)
  | .str x, c, m, e => lf m e && oany (dConst e) fun k => decide (k = .str x)
  | .const x, c, m, e => lf m e && oany (dName e) fun y => x == y && glB c x && !(x == ("__debug__" : Str))
  | .fn x, c, m, e => lf m e && oany (dName e) fun y => x == y && glB c x && !(x == ("__debug__" : Str))
  | .tup es, c, m, e => lf m e && oany (dTup e) fun l => ckEs es c false l
  | .lst es, c, m, e => lf m e && oany (dList e) fun l => ckEs es c false l
  | .neg a, c, m, e => lf m e && oany (dUn e) fun x => decide (x.1 = .USub) && ckE a c (some true) x.2
  | .nott a, c, m, e => oany (dUn e) fun x => decide (x.1 = .Not) && ckE a c (m.map fun _ => true) x.2
  | .bin o a b, c, m, e => lf m e && oany (dBin e) fun x => decide (x.2.1 = opOf o) && ckE a c (some true) x.1 && ckE b c (some true) x.2.2
  | .cmp o a b, c, m, e => oany (dCmp e) fun x => decide (x.2.1 = cmOf o) && ckE a c (some true) x.1 && ckE b c (some true) x.2.2 && !behindInMarks x.2.1 x.2.2
  | .chain .., _, _, _ => false
  | .andd es, c, m, e => oany (dBool e) fun x => decide (x.1 = .And) && ckB es c m x.2
  | .orr es, c, m, e => oany (dBool e) fun x => decide (x.1 = .Or) && ckB es c m x.2
  | .ite a b d, c, m, e => lf m e && oany (dIf e) fun x => ckE a c none x.1 && ckE b c (some (lo m)) x.2.1 && ckE d c (some (lo m)) x.2.2
  | .call f es, c, m, e => lf m e && oany (dCall e) fun x => f == x.1 && decide (c.kn f = some true) && glB c f && !(f == ("__debug__" : Str)) && ckEs es c false x.2
  | .callv i es, c, m, e => lf m e && oany (dCall e) fun x => nmB c i x.1 && !x.2.isEmpty && ckEs es c false x.2
  | .prim p es, c, m, e => lf m e && oany (dCall e) fun x => prN p == x.1 && bnB c (prN p) && pOk p && !x.2.isEmpty && ckEs es c true x.2
  | .isi a ts, c, m, e => lf m e && oany (dCall e) fun x => x.1 == ("isinstance" : Str) && bnB c "isinstance" && (match x.2 with
    | [x, t] => ckE a c (some true) x && !isStar x && (match dTup t with
      | none => (match ts with | [t1] => ckTy c t1 t | _ => false)
      | some l => ckTys c ts l && !ts.isEmpty && decide (ts.length ≤ 5))
    | _ => false)
  | .idx a b, c, m, e => lf m e && oany (dSub e) fun x => ckE a c (some true) x.1 && ckE b c (some true) x.2 && !isSlc x.2
  | .slc a l h, c, m, e => lf m e && oany (dSub e) fun x => oany (dSlc x.2) fun y => ckE a c (some true) x.1 && ckO l c y.1 && ckO h c y.2
  | .rev _, _, _, _ => false
  | .tp q i, c, m, e => lf m e && tpC c q i e
  | .comp elt tg src cond, c, m, e => lf m e && oany (dComp e) fun x => ckI src c true x.tg x.iter && blkC c.N c.sc x.sc (ownOf c tg) && ckP (inner c x.sc) tg x.tg && ckC cond (inner c x.sc) x.ifs && ckE elt (inner c x.sc) (some false) x.elt && !isSet x.iter
def ckEs : Es → Ck → Bool → List Expr → Bool
  | .nil, c, l, es => es.isEmpty
  | .cons e r, c, l, es => match es with
    | [] => false
    | x :: xs => ckE e c (some l) x && !isStar x && ckEs r c l xs
/-- and, or -/
def ckB : Es → Ck → Option Bool → List Expr → Bool
  | .nil, c, m, es => false
  | .cons e r, c, m, es => match es with
    | [] => false
    | x :: xs => (match r, xs with
      | .nil, [] => ckE e c (m.map fun _ => false) x
      | .nil, _ => false
      | _, _ => ckE e c (m.map fun _ => true) x && ckB r c m xs)
def ckO : Oe → Ck → Option Expr → Bool
  | .none, c, e => e.isNone
  | .some i, c, e => oany e fun x => ckE i c (some true) x
def ckC : Oe → Ck → List Expr → Bool
  | .none, c, es => es.isEmpty
  | .some i, c, es => match es with
    | [x] => ckE i c none x
    | _ => false
def ckI : I → Ck → Bool → Expr → Expr → Bool
  | .seq a, c, l, t, e => ckE a c (some l) e
  | .range1 a, c, l, t, e => oany (dCall e) fun x => x.1 == ("range" : Str) && bnB c "range" && (match x.2 with
    | [y] => ckE a c (some true) y && !isStar y
    | _ => false)
  | .range2 a b, c, l, t, e => oany (dCall e) fun x => x.1 == ("range" : Str) && bnB c "range" && (match x.2 with
    | [y, z] => ckE a c (some true) y && !isStar y && ckE b c (some true) z && !isStar z
    | _ => false)
  | .zip a b, c, l, t, e => (dTup t).isSome && oany (dCall e) fun x => x.1 == ("zip" : Str) && bnB c "zip" && (match x.2 with
    | [y, z] => ckE a c (some l) y && !isStar y && ckE b c (some l) z && !isStar z
    | _ => false)
  | .enum a, c, l, t, e => (dTup t).isSome && oany (dCall e) fun x => x.1 == ("enumerate" : Str) && bnB c "enumerate" && (match x.2 with
    | [y] => ckE a c (some l) y && !isStar y
    | _ => false)
end
end Pu

/-! Pu15: a checked term stands for its text: expressions. -/
namespace Pu
open PySem PySem.Spec PyProof.Rows L2
/-- the check's surroundings -/
structure OkC (c : Ck) (G : Gam) (B : Tab) (W : WX) (H0 : Hp) (k : Nat) (X : Cx) : Prop where
  g : Gd G c.kn B W H0 c.N k X
  sc : X.env.scope = c.sc
  fn : ∀ x, X.fn x = c.fn x
  fa : ∀ y a, B.fa y = some a → G.isFn y = true
section
variable {G : Gam} {U : Sub} {B : Tab} {W : WX} {H0 : Hp} {k : Nat} {X : Cx} {c : Ck} {m : Option Bool} {l : Bool} {e : Expr}
def PM (X : Cx) (B : Tab) (W : WX) (H0 : Hp) (m : Option Bool) (p : EvP) (e : Expr) : Prop := match m with
  | some l => PE X e (tD B W H0 l p.v)
  | none => PT X e (tB B W H0 p.t)
theorem vis_of (o : OkC c G B W H0 k X) {x : Str} (h : visB c x = true) : Vis X.env.scope x := by
  unfold visB at h
  rw [o.sc]
  split at h
  · exact .inl (by assumption)
  · exact .inr (.inl (by assumption))
  · exact .inr (.inr (by assumption))
  · cases h
theorem loc_of (o : OkC c G B W H0 k X) {x : Str} (h : locB c x = true) : L2.Loc X.env.scope x := by
  unfold locB at h
  rw [o.sc]
  split at h
  · exact .inl (by assumption)
  · exact .inr (by assumption)
  · cases h
theorem gl_of (o : OkC c G B W H0 k X) {x : Str} (h : glB c x = true) : Gl X x := by
  unfold glB at h
  show X.env.scope.names.lookup x = _
  rw [o.sc]
  split at h
  · assumption
  · cases h
theorem bn_of (o : OkC c G B W H0 k X) {x : Str} (h : bnB c x = true) : Bn c.kn X x := by
  unfold bnB at h
  obtain ⟨h, h4⟩ := and_eq h
  obtain ⟨h, h3⟩ := and_eq h
  obtain ⟨h1, h2⟩ := and_eq h
  exact ⟨gl_of o h1, dec_eq h2, by simpa using h3, not_eq h4⟩
theorem nm_of (o : OkC c G B W H0 k X) {i : Nat} {x : Str} (h : nmB c i x = true) : X.N[i]? = some x ∧ Vis X.env.scope x ∧ (x == ("__debug__" : Str)) = false ∧ (x == ("__classdict__" : Str)) = false := by
  unfold nmB ndB at h
  obtain ⟨h, h3⟩ := and_eq h
  obtain ⟨h1, h2⟩ := and_eq h
  obtain ⟨h4, h5⟩ := and_eq h3
  refine ⟨?_, vis_of o h2, not_eq h4, not_eq h5⟩
  rw [o.g.eN]
  split at h1
  · rename_i y hy
    rw [hy]
    have : y = x := by simpa using h1
    rw [this]
  · cases h1
/-- a leaf -/
theorem leaf_pm (o : OkC c G B W H0 k X) {v : Env → M D} (hf : lf m e = true) (h : PE X e (tD B W H0 (lo m) v)) : PM X B W H0 m (.of v) e := by
  cases m with
  | some l => exact h
  | none => exact t_leaf o.g.eK h hf
theorem lo_some {l : Bool} : lo (some l) = l := rfl
theorem star_all {es : List Expr} {irs : Es} {l : Bool} : ckEs irs c l es = true → es.all (fun e => !isStar e) = true := by
  induction es generalizing irs with
  | nil => intro _; rfl
  | cons x xs ih =>
    intro h
    cases irs with
    | nil => unfold ckEs at h; cases h
    | cons a r =>
      unfold ckEs at h
      obtain ⟨h, h3⟩ := and_eq h
      obtain ⟨h1, h2⟩ := and_eq h
      rw [List.all_cons, h2, ih h3]; rfl
theorem ty_of (o : OkC c G B W H0 k X) {t : Ty} {e : Expr} (h : ckTy c t e = true) : Bn c.kn X (Str.ofString (tyN t)) ∧ ∃ p, e = .Name (Str.ofString (tyN t)) p := by
  unfold ckTy at h
  obtain ⟨x, h1, h2⟩ := oany_eq h
  obtain ⟨h3, h4⟩ := and_eq h2
  have : x = Str.ofString (tyN t) := by simpa using h3
  subst this
  exact ⟨bn_of o h4, dName_eq h1⟩
theorem tys_of (o : OkC c G B W H0 k X) : ∀ {ts : List Ty} {es : List Expr}, ckTys c ts es = true → (∀ t ∈ ts, Bn c.kn X (Str.ofString (tyN t))) ∧ Paired (fun t e => ∃ p, e = Expr.Name (Str.ofString (tyN t)) p) ts es
  | [], [], _ => ⟨fun _ h => by simp at h, .nil⟩
  | t :: ts, e :: es, h => by
    unfold ckTys at h
    obtain ⟨h1, h2⟩ := and_eq h
    obtain ⟨h3, h4⟩ := ty_of o h1
    obtain ⟨h5, h6⟩ := tys_of o h2
    refine ⟨fun t' ht => ?_, .cons h4 h6⟩
    rcases List.mem_cons.mp ht with z | z
    · rw [z]; exact h3
    · exact h5 t' z
  | [], _ :: _, h => by unfold ckTys at h; cases h
  | _ :: _, [], h => by unfold ckTys at h; cases h
theorem assignEach_cons {e : Expr} {es : List Expr} {env : PySem.Env} (h : isStar e = false) : assignEach (e :: es) env = (false, assign e env) :: assignEach es env := by
  cases e <;> first | rfl | (cases h)
mutual
theorem pg_of (o : OkC c G B W H0 k X) : ∀ (p : P) {e : Expr}, ckP c p e = true → PG X e (gP X.K p)
  | .name i, e, h => by
    unfold ckP at h
    obtain ⟨x, h1, h2⟩ := oany_eq h
    obtain ⟨h2, h4⟩ := and_eq h2
    obtain ⟨h2, h3⟩ := and_eq h2
    obtain ⟨p, rfl⟩ := dName_eq h1
    refine pg_name (by rw [o.g.eN]; exact o.g.nd) ?_ (loc_of o h3) ?_
    · rw [o.g.eN]
      split at h2
      · rename_i y hy
        have : y = x := by simpa using h2
        rw [hy, this]
      · cases h2
    · rcases Bool.or_eq_true_iff.mp h4 with z | z
      · exact .inl (by rw [o.fn]; exact z)
      · right
        rw [o.sc]
        split at z
        · assumption
        · cases z
  | .tup ps, e, h => by
    unfold ckP at h
    obtain ⟨l, h1, h2⟩ := oany_eq h
    obtain ⟨j, p, rfl⟩ := dTup_eq h1
    obtain ⟨q1, q2, q3⟩ := pgs_of o ps h2
    exact pg_tup o.g.calm q1 q2 q3
theorem pgs_of (o : OkC c G B W H0 k X) : ∀ (ps : List P) {es : List Expr}, ckPs c ps es = true → PGs X es (gPs X.K ps) ∧ (assignEach es X.env).length = ps.length ∧ (assignEach es X.env).findIdx? (·.1) = none
  | [], es, h => by
    unfold ckPs at h
    cases es with
    | nil => exact ⟨pgs_nil, rfl, rfl⟩
    | cons e es => cases h
  | p :: ps, es, h => by
    cases es with
    | nil => unfold ckPs at h; cases h
    | cons e es =>
      unfold ckPs at h
      obtain ⟨h, h3⟩ := and_eq h
      obtain ⟨h1, h2⟩ := and_eq h
      obtain ⟨q1, q2, q3⟩ := pgs_of o ps h3
      have hs := assignEach_cons (es := es) (env := X.env) (not_eq h2)
      refine ⟨pgs_cons (pg_of o p h1) q1 (by rw [hs]; rfl), by rw [hs, List.length_cons, List.length_cons, q2], ?_⟩
      rw [hs, List.findIdx?_cons, q3]
      rfl
end
theorem tp_pe (o : OkC c G B W H0 k X) {q : TpE} {i : Nat} {e : Expr} (h : tpC c q i e = true) : PE X e (tD B W H0 l (ev G (.tp q i)).v) := by
  have ix : ∀ {z : Int}, (q = .cell ∧ z = 0) ∨ (q = .seed ∧ z = 1) ∨ (q = .head ∧ z = 0) → (oany (dSub e) fun x => oany (dName x.1) fun y => nmB c i y && oany (dConst x.2) fun k => decide (k = .int z)) = true → PE X e (tD B W H0 l (ev G (.tp q i)).v) := fun hq h => by
    obtain ⟨x, h1, h2⟩ := oany_eq h
    obtain ⟨y, h3, h4⟩ := oany_eq h2
    obtain ⟨h4, h5⟩ := and_eq h4
    obtain ⟨k, h6, h7⟩ := oany_eq h5
    obtain ⟨p, rfl⟩ := dSub_eq h1
    obtain ⟨p1, e1⟩ := dName_eq h3
    obtain ⟨j, p2, e2⟩ := dConst_eq h6
    obtain ⟨a1, a2, a3, a4⟩ := nm_of o h4
    rw [e1, e2, dec_eq h7]
    exact n_tpix a1 a2 a3 a4 o.g.eK hq
  cases q with
  | len =>
    obtain ⟨x, h1, h2⟩ := oany_eq (show (oany (dCall e) fun x => x.1 == ("len" : Str) && bnB c "len" && (match x.2 with
      | [y] => oany (dName y) fun z => nmB c i z
      | _ => false)) = true from h)
    obtain ⟨h2, h4⟩ := and_eq h2
    obtain ⟨h2, h3⟩ := and_eq h2
    obtain ⟨q, p, rfl⟩ := dCall_eq h1
    obtain ⟨x1, x2⟩ := x
    have : x1 = ("len" : Str) := by simpa using h2
    subst this
    dsimp only at h4 ⊢
    split at h4
    · obtain ⟨z, h5, h6⟩ := oany_eq h4
      obtain ⟨p1, rfl⟩ := dName_eq h5
      obtain ⟨a1, a2, a3, a4⟩ := nm_of o h6
      exact n_tplen o.g (bn_of o h3) a1 a2 a3 a4
    · cases h4
  | seed => exact ix (.inr (.inl ⟨rfl, rfl⟩)) h
  | cell => exact ix (.inl ⟨rfl, rfl⟩) h
  | head => exact ix (.inr (.inr ⟨rfl, rfl⟩)) h
theorem own_slots (c : Ck) (tg : P) : (ownOf c tg).map (·.2) = tg.slots := by
  unfold ownOf
  rw [List.map_map]
  show tg.slots.map _ = _
  exact List.map_id _
theorem OkC.inner (o : OkC c G B W H0 k X) {s : Shared} {H : Hp} {sc : Scope} {C : Addr} {cl : List (Str × Addr)} {fp : List Addr} : OkC (inner c sc) G B WF H0 k (X.blk s H sc (compEnvC sc cl C X.env) fp) where
  g := o.g.blk
  sc := by
    show relabel sc X.env = relS sc c.sc
    rw [← o.sc]
    rfl
  fn := fun x => rfl
  fa := o.fa
theorem PM.val {p : EvP} (h : PM X B W H0 (some l) p e) : PE X e (tD B W H0 l p.v) := h
theorem PM.test {p : EvP} (h : PM X B W H0 none p e) : PT X e (tB B W H0 p.t) := h
mutual
theorem okE : ∀ (i : E) {c : Ck} {W : WX} {X : Cx} {m : Option Bool} {e : Expr}, OkC c G B W H0 k X → ckE i c m e = true → PM X B W H0 m (ev G i) e
  | .slot i, c, W, X, m, e, o, h => by
    unfold ckE at h
    obtain ⟨h0, h⟩ := and_eq h
    obtain ⟨x, h1, h2⟩ := oany_eq h
    obtain ⟨p, rfl⟩ := dName_eq h1
    obtain ⟨a1, a2, a3, a4⟩ := nm_of o h2
    exact leaf_pm o h0 (n_slot (G := G) a1 a2 a3 a4)
  | .peek i, c, W, X, m, e, o, h => by
    unfold ckE at h
    obtain ⟨h0, h⟩ := and_eq h
    obtain ⟨h0, hl⟩ := and_eq h0
    obtain ⟨x, h1, h2⟩ := oany_eq h
    obtain ⟨p, rfl⟩ := dName_eq h1
    obtain ⟨a1, a2, a3, a4⟩ := nm_of o h2
    refine leaf_pm o h0 ?_
    rw [hl]
    exact n_peek (G := G) a1 a2 a3 a4
  | .non, c, W, X, m, e, o, h => by
    unfold ckE at h
    obtain ⟨h0, h⟩ := and_eq h
    obtain ⟨x, h1, h2⟩ := oany_eq h
    obtain ⟨j, p, rfl⟩ := dConst_eq h1
    rw [dec_eq h2]
    exact leaf_pm o (by rw [← dec_eq h2]; exact h0) n_non
  | .bl b, c, W, X, m, e, o, h => by
    unfold ckE at h
    obtain ⟨h0, h⟩ := and_eq h
    obtain ⟨x, h1, h2⟩ := oany_eq h
    obtain ⟨j, p, rfl⟩ := dConst_eq h1
    rw [dec_eq h2]
    exact leaf_pm o (by rw [← dec_eq h2]; exact h0) n_bl
  | .int b, c, W, X, m, e, o, h => by
    unfold ckE at h
    obtain ⟨h0, h⟩ := and_eq h
    obtain ⟨x, h1, h2⟩ := oany_eq h
    obtain ⟨j, p, rfl⟩ := dConst_eq h1
    rw [dec_eq h2]
    exact leaf_pm o (by rw [← dec_eq h2]; exact h0) n_int
  | .str b, c, W, X, m, e, o, h => by
    unfold ckE at h
    obtain ⟨h0, h⟩ := and_eq h
    obtain ⟨x, h1, h2⟩ := oany_eq h
    obtain ⟨j, p, rfl⟩ := dConst_eq h1
    rw [dec_eq h2]
    exact leaf_pm o (by rw [← dec_eq h2]; exact h0) n_str
  | .const x, c, W, X, m, e, o, h => by
    unfold ckE at h
    obtain ⟨h0, h⟩ := and_eq h
    obtain ⟨y, h1, h2⟩ := oany_eq h
    obtain ⟨h2, h4⟩ := and_eq h2
    obtain ⟨h2, h3⟩ := and_eq h2
    obtain ⟨p, rfl⟩ := dName_eq h1
    have : x = y := by simpa using h2
    subst this
    exact leaf_pm o h0 (n_const o.g (gl_of o h3) (not_eq h4))
  | .fn x, c, W, X, m, e, o, h => by
    unfold ckE at h
    obtain ⟨h0, h⟩ := and_eq h
    obtain ⟨y, h1, h2⟩ := oany_eq h
    obtain ⟨h2, h4⟩ := and_eq h2
    obtain ⟨h2, h3⟩ := and_eq h2
    obtain ⟨p, rfl⟩ := dName_eq h1
    have : x = y := by simpa using h2
    subst this
    exact leaf_pm o h0 (n_fn o.g (gl_of o h3) (not_eq h4))
  | .tup es, c, W, X, m, e, o, h => by
    unfold ckE at h
    obtain ⟨h0, h⟩ := and_eq h
    obtain ⟨x, h1, h2⟩ := oany_eq h
    obtain ⟨j, p, rfl⟩ := dTup_eq h1
    exact leaf_pm o h0 (n_tup (okEs es o h2))
  | .lst es, c, W, X, m, e, o, h => by
    unfold ckE at h
    obtain ⟨h0, h⟩ := and_eq h
    obtain ⟨x, h1, h2⟩ := oany_eq h
    obtain ⟨p, rfl⟩ := dList_eq h1
    exact leaf_pm o h0 (n_lst (okEs es o h2))
  | .neg a, c, W, X, m, e, o, h => by
    unfold ckE at h
    obtain ⟨h0, h⟩ := and_eq h
    obtain ⟨x, h1, h2⟩ := oany_eq h
    obtain ⟨h2, h3⟩ := and_eq h2
    obtain ⟨p, rfl⟩ := dUn_eq h1
    rw [dec_eq h2] at h0 ⊢
    exact leaf_pm o h0 (n_neg (okE a o h3).val)
  | .nott a, c, W, X, m, e, o, h => by
    unfold ckE at h
    obtain ⟨x, h1, h2⟩ := oany_eq h
    obtain ⟨h2, h3⟩ := and_eq h2
    obtain ⟨p, rfl⟩ := dUn_eq h1
    rw [dec_eq h2]
    have ih := okE a o h3
    cases m with
    | some l => exact n_not (G := G) ih
    | none => exact t_not (G := G) ih
  | .bin q a b, c, W, X, m, e, o, h => by
    unfold ckE at h
    obtain ⟨h0, h⟩ := and_eq h
    obtain ⟨x, h1, h2⟩ := oany_eq h
    obtain ⟨h2, h4⟩ := and_eq h2
    obtain ⟨h2, h3⟩ := and_eq h2
    obtain ⟨p, rfl⟩ := dBin_eq h1
    rw [dec_eq h2] at h0 ⊢
    exact leaf_pm o h0 (n_bin o.g (okE a o h3).val (okE b o h4).val)
  | .cmp q a b, c, W, X, m, e, o, h => by
    unfold ckE at h
    obtain ⟨x, h1, h2⟩ := oany_eq h
    obtain ⟨h2, h5⟩ := and_eq h2
    obtain ⟨h2, h4⟩ := and_eq h2
    obtain ⟨h2, h3⟩ := and_eq h2
    obtain ⟨p, rfl⟩ := dCmp_eq h1
    rw [dec_eq h2] at h5 ⊢
    cases m with
    | some l => exact n_cmp o.g (okE a o h3).val (okE b o h4).val (not_eq h5)
    | none => exact t_cmp o.g (okE a o h3).val (okE b o h4).val (not_eq h5)
  | .chain .., c, W, X, m, e, o, h => by unfold ckE at h; cases h
  | .andd es, c, W, X, m, e, o, h => by
    unfold ckE at h
    obtain ⟨x, h1, h2⟩ := oany_eq h
    obtain ⟨h2, h3⟩ := and_eq h2
    obtain ⟨p, rfl⟩ := dBool_eq h1
    rw [dec_eq h2]
    cases m with
    | some l => exact tD.loose (okAV es o h3)
    | none => exact (okAT es o h3).pt
  | .orr es, c, W, X, m, e, o, h => by
    unfold ckE at h
    obtain ⟨x, h1, h2⟩ := oany_eq h
    obtain ⟨h2, h3⟩ := and_eq h2
    obtain ⟨p, rfl⟩ := dBool_eq h1
    rw [dec_eq h2]
    cases m with
    | some l => exact tD.loose (okOV es o h3)
    | none => exact (okOT es o h3).pt
  | .ite a b d, c, W, X, m, e, o, h => by
    unfold ckE at h
    obtain ⟨h0, h⟩ := and_eq h
    obtain ⟨x, h1, h2⟩ := oany_eq h
    obtain ⟨h2, h4⟩ := and_eq h2
    obtain ⟨h2, h3⟩ := and_eq h2
    obtain ⟨p, rfl⟩ := dIf_eq h1
    exact leaf_pm o h0 (n_ite (okE a o h2).test (okE b o h3).val (okE d o h4).val)
  | .call f es, c, W, X, m, e, o, h => by
    unfold ckE at h
    obtain ⟨h0, h⟩ := and_eq h
    obtain ⟨x, h1, h2⟩ := oany_eq h
    obtain ⟨h2, h6⟩ := and_eq h2
    obtain ⟨h2, h5⟩ := and_eq h2
    obtain ⟨h2, h4⟩ := and_eq h2
    obtain ⟨h2, h3⟩ := and_eq h2
    obtain ⟨q, p, rfl⟩ := dCall_eq h1
    have : f = x.1 := by simpa using h2
    rw [← this] at h0 ⊢
    refine leaf_pm o h0 ?_
    have ih := okEs es o h6
    have hs := star_all h6
    cases hx : x.2 with
    | nil =>
      rw [hx] at h6
      cases es with
      | nil => exact n_call0 o.g (dec_eq h3) (gl_of o h4) (not_eq h5) o.g.pass
      | cons a r => unfold ckEs at h6; cases h6
    | cons y ys =>
      rw [hx] at ih hs
      exact n_call o.g (dec_eq h3) (gl_of o h4) (not_eq h5) hs ih
  | .callv i es, c, W, X, m, e, o, h => by
    unfold ckE at h
    obtain ⟨h0, h⟩ := and_eq h
    obtain ⟨x, h1, h2⟩ := oany_eq h
    obtain ⟨h2, h4⟩ := and_eq h2
    obtain ⟨h2, h3⟩ := and_eq h2
    obtain ⟨q, p, rfl⟩ := dCall_eq h1
    obtain ⟨a1, a2, a3, a4⟩ := nm_of o h2
    refine leaf_pm o h0 ?_
    have ih := okEs es o h4
    have hs := star_all h4
    cases hx : x.2 with
    | nil => rw [hx] at h3; cases h3
    | cons y ys =>
      rw [hx] at ih hs
      exact n_callv o.g a1 a2 a3 a4 hs ih o.fa
  | .prim q es, c, W, X, m, e, o, h => by
    unfold ckE at h
    obtain ⟨h0, h⟩ := and_eq h
    obtain ⟨x, h1, h2⟩ := oany_eq h
    obtain ⟨h2, h6⟩ := and_eq h2
    obtain ⟨h2, h5⟩ := and_eq h2
    obtain ⟨h2, h4⟩ := and_eq h2
    obtain ⟨h2, h3⟩ := and_eq h2
    obtain ⟨r, p, rfl⟩ := dCall_eq h1
    have : prN q = x.1 := by simpa using h2
    rw [← this] at h0 ⊢
    refine leaf_pm o h0 ?_
    have ih := okEs es o h6
    have hs := star_all h6
    cases hx : x.2 with
    | nil => rw [hx] at h5; cases h5
    | cons y ys =>
      rw [hx] at ih hs
      refine n_prim o.g (bn_of o h3) hs ih (fun z => ?_) ⟨fun z => ?_, fun z => ?_, fun z => ?_⟩ <;> (rw [z] at h4; cases h4)
  | .isi a ts, c, W, X, m, e, o, h => by
    unfold ckE at h
    obtain ⟨h0, h⟩ := and_eq h
    obtain ⟨x, h1, h2⟩ := oany_eq h
    obtain ⟨h2, h4⟩ := and_eq h2
    obtain ⟨h2, h3⟩ := and_eq h2
    obtain ⟨q, p, rfl⟩ := dCall_eq h1
    obtain ⟨x1, x2⟩ := x
    have : x1 = ("isinstance" : Str) := by simpa using h2
    subst this
    refine leaf_pm o h0 ?_
    dsimp only at h4 ⊢
    split at h4
    · rename_i y t
      obtain ⟨h4, h6⟩ := and_eq h4
      obtain ⟨h4, h5⟩ := and_eq h4
      have ih := (okE a o h4).val
      split at h6
      · split at h6
        · rename_i t1
          obtain ⟨b1, p1, rfl⟩ := ty_of o h6
          exact n_isi o.g (bn_of o h3) b1 (not_eq h5) ih
        · cases h6
      · rename_i l hl
        obtain ⟨j, p1, rfl⟩ := dTup_eq hl
        obtain ⟨h6, h8⟩ := and_eq h6
        obtain ⟨h6, h7⟩ := and_eq h6
        obtain ⟨b1, b2⟩ := tys_of o h6
        refine n_isiT o.g (bn_of o h3) b1 b2 (dec_eq h8) (fun z => ?_) (not_eq h5) ih
        rw [z] at h7; cases h7
    · cases h4
  | .idx a b, c, W, X, m, e, o, h => by
    unfold ckE at h
    obtain ⟨h0, h⟩ := and_eq h
    obtain ⟨x, h1, h2⟩ := oany_eq h
    obtain ⟨h2, h4⟩ := and_eq h2
    obtain ⟨h2, h3⟩ := and_eq h2
    obtain ⟨p, rfl⟩ := dSub_eq h1
    exact leaf_pm o h0 (n_idx o.g (okE a o h2).val (okE b o h3).val (plain_ix (not_eq h4)))
  | .slc a l r, c, W, X, m, e, o, h => by
    unfold ckE at h
    obtain ⟨h0, h⟩ := and_eq h
    obtain ⟨x, h1, h2⟩ := oany_eq h
    obtain ⟨y, h3, h4⟩ := oany_eq h2
    obtain ⟨h45, h6⟩ := and_eq h4
    obtain ⟨h7, h5⟩ := and_eq h45
    obtain ⟨p, rfl⟩ := dSub_eq h1
    obtain ⟨x1, x2⟩ := x
    obtain ⟨p2, hx⟩ := dSlc_eq h3
    dsimp only at hx h0 h7 ⊢
    subst hx
    exact leaf_pm o h0 (n_slc o.g (okE a o h7).val (okO l o h5) (okO r o h6))
  | .rev _, c, W, X, m, e, o, h => by unfold ckE at h; cases h
  | .tp q i, c, W, X, m, e, o, h => by
    unfold ckE at h
    obtain ⟨h0, h⟩ := and_eq h
    exact leaf_pm o h0 (tp_pe o h)
  | .comp elt tg src cond, c, W, X, m, e, o, h => by
    unfold ckE at h
    obtain ⟨h0, h⟩ := and_eq h
    obtain ⟨x, h1, h2⟩ := oany_eq h
    obtain ⟨h2, h8⟩ := and_eq h2
    obtain ⟨h2, h7⟩ := and_eq h2
    obtain ⟨h2, h6⟩ := and_eq h2
    obtain ⟨h2, h5⟩ := and_eq h2
    obtain ⟨h2, h4⟩ := and_eq h2
    obtain ⟨p, rfl⟩ := dComp_eq h1
    have hb : BlkOk X.N X.env.scope x.sc (ownOf c tg) := blkOk_by (by rw [o.g.eN, o.sc]; exact h4)
    have q := n_compN (pos := p) (W := W) o.g (okI src o h2) hb (own_slots c tg) (fun s H C cl fp => pg_of (o.inner (s := s) (H := H) (C := C) (cl := cl) (fp := fp)) tg h5) (fun s H C cl fp => okC (W := W) cond (o.inner (s := s) (H := H) (C := C) (cl := cl) (fp := fp)) h6) (fun s H C cl fp => (okE elt (o.inner (s := s) (H := H) (C := C) (cl := cl) (fp := fp)) h7).val) (folded_no (not_eq h8) _)
    exact leaf_pm o h0 (tD.ofN q fun σ => comp_own elt tg src cond σ)
theorem okEs : ∀ (is : Es) {c : Ck} {W : WX} {X : Cx} {l : Bool} {es : List Expr}, OkC c G B W H0 k X → ckEs is c l es = true → PA X es (tL B W H0 l (evalEs G is))
  | .nil, c, W, X, l, es, o, h => by
    unfold ckEs at h
    cases es with
    | nil => exact a_nil
    | cons e es => cases h
  | .cons i r, c, W, X, l, es, o, h => by
    cases es with
    | nil => unfold ckEs at h; cases h
    | cons e es =>
      unfold ckEs at h
      obtain ⟨h, h3⟩ := and_eq h
      obtain ⟨h1, h2⟩ := and_eq h
      exact a_cons (okE i o h1).val (okEs r o h3) (not_eq h2)
theorem okAV : ∀ (is : Es) {c : Ck} {W : WX} {X : Cx} {l : Bool} {es : List Expr} {pos : Pos}, OkC c G B W H0 k X → ckB is c (some l) es = true → PE X (.BoolOp .And es pos) (tD B W H0 false (evalAndV G is))
  | .nil, c, W, X, l, es, pos, o, h => by unfold ckB at h; cases h
  | .cons i r, c, W, X, l, es, pos, o, h => by
    cases es with
    | nil => unfold ckB at h; cases h
    | cons e es =>
      unfold ckB at h
      cases r with
      | nil =>
        cases es with
        | nil =>
          have h : ckE i c (some false) e = true := h
          exact n_and1 (G := G) (okE i o h).val
        | cons e2 es => cases h
      | cons i2 r2 =>
        have h : (ckE i c (some true) e && ckB (.cons i2 r2) c (some l) es) = true := h
        obtain ⟨h1, h2⟩ := and_eq h
        cases es with
        | nil => unfold ckB at h2; cases h2
        | cons e2 es => exact n_and (okE i o h1).val (okAV (.cons i2 r2) o h2)
theorem okOV : ∀ (is : Es) {c : Ck} {W : WX} {X : Cx} {l : Bool} {es : List Expr} {pos : Pos}, OkC c G B W H0 k X → ckB is c (some l) es = true → PE X (.BoolOp .Or es pos) (tD B W H0 false (evalOrV G is))
  | .nil, c, W, X, l, es, pos, o, h => by unfold ckB at h; cases h
  | .cons i r, c, W, X, l, es, pos, o, h => by
    cases es with
    | nil => unfold ckB at h; cases h
    | cons e es =>
      unfold ckB at h
      cases r with
      | nil =>
        cases es with
        | nil =>
          have h : ckE i c (some false) e = true := h
          exact n_and1 (G := G) (okE i o h).val
        | cons e2 es => cases h
      | cons i2 r2 =>
        have h : (ckE i c (some true) e && ckB (.cons i2 r2) c (some l) es) = true := h
        obtain ⟨h1, h2⟩ := and_eq h
        cases es with
        | nil => unfold ckB at h2; cases h2
        | cons e2 es => exact n_or (okE i o h1).val (okOV (.cons i2 r2) o h2)
theorem okAT : ∀ (is : Es) {c : Ck} {W : WX} {X : Cx} {es : List Expr} {pos : Pos}, OkC c G B W H0 k X → ckB is c none es = true → PW X (.BoolOp .And es pos) (tB B W H0 (evalAndT G is))
  | .nil, c, W, X, es, pos, o, h => by unfold ckB at h; cases h
  | .cons i r, c, W, X, es, pos, o, h => by
    cases es with
    | nil => unfold ckB at h; cases h
    | cons e es =>
      unfold ckB at h
      cases r with
      | nil =>
        cases es with
        | nil =>
          have h : ckE i c none e = true := h
          exact t_and1 (G := G) (okE i o h).test
        | cons e2 es => cases h
      | cons i2 r2 =>
        have h : (ckE i c none e && ckB (.cons i2 r2) c none es) = true := h
        obtain ⟨h1, h2⟩ := and_eq h
        cases es with
        | nil => unfold ckB at h2; cases h2
        | cons e2 es => exact t_and (okE i o h1).test (okAT (.cons i2 r2) o h2)
theorem okOT : ∀ (is : Es) {c : Ck} {W : WX} {X : Cx} {es : List Expr} {pos : Pos}, OkC c G B W H0 k X → ckB is c none es = true → PW X (.BoolOp .Or es pos) (tB B W H0 (evalOrT G is))
  | .nil, c, W, X, es, pos, o, h => by unfold ckB at h; cases h
  | .cons i r, c, W, X, es, pos, o, h => by
    cases es with
    | nil => unfold ckB at h; cases h
    | cons e es =>
      unfold ckB at h
      cases r with
      | nil =>
        cases es with
        | nil =>
          have h : ckE i c none e = true := h
          exact t_or1 (G := G) (okE i o h).test
        | cons e2 es => cases h
      | cons i2 r2 =>
        have h : (ckE i c none e && ckB (.cons i2 r2) c none es) = true := h
        obtain ⟨h1, h2⟩ := and_eq h
        cases es with
        | nil => unfold ckB at h2; cases h2
        | cons e2 es => exact t_or (okE i o h1).test (okOT (.cons i2 r2) o h2)
theorem okO : ∀ (i : Oe) {c : Ck} {W : WX} {X : Cx} {e : Option Expr}, OkC c G B W H0 k X → ckO i c e = true → PO X e (tO B W H0 (evalO G i))
  | .none, c, W, X, e, o, h => by
    unfold ckO at h
    cases e with
    | none => exact o_none
    | some e => cases h
  | .some i, c, W, X, e, o, h => by
    unfold ckO at h
    obtain ⟨x, rfl, h⟩ := oany_eq h
    exact o_some (okE i o h).val
theorem okC : ∀ (i : Oe) {c : Ck} {W : WX} {X : Cx} {es : List Expr}, OkC c G B WF H0 k X → ckC i c es = true → condT B H0 G X i es
  | .none, c, W, X, es, o, h => by
    unfold ckC at h
    cases es with
    | nil => trivial
    | cons e es => cases h
  | .some i, c, W, X, es, o, h => by
    unfold ckC at h
    split at h
    · exact (okE i o h).test
    · cases h
theorem okI : ∀ (i : I) {c : Ck} {W : WX} {X : Cx} {l : Bool} {t e : Expr}, OkC c G B W H0 k X → ckI i c l t e = true → PI X t e (tI B W H0 l (evalI G i))
  | .seq a, c, W, X, l, t, e, o, h => by
    unfold ckI at h
    exact i_seq o.g (okE a o h).val
  | .range1 a, c, W, X, l, t, e, o, h => by
    unfold ckI at h
    obtain ⟨x, h1, h2⟩ := oany_eq h
    obtain ⟨h2, h4⟩ := and_eq h2
    obtain ⟨h2, h3⟩ := and_eq h2
    obtain ⟨q, p, rfl⟩ := dCall_eq h1
    obtain ⟨x1, x2⟩ := x
    have : x1 = ("range" : Str) := by simpa using h2
    subst this
    dsimp only at h4 ⊢
    split at h4
    · obtain ⟨h4, h5⟩ := and_eq h4
      exact i_range1 o.g (bn_of o h3) (not_eq h5) (okE a o h4).val
    · cases h4
  | .range2 a b, c, W, X, l, t, e, o, h => by
    unfold ckI at h
    obtain ⟨x, h1, h2⟩ := oany_eq h
    obtain ⟨h2, h4⟩ := and_eq h2
    obtain ⟨h2, h3⟩ := and_eq h2
    obtain ⟨q, p, rfl⟩ := dCall_eq h1
    obtain ⟨x1, x2⟩ := x
    have : x1 = ("range" : Str) := by simpa using h2
    subst this
    dsimp only at h4 ⊢
    split at h4
    · obtain ⟨h4, h7⟩ := and_eq h4
      obtain ⟨h4, h6⟩ := and_eq h4
      obtain ⟨h4, h5⟩ := and_eq h4
      exact i_range2 o.g (bn_of o h3) (not_eq h5) (not_eq h7) (okE a o h4).val (okE b o h6).val
    · cases h4
  | .zip a b, c, W, X, l, t, e, o, h => by
    unfold ckI at h
    obtain ⟨h0, h⟩ := and_eq h
    obtain ⟨x, h1, h2⟩ := oany_eq h
    obtain ⟨h2, h4⟩ := and_eq h2
    obtain ⟨h2, h3⟩ := and_eq h2
    obtain ⟨q, p, rfl⟩ := dCall_eq h1
    obtain ⟨x1, x2⟩ := x
    have : x1 = ("zip" : Str) := by simpa using h2
    subst this
    obtain ⟨tl, ht⟩ := Option.isSome_iff_exists.mp h0
    obtain ⟨j, tp, rfl⟩ := dTup_eq ht
    dsimp only at h4 ⊢
    split at h4
    · obtain ⟨h4, h7⟩ := and_eq h4
      obtain ⟨h4, h6⟩ := and_eq h4
      obtain ⟨h4, h5⟩ := and_eq h4
      exact i_zip o.g (bn_of o h3) (not_eq h5) (not_eq h7) (okE a o h4).val (okE b o h6).val
    · cases h4
  | .enum a, c, W, X, l, t, e, o, h => by
    unfold ckI at h
    obtain ⟨h0, h⟩ := and_eq h
    obtain ⟨x, h1, h2⟩ := oany_eq h
    obtain ⟨h2, h4⟩ := and_eq h2
    obtain ⟨h2, h3⟩ := and_eq h2
    obtain ⟨q, p, rfl⟩ := dCall_eq h1
    obtain ⟨x1, x2⟩ := x
    have : x1 = ("enumerate" : Str) := by simpa using h2
    subst this
    obtain ⟨tl, ht⟩ := Option.isSome_iff_exists.mp h0
    obtain ⟨j, tp, rfl⟩ := dTup_eq ht
    dsimp only at h4 ⊢
    split at h4
    · obtain ⟨h4, h5⟩ := and_eq h4
      exact i_enum o.g (bn_of o h3) (not_eq h5) (okE a o h4).val
    · cases h4
end
end
end Pu

/-! Pu16: the check of statements and its proof. -/
namespace Pu
open PySem PySem.Spec PyProof.Rows L2
/-! ### swaps -/
def swp (sc : Scope) (ts vs : List Expr) : Option (Option (List Str)) :=
  if (!(ts.length == 2 || ts.length == 3) || vs.length != ts.length) = true then some none
  else if (vs.any fun | .Starred .. => true | _ => false) = true then some none
  else if ((ts.filterMap fun | .Name id pos => if sc.names.lookup id == some .local && pos.line == (ts.head?.map (·.pos.line)).getD 0 then some id else none | _ => none).length != ts.length ||
      (ts.filterMap fun | .Name id pos => if sc.names.lookup id == some .local && pos.line == (ts.head?.map (·.pos.line)).getD 0 then some id else none | _ => none).eraseDups.length !=
      (ts.filterMap fun | .Name id pos => if sc.names.lookup id == some .local && pos.line == (ts.head?.map (·.pos.line)).getD 0 then some id else none | _ => none).length) = true then some none
  else if vs.all (foldedForSure 8) = true then some none
  else if vs.all (constantsAlone 8) = true then none
  else some (some (ts.filterMap fun | .Name id pos => if sc.names.lookup id == some .local && pos.line == (ts.head?.map (·.pos.line)).getD 0 then some id else none | _ => none))
theorem block_fn {env : PySem.Env} (hk : env.scope.kind = .function) : env.blockKind = .function := by unfold PySem.Env.blockKind; rw [hk]; rfl
theorem swp_eq {env : PySem.Env} {ts vs : List Expr} {r : Option (List Str)} {k k' : Nat} {p p' : Pos} (hk : env.scope.kind = .function) (h : swp env.scope ts vs = some r) : swappedStores [.Tuple ts k p] (.Tuple vs k' p') env = pure r := by
  have hb := block_fn hk
  unfold swappedStores
  dsimp only
  rw [hb]
  have e0 : (ScopeKind.function != ScopeKind.function) = false := by decide
  rw [e0, Bool.or_false]
  unfold swp at h
  split at h
  · rename_i h1
    cases h
    exact if_pos h1
  rename_i h1
  refine (if_neg h1).trans ?_
  split at h
  · rename_i h2
    cases h
    exact if_pos h2
  rename_i h2
  refine (if_neg h2).trans ?_
  split at h
  · rename_i h3
    cases h
    exact if_pos h3
  rename_i h3
  refine (if_neg h3).trans ?_
  split at h
  · rename_i h4
    cases h
    exact if_pos h4
  rename_i h4
  refine (if_neg h4).trans ?_
  split at h
  · cases h
  rename_i h5
  refine (if_neg h5).trans ?_
  cases h
  rfl
def isComp : Expr → Bool
  | .ListComp .. => true
  | .SetComp .. => true
  | .DictComp .. => true
  | _ => false
theorem sw_plain {e : Expr} {t : Option Expr} {l : Nat} {env : PySem.Env} (h : isComp e = false) : swapsWith e t l env = pure false := by
  cases e <;> first | rfl | (cases h)
def swC (sc : Scope) (y : Str) (py : Pos) (cs : Scope) (pos : Pos) : Bool := (sc.names.lookup y == some .local) && (py.line == pos.line) && !(cs.names.any fun (n, k) => n == y && (k == .local || k == .cell))
theorem sw_comp {env : PySem.Env} {elt : Expr} {gs : List Comprehension} {cs : Scope} {pos py : Pos} {y : Str} {l : Nat} (hk : env.scope.kind = .function) : swapsWith (.ListComp elt gs cs pos) (some (.Name y py)) l env = pure (swC env.scope y py cs pos) := by
  have hb := block_fn hk
  unfold swapsWith swC
  simp only [hb]
  rfl
theorem sw_tup {e : Expr} {l : Nat} {env : PySem.Env} {ts : List Expr} {k : Nat} {p : Pos} : swapsWithSole [.Tuple ts k p] e l env = pure false := by
  cases e <;> rfl
theorem sw_sub {e a b : Expr} {l : Nat} {env : PySem.Env} {p : Pos} : swapsWithSole [.Subscript a b p] e l env = pure false := by
  cases e <;> rfl
theorem ss_tup {e : Expr} {env : PySem.Env} {ts : List Expr} {k : Nat} {p : Pos} (h : (dTup e).isNone = true) : swappedStores [.Tuple ts k p] e env = pure none := by
  cases e <;> first | rfl | (cases h)
theorem ss_sub {e a b : Expr} {env : PySem.Env} {p : Pos} : swappedStores [.Subscript a b p] e env = pure none := by
  cases e <;> rfl
end Pu

/-! Pu17: the check of statements. -/
namespace Pu
open PySem PySem.Spec PyProof.Rows L2
def dAsg : Stmt → Option (Expr × Expr × Pos)
  | .Assign [t] e p => some (t, e, p)
  | _ => none
theorem dAsg_eq {s : Stmt} {x : Expr × Expr × Pos} (h : dAsg s = some x) : s = .Assign [x.1] x.2.1 x.2.2 := by
  unfold dAsg at h
  split at h
  · cases h; rfl
  · cases h
def dNameP : Expr → Option (Str × Pos)
  | .Name x p => some (x, p)
  | _ => none
theorem dNameP_eq {e : Expr} {x : Str × Pos} (h : dNameP e = some x) : e = .Name x.1 x.2 := by
  unfold dNameP at h
  split at h
  · cases h; rfl
  · cases h
structure CmpP where
  elt : Expr
  tg : Expr
  iter : Expr
  ifs : List Expr
  sc : Scope
  pos : Pos
def dCompP : Expr → Option CmpP
  | .ListComp elt [⟨tg, iter, ifs, 0⟩] sc p => some ⟨elt, tg, iter, ifs, sc, p⟩
  | _ => none
theorem dCompP_eq {e : Expr} {x : CmpP} (h : dCompP e = some x) : e = .ListComp x.elt [⟨x.tg, x.iter, x.ifs, 0⟩] x.sc x.pos := by
  unfold dCompP at h
  split at h
  · cases h; rfl
  · cases h
def dTwo : Expr → Option ((Str × Str) × List Expr)
  | _ => none
def dNm2 : Expr → Option (Str × Str)
  | .Tuple [.Name x _, .Name y _] _ _ => some (x, y)
  | _ => none
theorem dNm2_eq {e : Expr} {x : Str × Str} (h : dNm2 e = some x) : ∃ p q k r, e = .Tuple [.Name x.1 p, .Name x.2 q] k r := by
  unfold dNm2 at h
  split at h
  · cases h; exact ⟨_, _, _, _, rfl⟩
  · cases h
def dNm3 : Expr → Option (Str × Str × Str)
  | .Tuple [.Name x _, .Name y _, .Name z _] _ _ => some (x, y, z)
  | _ => none
theorem dNm3_eq {e : Expr} {x : Str × Str × Str} (h : dNm3 e = some x) : ∃ p q q2 k r, e = .Tuple [.Name x.1 p, .Name x.2.1 q, .Name x.2.2 q2] k r := by
  unfold dNm3 at h
  split at h
  · cases h; exact ⟨_, _, _, _, _, rfl⟩
  · cases h
def dAug : Stmt → Option (Expr × Operator × Expr)
  | .AugAssign t o e _ => some (t, o, e)
  | _ => none
theorem dAug_eq {s : Stmt} {x : Expr × Operator × Expr} (h : dAug s = some x) : ∃ p, s = .AugAssign x.1 x.2.1 x.2.2 p := by
  unfold dAug at h
  split at h
  · cases h; exact ⟨_, rfl⟩
  · cases h
def dExpr : Stmt → Option Expr
  | .Expr e _ => some e
  | _ => none
theorem dExpr_eq {s : Stmt} {x : Expr} (h : dExpr s = some x) : ∃ p, s = .Expr x p := by
  unfold dExpr at h
  split at h
  · cases h; exact ⟨_, rfl⟩
  · cases h
structure MCall where
  o : Expr
  a : Str
  ap : Pos
  args : List Expr
  cp : Pos
def dMeth : Expr → Option MCall
  | .Call (.Attribute o a ap) l [] cp => some ⟨o, a, ap, l, cp⟩
  | _ => none
theorem dMeth_eq {e : Expr} {x : MCall} (h : dMeth e = some x) : e = .Call (.Attribute x.o x.a x.ap) x.args [] x.cp := by
  unfold dMeth at h
  split at h
  · cases h; rfl
  · cases h
def dIfS : Stmt → Option (Expr × List Stmt × List Stmt)
  | .If c a b _ => some (c, a, b)
  | _ => none
theorem dIfS_eq {s : Stmt} {x : Expr × List Stmt × List Stmt} (h : dIfS s = some x) : ∃ p, s = .If x.1 x.2.1 x.2.2 p := by
  unfold dIfS at h
  split at h
  · cases h; exact ⟨_, rfl⟩
  · cases h
def dFor : Stmt → Option (Expr × Expr × List Stmt)
  | .For t i b [] _ => some (t, i, b)
  | _ => none
theorem dFor_eq {s : Stmt} {x : Expr × Expr × List Stmt} (h : dFor s = some x) : ∃ p, s = .For x.1 x.2.1 x.2.2 [] p := by
  unfold dFor at h
  split at h
  · cases h; exact ⟨_, rfl⟩
  · cases h
def dWhile : Stmt → Option (Expr × List Stmt)
  | .While c b [] _ => some (c, b)
  | _ => none
theorem dWhile_eq {s : Stmt} {x : Expr × List Stmt} (h : dWhile s = some x) : ∃ p, s = .While x.1 x.2 [] p := by
  unfold dWhile at h
  split at h
  · cases h; exact ⟨_, rfl⟩
  · cases h
def dRet : Stmt → Option Expr
  | .Return (some e) _ => some e
  | _ => none
theorem dRet_eq {s : Stmt} {x : Expr} (h : dRet s = some x) : ∃ p, s = .Return (some x) p := by
  unfold dRet at h
  split at h
  · cases h; exact ⟨_, rfl⟩
  · cases h
def dRaise : Stmt → Option Str
  | .Raise (some (.Call (.Name c _) [] [] _)) none _ => some c
  | _ => none
theorem dRaise_eq {s : Stmt} {x : Str} (h : dRaise s = some x) : ∃ p q r, s = .Raise (some (.Call (.Name x p) [] [] q)) none r := by
  unfold dRaise at h
  split at h
  · cases h; exact ⟨_, _, _, rfl⟩
  · cases h
def dTry : Stmt → Option (List Stmt × List ExceptHandler)
  | .Try b (h :: hs) [] [] _ => some (b, h :: hs)
  | _ => none
theorem dTry_eq {s : Stmt} {x : List Stmt × List ExceptHandler} (h : dTry s = some x) : ∃ h hs p, s = .Try x.1 (h :: hs) [] [] p ∧ x.2 = h :: hs := by
  unfold dTry at h
  split at h
  · cases h; exact ⟨_, _, _, rfl, rfl⟩
  · cases h
/-! ### the check -/
/-- an expression that makes a new list -/
def ckN : E → Ck → Expr → Bool
  | .lst es, c, e => oany (dList e) fun l => ckEs es c false l
  | .comp elt tg src cond, c, e => oany (dComp e) fun x => ckI src c true x.tg x.iter && blkC c.N c.sc x.sc (ownOf c tg) && ckP (inner c x.sc) tg x.tg && ckC cond (inner c x.sc) x.ifs && ckE elt (inner c x.sc) (some false) x.elt && !isSet x.iter
  | .prim .list es, c, e => oany (dCall e) fun x => x.1 == ("list" : Str) && bnB c "list" && !x.2.isEmpty && ckEs es c true x.2
  | _, _, _ => false
/-- a comprehension that is stored at once in its name -/
def swE (c : Ck) (y : Str) (py : Pos) (e : Expr) : Bool := match dCompP e with
  | some x => swC c.sc y py x.sc x.pos
  | none => isComp e
def isPass : Stmt → Bool
  | .Pass _ => true
  | _ => false
def isDoc : Stmt → Bool
  | .Expr (.Constant (.str _) _ _) _ => true
  | _ => false
def isBrk : Stmt → Bool
  | .Break _ => true
  | _ => false
def isCont : Stmt → Bool
  | .Continue _ => true
  | _ => false
def slB (c : Ck) (i : Nat) (x : Str) : Bool := match c.N[i]? with | some y => y == x | none => false
def lclB (c : Ck) (x : Str) : Bool := match c.sc.names.lookup x with | some .local => true | _ => false
def ckHs (c : Ck) (U : Sub) : List (Str × Lf) → List ExceptHandler → Bool
  | [], [] => true
  | q :: r, h :: hs => oany (hd1 h) (fun y => y.1 == q.1 && lfE q.2 y.2) && U.ex q.1 && glB c q.1 && !(q.1 == ("__debug__" : Str)) && ckHs c U r hs
  | _, _ => false
mutual
def ckS (U : Sub) : S → Ck → Stmt → Bool
  | .set p i, c, st => oany (dAsg st) fun x => (match p with
    | .name j => oany (dNameP x.1) fun y => slB c j y.1 && locB c y.1 && (if swE c y.1 y.2 x.2.1 then lclB c y.1 && ckN i c x.2.1 && (dComp x.2.1).isSome else ckE i c (some false) x.2.1)
    | .tup ps => ckP c p x.1 && ckE i c (some false) x.2.1 && (match dTup x.1, dTup x.2.1 with
      | some ts, some vs => decide (swp c.sc ts vs = some none)
      | some _, none => true
      | _, _ => false))
  | .setOwn j i, c, st => oany (dAsg st) fun x => oany (dNameP x.1) fun y => slB c j y.1 && locB c y.1 && ckN i c x.2.1 && (!swE c y.1 y.2 x.2.1 || (lclB c y.1 && (dComp x.2.1).isSome))
  | .setPar is es, c, st => oany (dAsg st) fun x => oany (dTup x.2.1) fun vs => ckEs es c false vs && (match is with
    | [i, j] => oany (dNm2 x.1) fun y => oany (dTup x.1) fun ts => slB c i y.1 && slB c j y.2 && decide (i ≠ j) && lclB c y.1 && lclB c y.2 && decide (vs.length = 2) && decide (swp c.sc ts vs = some (some [y.1, y.2]))
    | [i, j, m] => oany (dNm3 x.1) fun y => oany (dTup x.1) fun ts => slB c i y.1 && slB c j y.2.1 && slB c m y.2.2 && decide (i ≠ j) && decide (i ≠ m) && decide (j ≠ m) && lclB c y.1 && lclB c y.2.1 && lclB c y.2.2 && decide (vs.length = 3) && decide (swp c.sc ts vs = some (some [y.1, y.2.1, y.2.2]))
    | _ => false)
  | .setIx i ix e, c, st => oany (dAsg st) fun x => oany (dSub x.1) fun y => oany (dName y.1) fun z => nmB c i z && ckE ix c (some false) y.2 && ckE e c (some false) x.2.1 && !isSlc y.2
  | .aug i o e, c, st => oany (dAug st) fun x => oany (dName x.1) fun y => slB c i y && locB c y && decide (x.2.1 = opOf o) && (match o with | .pow => false | _ => true) && ckE e c (some false) x.2.2
  | .app i e, c, st => oany (dExpr st) fun x => oany (dMeth x) fun m => oany (dName m.o) fun z => nmB c i z && m.a == ("append" : Str) && (m.ap.endLine == m.cp.line) && (match m.args with
    | [y] => ckE e c (some false) y && !isStar y
    | _ => false)
  | .ext .., _, _ => false
  | .expr e, c, st => oany (dExpr st) fun x => ckE e c (some false) x && !isComp x
  | .iff i a b, c, st => oany (dIfS st) fun x => ckE i c none x.1 && ckSs U a c x.2.1 && ckSs U b c x.2.2
  | .forr tg src body, c, st => oany (dFor st) fun x => ckI src c false x.1 x.2.1 && ckP c tg x.1 && ckSs U body c x.2.2 && !isSet x.2.1
  | .whil i body, c, st => oany (dWhile st) fun x => ckE i c none x.1 && ckSs U body c x.2
  | .ret e, c, st => oany (dRet st) fun x => ckE e c (some false) x
  | .raise y, c, st => oany (dRaise st) fun x => y == x && U.ex y && glB c y && !(y == ("__debug__" : Str))
  | .tryy body hs, c, st => oany (dTry st) fun x => ckSs U body c x.1 && ckHs c U hs x.2
  | .brk, c, st => isBrk st
  | .cont, c, st => isCont st
  | .pass, c, st => isPass st || isDoc st
  | .tpop i, c, st => oany (dExpr st) fun x => oany (dMeth x) fun m => oany (dName m.o) fun z => nmB c i z && m.a == ("pop" : Str) && (m.ap.endLine == m.cp.line) && (match m.args with
    | [y] => oany (dConst y) fun k => decide (k = .int 0)
    | _ => false)
  | .tput q i e, c, st => oany (dAsg st) fun x => oany (dSub x.1) fun y => oany (dName y.1) fun z => nmB c i z && ckE e c (some false) x.2.1 && (match q with
    | .seed => oany (dConst y.2) fun k => decide (k = .int 1)
    | .head => oany (dConst y.2) fun k => decide (k = .int 0)
    | _ => false)
  | .tnew a b, c, st => oany (dRet st) fun x => oany (dList x) fun l => (match l with
    | [y, z] => ckN a c y && ckE b c (some false) z && !isStar y && !isStar z
    | _ => false)
def ckSs (U : Sub) : Ss → Ck → List Stmt → Bool
  | .nil, c, sts => sts.isEmpty
  | .cons s r, c, sts => match sts with
    | [] => false
    | st :: rest => ckS U s c st && ckSs U r c rest
  | .freeze _ r, c, sts => ckSs U r c sts
  | .wipe _ r, c, sts => ckSs U r c sts
end
structure OkS (c : Ck) (G : Gam) (U : Sub) (B : Tab) (W : WX) (k : Nat) (X : Cx) : Prop where
  s : GdS G U c.kn B W c.N k X
  sc : X.env.scope = c.sc
  kind : c.sc.kind = .function
  fn : ∀ x, c.fn x = true
  fa : ∀ y a, B.fa y = some a → G.isFn y = true
section
variable {G : Gam} {U : Sub} {B : Tab} {W W' : WX} {H0 : Hp} {k : Nat} {X : Cx} {c : Ck} {e : Expr}
theorem OkS.ce (o : OkS c G U B W k X) : OkC c G B W H0 k X := ⟨o.s.g H0, o.sc, fun x => by rw [o.s.loc, o.fn], o.fa⟩
theorem OkS.tr (o : OkS c G U B W k X) {pn : List (Addr × Obj)} {xe : Value → Shared → Prop} (g : GdS G U c.kn B W' c.N k (X.tr pn xe)) : OkS c G U B W' k (X.tr pn xe) := ⟨g, o.sc, o.kind, o.fn, o.fa⟩
theorem sl_of (o : OkS c G U B W k X) {i : Nat} {x : Str} (h : slB c i x = true) : X.N[i]? = some x := by
  rw [(o.s.g fun _ => none).eN]
  unfold slB at h
  split at h
  · rename_i y hy
    have : y = x := by simpa using h
    rw [hy, this]
  · cases h
theorem lcl_of (o : OkS c G U B W k X) {x : Str} (h : lclB c x = true) : X.env.scope.names.lookup x = some .local := by
  rw [o.sc]
  unfold lclB at h
  split at h
  · assumption
  · cases h
theorem hs_of (o : OkS c G U B W k X) : ∀ {hs : List (Str × Lf)} {l : List ExceptHandler}, ckHs c U hs l = true → hdC X U hs l
  | [], [], _ => by unfold hdC; trivial
  | q :: r, h :: hs, hh => by
    unfold ckHs at hh
    obtain ⟨hh, h5⟩ := and_eq hh
    obtain ⟨hh, h4⟩ := and_eq hh
    obtain ⟨hh, h3⟩ := and_eq hh
    obtain ⟨h1, h2⟩ := and_eq hh
    obtain ⟨y, h6, h7⟩ := oany_eq h1
    obtain ⟨h7, h8⟩ := and_eq h7
    unfold hdC
    refine ⟨⟨y.2, ?_, h8⟩, h2, gl_of (o.ce (H0 := fun _ => none)) h3, not_eq h4, hs_of o h5⟩
    have : y.1 = q.1 := by simpa using h7
    rw [h6, ← this]
  | [], _ :: _, h => by unfold ckHs at h; cases h
  | _ :: _, [], h => by unfold ckHs at h; cases h
/-- a new list -/
theorem okN (o : OkC c G B W H0 k X) : ∀ (i : E) {e : Expr}, ckN i c e = true → PE X e (tN B W H0 fun σ => (ev G i).v σ >>= lstD) := by
  intro i e h
  unfold ckN at h
  split at h
  · obtain ⟨x, h1, h2⟩ := oany_eq h
    obtain ⟨p, rfl⟩ := dList_eq h1
    exact n_lstN (okEs _ o h2)
  · rename_i elt tg src cond
    obtain ⟨x, h1, h2⟩ := oany_eq h
    obtain ⟨h2, h8⟩ := and_eq h2
    obtain ⟨h2, h7⟩ := and_eq h2
    obtain ⟨h2, h6⟩ := and_eq h2
    obtain ⟨h2, h5⟩ := and_eq h2
    obtain ⟨h2, h4⟩ := and_eq h2
    obtain ⟨p, rfl⟩ := dComp_eq h1
    have hb : BlkOk X.N X.env.scope x.sc (ownOf c tg) := blkOk_by (by rw [o.g.eN, o.sc]; exact h4)
    exact n_compN (pos := p) (W := W) o.g (okI src o h2) hb (own_slots c tg) (fun s H C cl fp => pg_of (o.inner (s := s) (H := H) (C := C) (cl := cl) (fp := fp)) tg h5) (fun s H C cl fp => okC (W := W) cond (o.inner (s := s) (H := H) (C := C) (cl := cl) (fp := fp)) h6) (fun s H C cl fp => (okE elt (o.inner (s := s) (H := H) (C := C) (cl := cl) (fp := fp)) h7).val) (folded_no (not_eq h8) _)
  · obtain ⟨x, h1, h2⟩ := oany_eq h
    obtain ⟨h2, h5⟩ := and_eq h2
    obtain ⟨h2, h4⟩ := and_eq h2
    obtain ⟨h2, h3⟩ := and_eq h2
    obtain ⟨q, p, rfl⟩ := dCall_eq h1
    obtain ⟨x1, x2⟩ := x
    have : x1 = ("list" : Str) := by simpa using h2
    subst this
    have ih := okEs _ o h5
    have hs := star_all h5
    cases x2 with
    | nil => cases h4
    | cons y ys => exact n_listN o.g (bn_of o h3) hs ih
  · cases h
variable {e0 : Ent} {pos : Pos}
/-- a comprehension that is stored at once -/
theorem okLc (o : OkS c G U B W k X) {j : Nat} {y : Str} {py : Pos} (hj : X.N[j]? = some y) (hy : X.env.scope.names.lookup y = some .local) (i : E) {e : Expr} (h : ckN i c e = true) (hd : (dComp e).isSome = true) (hw : swE c y py e = true) :
    PS X (.Assign [.Name y py] e pos) (tS B W e0 (exS G U (.set (.name j) i))) ∧ PS X (.Assign [.Name y py] e pos) (tS B W e0 (exS G U (.setOwn j i))) := by
  have o' : OkC c G B W e0.H k X := o.ce
  unfold ckN at h
  split at h
  · obtain ⟨x, h1, h2⟩ := oany_eq h
    obtain ⟨p, rfl⟩ := dList_eq h1
    cases hd
  · rename_i elt tg src cond
    obtain ⟨x, h1, h2⟩ := oany_eq h
    obtain ⟨h2, h8⟩ := and_eq h2
    obtain ⟨h2, h7⟩ := and_eq h2
    obtain ⟨h2, h6⟩ := and_eq h2
    obtain ⟨h2, h5⟩ := and_eq h2
    obtain ⟨h2, h4⟩ := and_eq h2
    obtain ⟨p, rfl⟩ := dComp_eq h1
    have hb : BlkOk X.N X.env.scope x.sc (ownOf c tg) := blkOk_by (by rw [o'.g.eN, o.sc]; exact h4)
    have sw : swapsWith (.ListComp x.elt [⟨x.tg, x.iter, x.ifs, 0⟩] x.sc p) (some (.Name y py)) pos.line X.env = pure true := by
      rw [sw_comp (by rw [o.sc]; exact o.kind), o.sc]
      have : swC c.sc y py x.sc p = true := hw
      rw [this]
    exact ⟨st_setLc o.s hj hy sw (okI src o' h2) hb (own_slots c tg) (fun s H C cl fp => pg_of (o'.inner (s := s) (H := H) (C := C) (cl := cl) (fp := fp)) tg h5) (fun s H C cl fp => okC (W := W) cond (o'.inner (s := s) (H := H) (C := C) (cl := cl) (fp := fp)) h6) (fun s H C cl fp => (okE elt (o'.inner (s := s) (H := H) (C := C) (cl := cl) (fp := fp)) h7).val) (folded_no (not_eq h8) _),
      st_setOwnLc o.s hj hy sw (okI src o' h2) hb (own_slots c tg) (fun s H C cl fp => pg_of (o'.inner (s := s) (H := H) (C := C) (cl := cl) (fp := fp)) tg h5) (fun s H C cl fp => okC (W := W) cond (o'.inner (s := s) (H := H) (C := C) (cl := cl) (fp := fp)) h6) (fun s H C cl fp => (okE elt (o'.inner (s := s) (H := H) (C := C) (cl := cl) (fp := fp)) h7).val) (folded_no (not_eq h8) _)⟩
  · obtain ⟨x, h1, h2⟩ := oany_eq h
    obtain ⟨q, p, rfl⟩ := dCall_eq h1
    cases hd
  · cases h
theorem swE_no (o : OkS c G U B W k X) {y : Str} {py : Pos} {e : Expr} {l : Nat} (h : swE c y py e = false) : swapsWith e (some (.Name y py)) l X.env = pure false := by
  unfold swE at h
  split at h
  · rename_i x hx
    rw [dCompP_eq hx, sw_comp (by rw [o.sc]; exact o.kind), o.sc, h]
  · exact sw_plain h
mutual
theorem okS : ∀ (i : S) {c : Ck} {W : WX} {X : Cx} {st : Stmt}, OkS c G U B W k X → ckS U i c st = true → ∀ e0, PS X st (tS B W e0 (exS G U i))
  | .set (.name j) i, c, W, X, st, o, h, e0 => by
    unfold ckS at h
    obtain ⟨x, h1, h2⟩ := oany_eq h
    have h1 := dAsg_eq h1
    subst h1
    obtain ⟨y, h3, h4⟩ := oany_eq h2
    obtain ⟨h4, h6⟩ := and_eq h4
    obtain ⟨h4, h5⟩ := and_eq h4
    have h3 := dNameP_eq h3
    rw [h3]
    by_cases hw : swE c y.1 y.2 x.2.1 = true
    · rw [if_pos hw] at h6
      obtain ⟨h6, h8⟩ := and_eq h6
      obtain ⟨h6, h7⟩ := and_eq h6
      exact (okLc o (sl_of o h4) (lcl_of o h6) i h7 h8 hw).1
    · rw [if_neg hw] at h6
      exact st_setG o.s (sl_of o h4) (loc_of (o.ce (H0 := e0.H)) h5) (okE i (o.ce (H0 := e0.H)) h6).val (swE_no o (by simpa using hw))
  | .set (.tup ps) i, c, W, X, st, o, h, e0 => by
    unfold ckS at h
    obtain ⟨x, h1, h2⟩ := oany_eq h
    have h1 := dAsg_eq h1
    subst h1
    obtain ⟨h2, h4⟩ := and_eq h2
    obtain ⟨h2, h3⟩ := and_eq h2
    have hg := pg_of (o.ce (H0 := e0.H)) (.tup ps) h2
    have he := (okE i (o.ce (H0 := e0.H)) h3).val
    split at h4
    · rename_i ts vs ht hv
      obtain ⟨j1, p1, e1⟩ := dTup_eq ht
      obtain ⟨j2, p2, e2⟩ := dTup_eq hv
      rw [e1] at hg ⊢
      rw [e2] at he ⊢
      exact st_asg o.s hg he sw_tup (swp_eq (by rw [o.sc]; exact o.kind) (by rw [o.sc]; exact dec_eq h4)) rfl
    · rename_i ts ht hv
      obtain ⟨j1, p1, e1⟩ := dTup_eq ht
      rw [e1] at hg ⊢
      exact st_asg o.s hg he sw_tup (ss_tup (by rw [hv]; rfl)) rfl
    · cases h4
  | .setOwn j i, c, W, X, st, o, h, e0 => by
    unfold ckS at h
    obtain ⟨x, h1, h2⟩ := oany_eq h
    have h1 := dAsg_eq h1
    subst h1
    obtain ⟨y, h3, h4⟩ := oany_eq h2
    obtain ⟨h4, h7⟩ := and_eq h4
    obtain ⟨h4, h6⟩ := and_eq h4
    obtain ⟨h4, h5⟩ := and_eq h4
    have h3 := dNameP_eq h3
    rw [h3]
    by_cases hw : swE c y.1 y.2 x.2.1 = true
    · rw [hw] at h7
      obtain ⟨h7, h8⟩ := and_eq (show (lclB c y.1 && (dComp x.2.1).isSome) = true from h7)
      exact (okLc o (sl_of o h4) (lcl_of o h7) i h6 h8 hw).2
    · exact st_setOwnG o.s (sl_of o h4) (loc_of (o.ce (H0 := e0.H)) h5) (okN (o.ce (H0 := e0.H)) i h6) (swE_no o (by simpa using hw))
  | .setPar is es, c, W, X, st, o, h, e0 => by
    unfold ckS at h
    obtain ⟨x, h1, h2⟩ := oany_eq h
    have h1 := dAsg_eq h1
    subst h1
    obtain ⟨vs, h3, h4⟩ := oany_eq h2
    obtain ⟨h4, h5⟩ := and_eq h4
    obtain ⟨j2, p2, e2⟩ := dTup_eq h3
    have ha := okEs es (o.ce (H0 := e0.H)) h4
    have hN : X.N.Nodup := by rw [(o.s.g e0.H).eN]; exact (o.s.g e0.H).nd
    rw [e2]
    split at h5
    · rename_i i j
      obtain ⟨y, g1, h5⟩ := oany_eq h5
      obtain ⟨ts, g2, h5⟩ := oany_eq h5
      obtain ⟨h5, a7⟩ := and_eq h5
      obtain ⟨h5, a6⟩ := and_eq h5
      obtain ⟨h5, a5⟩ := and_eq h5
      obtain ⟨h5, a4⟩ := and_eq h5
      obtain ⟨h5, a3⟩ := and_eq h5
      obtain ⟨a1, a2⟩ := and_eq h5
      obtain ⟨p, q, kk, r, e1⟩ := dNm2_eq g1
      rw [e1] at g2 ⊢
      cases g2
      have a6 := dec_eq a6
      match vs, a6, ha, a7 with
      | [a, b], _, ha, a7 => exact st_par2 o.s hN (sl_of o a1) (sl_of o a2) (dec_eq a3) (lcl_of o a4) (lcl_of o a5) ha (swp_eq (by rw [o.sc]; exact o.kind) (by rw [o.sc]; exact dec_eq a7))
    · rename_i i j m
      obtain ⟨y, g1, h5⟩ := oany_eq h5
      obtain ⟨ts, g2, h5⟩ := oany_eq h5
      obtain ⟨h5, b4⟩ := and_eq h5
      obtain ⟨h5, b3⟩ := and_eq h5
      obtain ⟨h5, b2⟩ := and_eq h5
      obtain ⟨h5, b1⟩ := and_eq h5
      obtain ⟨h5, a7⟩ := and_eq h5
      obtain ⟨h5, a6⟩ := and_eq h5
      obtain ⟨h5, a5⟩ := and_eq h5
      obtain ⟨h5, a4⟩ := and_eq h5
      obtain ⟨h5, a3⟩ := and_eq h5
      obtain ⟨a1, a2⟩ := and_eq h5
      obtain ⟨p, q, q2, kk, r, e1⟩ := dNm3_eq g1
      rw [e1] at g2 ⊢
      cases g2
      have b3 := dec_eq b3
      match vs, b3, ha, b4 with
      | [a, b, d], _, ha, b4 => exact st_par3 o.s hN (sl_of o a1) (sl_of o a2) (sl_of o a3) (dec_eq a4) (dec_eq a5) (dec_eq a6) (lcl_of o a7) (lcl_of o b1) (lcl_of o b2) ha (swp_eq (by rw [o.sc]; exact o.kind) (by rw [o.sc]; exact dec_eq b4))
    · cases h5
  | .setIx i ix e, c, W, X, st, o, h, e0 => by
    unfold ckS at h
    obtain ⟨x, h1, h2⟩ := oany_eq h
    have h1 := dAsg_eq h1
    subst h1
    obtain ⟨y, h3, h4⟩ := oany_eq h2
    obtain ⟨z, h5, h6⟩ := oany_eq h4
    obtain ⟨h6, h9⟩ := and_eq h6
    obtain ⟨h6, h8⟩ := and_eq h6
    obtain ⟨h6, h7⟩ := and_eq h6
    obtain ⟨p, e1⟩ := dSub_eq h3
    obtain ⟨q, e2⟩ := dName_eq h5
    obtain ⟨a1, a2, a3, a4⟩ := nm_of (o.ce (H0 := e0.H)) h6
    rw [e1, e2]
    refine st_setIx o.s a1 a2 a3 a4 (okE ix (o.ce (H0 := e0.H)) h7).val (okE e (o.ce (H0 := e0.H)) h8).val sw_sub ss_sub rfl fun v => ?_
    have := not_eq h9
    revert this
    generalize y.2 = b
    intro hb
    cases b <;> first | rfl | (cases hb)
  | .aug i q e, c, W, X, st, o, h, e0 => by
    unfold ckS at h
    obtain ⟨x, h1, h2⟩ := oany_eq h
    obtain ⟨p, rfl⟩ := dAug_eq h1
    obtain ⟨y, h3, h4⟩ := oany_eq h2
    obtain ⟨h4, h8⟩ := and_eq h4
    obtain ⟨h4, h7⟩ := and_eq h4
    obtain ⟨h4, h6⟩ := and_eq h4
    obtain ⟨h4, h5⟩ := and_eq h4
    obtain ⟨r, e1⟩ := dName_eq h3
    have hN : X.N.Nodup := by rw [(o.s.g e0.H).eN]; exact (o.s.g e0.H).nd
    rw [e1, dec_eq h6]
    exact augs o.s hN (sl_of o h4) (loc_of (o.ce (H0 := e0.H)) h5) (okE e (o.ce (H0 := e0.H)) h8).val fun z => by rw [z] at h7; cases h7
  | .app i e, c, W, X, st, o, h, e0 => by
    unfold ckS at h
    obtain ⟨x, h1, h2⟩ := oany_eq h
    obtain ⟨p, rfl⟩ := dExpr_eq h1
    obtain ⟨m, h3, h4⟩ := oany_eq h2
    obtain ⟨z, h5, h6⟩ := oany_eq h4
    obtain ⟨h6, h9⟩ := and_eq h6
    obtain ⟨h6, h8⟩ := and_eq h6
    obtain ⟨h6, h7⟩ := and_eq h6
    have h3 := dMeth_eq h3
    subst h3
    obtain ⟨q, e2⟩ := dName_eq h5
    obtain ⟨a1, a2, a3, a4⟩ := nm_of (o.ce (H0 := e0.H)) h6
    obtain ⟨mo, ma, map, margs, mcp⟩ := m
    dsimp only at h7 h8 h9 e2 ⊢
    subst e2
    have : ma = ("append" : Str) := by simpa using h7
    subst this
    split at h9
    · obtain ⟨h9, h10⟩ := and_eq h9
      exact st_app o.s a1 a2 a3 a4 (okE e (o.ce (H0 := e0.H)) h9).val (not_eq h10) rfl h8
    · cases h9
  | .ext .., c, W, X, st, o, h, e0 => by unfold ckS at h; cases h
  | .expr e, c, W, X, st, o, h, e0 => by
    unfold ckS at h
    obtain ⟨x, h1, h2⟩ := oany_eq h
    obtain ⟨h2, h3⟩ := and_eq h2
    obtain ⟨p, rfl⟩ := dExpr_eq h1
    exact st_expr (okE e (o.ce (H0 := e0.H)) h2).val (sw_plain (not_eq h3))
  | .iff i a b, c, W, X, st, o, h, e0 => by
    unfold ckS at h
    obtain ⟨x, h1, h2⟩ := oany_eq h
    obtain ⟨h2, h4⟩ := and_eq h2
    obtain ⟨h2, h3⟩ := and_eq h2
    obtain ⟨p, rfl⟩ := dIfS_eq h1
    exact st_if (okE i (o.ce (H0 := e0.H)) h2).test (okSs a o h3 e0) (okSs b o h4 e0)
  | .forr tg src body, c, W, X, st, o, h, e0 => by
    unfold ckS at h
    obtain ⟨x, h1, h2⟩ := oany_eq h
    obtain ⟨h2, h5⟩ := and_eq h2
    obtain ⟨h2, h4⟩ := and_eq h2
    obtain ⟨h2, h3⟩ := and_eq h2
    obtain ⟨p, rfl⟩ := dFor_eq h1
    exact st_for (o.s.g e0.H) o.s.hp (okI src (o.ce (H0 := e0.H)) h2) (pg_of (o.ce (H0 := e0.H)) tg h3) (fun e1 => okSs body o h4 e1) (folded_no (not_eq h5) _)
  | .whil i body, c, W, X, st, o, h, e0 => by
    unfold ckS at h
    obtain ⟨x, h1, h2⟩ := oany_eq h
    obtain ⟨h2, h3⟩ := and_eq h2
    obtain ⟨p, rfl⟩ := dWhile_eq h1
    exact st_while (o.s.g e0.H) o.s.hp (okE i (o.ce (H0 := e0.H)) h2).test (okSs body o h3 e0)
  | .ret e, c, W, X, st, o, h, e0 => by
    unfold ckS at h
    obtain ⟨x, h1, h2⟩ := oany_eq h
    obtain ⟨p, rfl⟩ := dRet_eq h1
    exact st_ret (okE e (o.ce (H0 := e0.H)) h2).val
  | .raise y, c, W, X, st, o, h, e0 => by
    unfold ckS at h
    obtain ⟨x, h1, h2⟩ := oany_eq h
    obtain ⟨h2, h5⟩ := and_eq h2
    obtain ⟨h2, h4⟩ := and_eq h2
    obtain ⟨h2, h3⟩ := and_eq h2
    have : y = x := by simpa using h2
    subst this
    obtain ⟨p, q, r, rfl⟩ := dRaise_eq h1
    exact st_raise o.s h3 (gl_of (o.ce (H0 := e0.H)) h4) (not_eq h5)
  | .tryy body hs, c, W, X, st, o, h, e0 => by
    unfold ckS at h
    obtain ⟨x, h1, h2⟩ := oany_eq h
    obtain ⟨h2, h3⟩ := and_eq h2
    obtain ⟨h0, l, p, rfl, e2⟩ := dTry_eq h1
    rw [e2] at h3
    exact st_try o.s (fun W' pn xe g => okSs body (o.tr g) h2 e0) (hs_of o h3)
  | .brk, c, W, X, st, o, h, e0 => by
    unfold ckS isBrk at h
    split at h
    · exact st_brk
    · cases h
  | .cont, c, W, X, st, o, h, e0 => by
    unfold ckS isCont at h
    split at h
    · exact st_cont
    · cases h
  | .pass, c, W, X, st, o, h, e0 => by
    unfold ckS at h
    rcases Bool.or_eq_true_iff.mp h with h | h
    · unfold isPass at h
      split at h
      · exact st_pass
      · cases h
    · unfold isDoc at h
      split at h
      · exact st_doc
      · cases h
  | .tpop i, c, W, X, st, o, h, e0 => by
    unfold ckS at h
    obtain ⟨x, h1, h2⟩ := oany_eq h
    obtain ⟨p, rfl⟩ := dExpr_eq h1
    obtain ⟨m, h3, h4⟩ := oany_eq h2
    obtain ⟨z, h5, h6⟩ := oany_eq h4
    obtain ⟨h6, h9⟩ := and_eq h6
    obtain ⟨h6, h8⟩ := and_eq h6
    obtain ⟨h6, h7⟩ := and_eq h6
    have h3 := dMeth_eq h3
    subst h3
    obtain ⟨q, e2⟩ := dName_eq h5
    obtain ⟨a1, a2, a3, a4⟩ := nm_of (o.ce (H0 := e0.H)) h6
    obtain ⟨mo, ma, map, margs, mcp⟩ := m
    dsimp only at h7 h8 h9 e2 ⊢
    subst e2
    have : ma = ("pop" : Str) := by simpa using h7
    subst this
    split at h9
    · obtain ⟨kk, h10, h11⟩ := oany_eq h9
      obtain ⟨j, p3, rfl⟩ := dConst_eq h10
      rw [dec_eq h11]
      exact st_tpop o.s a1 a2 a3 a4 h8
    · cases h9
  | .tput q i e, c, W, X, st, o, h, e0 => by
    unfold ckS at h
    obtain ⟨x, h1, h2⟩ := oany_eq h
    have h1 := dAsg_eq h1
    subst h1
    obtain ⟨y, h3, h4⟩ := oany_eq h2
    obtain ⟨z, h5, h6⟩ := oany_eq h4
    obtain ⟨h6, h8⟩ := and_eq h6
    obtain ⟨h6, h7⟩ := and_eq h6
    obtain ⟨p, e1⟩ := dSub_eq h3
    obtain ⟨r, e2⟩ := dName_eq h5
    obtain ⟨a1, a2, a3, a4⟩ := nm_of (o.ce (H0 := e0.H)) h6
    have he := (okE e (o.ce (H0 := e0.H)) h7).val
    rw [e1, e2]
    cases q with
    | seed =>
      obtain ⟨kk, h10, h11⟩ := oany_eq (show (oany (dConst y.2) fun k => decide (k = .int 1)) = true from h8)
      obtain ⟨j, p3, e3⟩ := dConst_eq h10
      rw [e3, dec_eq h11]
      exact st_tput o.s (.inl ⟨rfl, rfl⟩) a1 a2 a3 a4 he sw_sub ss_sub
    | head =>
      obtain ⟨kk, h10, h11⟩ := oany_eq (show (oany (dConst y.2) fun k => decide (k = .int 0)) = true from h8)
      obtain ⟨j, p3, e3⟩ := dConst_eq h10
      rw [e3, dec_eq h11]
      exact st_tput o.s (.inr ⟨rfl, rfl⟩) a1 a2 a3 a4 he sw_sub ss_sub
    | cell => cases h8
    | len => cases h8
  | .tnew a b, c, W, X, st, o, h, e0 => by
    unfold ckS at h
    obtain ⟨x, h1, h2⟩ := oany_eq h
    obtain ⟨p, rfl⟩ := dRet_eq h1
    obtain ⟨l, h3, h4⟩ := oany_eq h2
    obtain ⟨p1, rfl⟩ := dList_eq h3
    split at h4
    · obtain ⟨h4, h8⟩ := and_eq h4
      obtain ⟨h4, h7⟩ := and_eq h4
      obtain ⟨h5, h6⟩ := and_eq h4
      exact st_tnew o.s (okN (o.ce (H0 := e0.H)) a h5) (okE b (o.ce (H0 := e0.H)) h6).val (not_eq h7) (not_eq h8)
    · cases h4
theorem okSs : ∀ (is : Ss) {c : Ck} {W : WX} {X : Cx} {sts : List Stmt}, OkS c G U B W k X → ckSs U is c sts = true → ∀ e0, PSs X sts (tS B W e0 (exSs G U is))
  | .nil, c, W, X, sts, o, h, e0 => by
    unfold ckSs at h
    cases sts with
    | nil => exact ss_nil
    | cons st sts => cases h
  | .cons i r, c, W, X, sts, o, h, e0 => by
    cases sts with
    | nil => unfold ckSs at h; cases h
    | cons st sts =>
      unfold ckSs at h
      obtain ⟨h1, h2⟩ := and_eq h
      exact ss_cons (okS i o h1 e0) (okSs r o h2 e0)
  | .freeze i r, c, W, X, sts, o, h, e0 => by
    unfold ckSs at h
    exact ss_freeze (okSs r o h e0)
  | .wipe is r, c, W, X, sts, o, h, e0 => by
    unfold ckSs at h
    exact ss_wipe (okSs r o h e0)
end
end
end Pu

/-! Pu18: the defs of a text keep their promises. -/
namespace Pu
open PySem PySem.Spec PyProof.Rows L2
/-- a text: its terms, its statements by name, its names -/
structure Txt where
  T : Tx
  st : Str → Stmt
  kn : Str → Option Bool
def Txt.ps (X : Txt) (f : Str) : List Str := (defArgs (X.st f)).args.map (·.arg)
def bOf (X : Txt) (K : PySem.W.Frag) : Tab where
  K := K
  fa := fun x => if X.T.isFn x = true then (match PySem.W.nsIn K mainGlobals x with
    | some (some (.ref a)) => some a
    | _ => none) else none
  ex := fun c => match PySem.W.nsIn K mainGlobals c with
    | some (some (.ref a)) => a
    | _ => 0
def excIn0 (K : PySem.W.Frag) (C : Addr) : Prop := ∃ (bmB : List Value) (B newId initId : String), ExcBaseFacts B newId initId bmB ∧ PySem.W.excIn K C bmB newId = true
/-- what the top has written -/
structure KF (X : Txt) (K : PySem.W.Frag) : Prop where
  fn : ∀ f, X.kn f = some true → ∃ a fd, PySem.W.nsIn K mainGlobals f = some (some (.ref a)) ∧ L2.Fun K f f (X.st f) a fd ∧ Binds K fd (X.ps f) []
  bl : ∀ x, X.kn x = some false → PySem.W.nsIn K mainGlobals x = some none
  ct : ∀ x d, X.T.consts x = some d → ∃ v u, PySem.W.nsIn K mainGlobals x = some (some u) ∧ RelV v u ∧ ∀ F τ, Rp (bOf X K) F τ v d
  ex : ∀ c, X.T.sub.ex c = true → ∃ C, PySem.W.nsIn K mainGlobals c = some (some (.ref C)) ∧ PySem.W.keepIn K (.ref C) = true ∧ excIn0 K C ∧ PySem.W.subIn K (.ref C) (.type "BaseException") = some true ∧ PySem.W.typeIn K (.ref C) = some (.type "type")
  hd : ∀ c x, X.T.sub.ex c = true → X.T.sub.ex x = true → PySem.W.exmOne K (.ref ((bOf X K).ex c)) (.ref ((bOf X K).ex x)) = some (X.T.sub.sub c x)
def fnScB (N P : List Str) (sc : Scope) : Bool := (match sc.kind with | .function => true | _ => false) && !sc.isCoroutine && !sc.isGenerator && decide N.Nodup && decide (N.take P.length = P) &&
  (P.all fun x => match sc.names.lookup x with | some .local => true | some .cell => true | _ => false) && (sc.names.all fun y => match y.2 with | .free => false | _ => true)
theorem fnSc_of {N P : List Str} {sc : Scope} (h : fnScB N P sc = true) : FnScope N P sc := by
  unfold fnScB at h
  obtain ⟨h, h7⟩ := and_eq h
  obtain ⟨h, h6⟩ := and_eq h
  obtain ⟨h, h5⟩ := and_eq h
  obtain ⟨h, h4⟩ := and_eq h
  obtain ⟨h, h3⟩ := and_eq h
  obtain ⟨h1, h2⟩ := and_eq h
  refine ⟨?_, not_eq h2, not_eq h3, dec_eq h4, dec_eq h5, fun x hx => ?_, fun y hy e => ?_⟩
  · split at h1
    · assumption
    · cases h1
  · have := List.all_eq_true.mp h6 x hx
    split at this
    · exact .inl (by assumption)
    · exact .inr (by assumption)
    · cases this
  · have := List.all_eq_true.mp h7 y hy
    rw [e] at this
    cases this
/-- a def's text is what its term says -/
def defC (X : Txt) (f : Str) (d : Df) : Bool := ckSs X.T.sub d.body ⟨defScope (X.st f), d.names, X.kn, fun _ => true⟩ (defBody (X.st f)) && fnScB d.names (X.ps f) (defScope (X.st f)) && decide ((X.ps f).length = d.arity)
structure TxC (X : Txt) : Prop where
  defs : ∀ f d, lookD f X.T.defs = some d → defC X f d = true
  fns : ∀ f, X.T.isFn f = true → X.kn f = some true
/-- what a def promises at a depth -/
def Kept (X : Txt) (P : Program) (w : World) (K : PySem.W.Frag) (mg : Str → Option Value) (base : Heap) (k : Nat) (f : Str) (m : List D → M D) : Prop :=
  ∀ a fd, PySem.W.nsIn K mainGlobals f = some (some (.ref a)) → L2.Fun K f f (X.st f) a fd → FnOk P w K mg base (L2.CX P w) k a fd (X.ps f) (spOf (bOf X K) (X.ps f).length m) ∧ ∀ ds T Q E, (m ds T).is Q E → ds.length = (X.ps f).length
theorem start_get {N : List Str} {vs : List V} {ds : List D} {B : Tab} {F : Hp} {τ : Ta} (r : RpL B F τ vs ds) {n : Nat} {i : Nat} {sv : SV} (h : (ds.map (fun d => some (SV.val d)) ++ List.replicate n none)[i]? = some (some sv)) :
    ∃ d v, sv = .val d ∧ vs[i]? = some v ∧ Rp B F τ v d := by
  by_cases hi : i < ds.length
  · rw [List.getElem?_append_left (by rw [List.length_map]; exact hi), List.getElem?_map] at h
    cases e : ds[i]? with
    | none => rw [e] at h; cases h
    | some d =>
      rw [e] at h
      cases h
      obtain ⟨v, hv, rv⟩ := r.get e
      exact ⟨d, v, rfl, hv, rv⟩
  · rw [List.getElem?_append_right (by rw [List.length_map]; omega)] at h
    rw [List.getElem?_replicate] at h
    split at h <;> cases h
section
variable {X : Txt} {P : Program} {w : World} {K : PySem.W.Frag} {mg : Str → Option Value} {base : Heap} {k : Nat}
theorem kept_zero (f : Str) : Kept X P w K mg base 0 f (callF X.T 0 f) := by
  intro a fd _ _
  refine ⟨⟨fun vs H Q E h => h.1, fun A outer s H args us vs Q E _ _ _ _ h => ?_⟩, fun ds T Q E h => False.elim h⟩
  obtain ⟨_, F, τ, ds, T, _, _, _, h⟩ := h
  exact False.elim h
theorem kept_succ (C : TxC X) (KX : K.In base) (NX : base.Ns mainGlobals mg) (F : KF X K) (ih : ∀ f, X.kn f = some true → Kept X P w K mg base k f (callF X.T k f)) {f : Str} {d : Df} (hd : lookD f X.T.defs = some d) : Kept X P w K mg base (k + 1) f (callF X.T (k + 1) f) := by
  intro a fd ha hf
  have e1 : callF X.T (k + 1) f = runDf ⟨callF X.T k, X.T.consts, X.T.isFn⟩ X.T.sub d := by
    funext ds
    unfold callF
    rw [hd]
  have ck := C.defs f d hd
  unfold defC at ck
  obtain ⟨ck, c3⟩ := and_eq ck
  obtain ⟨c1, c2⟩ := and_eq ck
  have sc := fnSc_of c2
  have c3 := dec_eq c3
  rw [e1]
  have hlen : ∀ ds T Q E, ((runDf ⟨callF X.T k, X.T.consts, X.T.isFn⟩ X.T.sub d ds) T).is Q E → ds.length = d.arity ∧ d.arity ≤ d.names.length ∧ ((exSs ⟨callF X.T k, X.T.consts, X.T.isFn⟩ X.T.sub d.body (ds.map (fun d => some (.val d)) ++ List.replicate (d.names.length - ds.length) none) >>= fun fl => (match fl with
      | .next _ => pure .non
      | .ret d => pure d
      | _ => stuck : M D)) T).is Q E := fun ds T Q E h => by
    unfold runDf at h
    split at h
    · rename_i hh
      exact ⟨hh.1, hh.2, h⟩
    · exact False.elim h
  refine ⟨?_, fun ds T Q E h => by rw [c3]; exact (hlen ds T Q E h).1⟩
  refine hf.okX sc (fun vs H Q E h => h.1) fun cdv A outer s H vs Q E hr h => ?_
  obtain ⟨hv, F0, τ0, ds, T0, sub, tape, rl, h⟩ := h
  obtain ⟨n1, n2, h⟩ := hlen _ _ _ _ h
  have tk : Takes (cxOf (L2.CX P w) P w K mg base d.names f (defScope (X.st f)) a cdv A outer s H E) (fun cls d _ H => E cls d H) := takes_of rfl rfl rfl rfl
  have mgf : ∀ {x : Str} {v : Value}, PySem.W.nsIn K mainGlobals x = some (some v) → mg x = some v := fun e => PySem.W.mg_of KX NX e
  have exE : ∀ c C, PySem.W.nsIn K mainGlobals c = some (some (.ref C)) → (bOf X K).ex c = C := fun c C e => by unfold bOf; dsimp only; rw [e]
  have g : ∀ H0, Gd ⟨callF X.T k, X.T.consts, X.T.isFn⟩ X.kn (bOf X K) (fun cls d _ H => E cls d H) H0 d.names k (cxOf (L2.CX P w) P w K mg base d.names f (defScope (X.st f)) a cdv A outer s H E) := fun H0 =>
    { eK := rfl
      eN := rfl
      nd := sc.nd
      calm := rfl
      room := hr
      blt := fun x _ _ hk => PySem.W.mg_none_of KX NX (F.bl x hk)
      const := fun x d hx => by
        obtain ⟨v, u, h1, h2, h3⟩ := F.ct x d hx
        exact ⟨v, u, mgf h1, h2, h3⟩
      fn := fun x hx => by
        obtain ⟨a, fd, h1, _⟩ := F.fn x (C.fns x hx)
        refine ⟨a, ?_, mgf h1, C.fns x hx⟩
        unfold bOf
        dsimp only
        rw [if_pos hx, h1]
      call := fun f' hk => by
        obtain ⟨a', fd', h1, h2, h3⟩ := F.fn f' hk
        obtain ⟨q1, q2⟩ := ih f' hk a' fd' h1 h2
        refine ⟨a', fd', X.ps f', fun a2 e2 => ?_, mgf h1, h2.kp, h3, q1, q2⟩
        unfold bOf at e2
        dsimp only at e2
        rw [h1] at e2
        split at e2
        · cases e2; rfl
        · cases e2
      pass := fun σ => passAt tk σ }
  have os : OkS ⟨defScope (X.st f), d.names, X.kn, fun _ => true⟩ ⟨callF X.T k, X.T.consts, X.T.isFn⟩ X.T.sub (bOf X K) (fun cls d _ H => E cls d H) k (cxOf (L2.CX P w) P w K mg base d.names f (defScope (X.st f)) a cdv A outer s H E) :=
    { s :=
        { g := g
          hp := passes_of rfl
          tk := tk
          hs := rfl
          hf := rfl
          mkx := fun X' e2 e3 c p pos hu hg hd => by
            obtain ⟨C', h1, h2, ⟨bmB, B, newId, initId, EF, q⟩, h4, h5⟩ := F.ex c hu
            have e4 : X'.K = K := e3
            rw [exE c C' h1]
            refine pmk_own0 EF (by rw [e4]; exact q) (by rw [e2]; exact mgf h1) (by rw [e4]; exact h2) (raises_own (by rw [e4]; exact h4) (by rw [e4]; exact h5)) hg hd
          mg := fun c hu => by
            obtain ⟨C', h1, _⟩ := F.ex c hu
            rw [exE c C' h1]
            exact mgf h1
          hd := F.hd
          loc := fun _ => rfl }
      sc := rfl
      kind := sc.kind
      fn := fun _ => rfl
      fa := fun y a e => by
        unfold bOf at e
        dsimp only at e
        split at e
        · assumption
        · cases e }
  refine ⟨_, okSs d.body os c1 ⟨F0, H, τ0, d.names.length⟩, ?_⟩
  have hvl : vs.length = ds.length := rl.length
  have hsl : (L2.start d.names vs).length = d.names.length := by
    unfold L2.start
    rw [List.length_append, List.length_map, List.length_replicate]
    omega
  have S0 : St (bOf X K) H F0 τ0 (ds.map (fun d => some (SV.val d)) ++ List.replicate (d.names.length - ds.length) none) (L2.start d.names vs) H T0 := by
    refine ⟨sub, tape, fun i sv hi => ?_, fun i j xs ys p hij h1 _ _ => ?_, ?_⟩
    · obtain ⟨d', v, rfl, hv', rv⟩ := start_get (N := d.names) rl hi
      refine ⟨v, ?_, rv⟩
      unfold L2.start
      have hlt : i < vs.length := (List.getElem?_eq_some_iff.mp hv').1
      rw [List.getElem?_append_left (by rw [List.length_map]; exact hlt), List.getElem?_map, hv']
      rfl
    · obtain ⟨d', v, e, _⟩ := start_get (N := d.names) rl h1
      cases e
    · rw [hsl, List.length_append, List.length_map, List.length_replicate]
      omega
  refine ⟨F0, τ0, _, T0, S0, .refl sub, hsl, (Res.is_bind.mp h).mono (fun fl T1 hf => ?_) fun c T1 hc => ?_⟩
  · cases fl with
    | next σ' => exact fun F' H' τ' s' S' e' hn' => (show QD (bOf X K) false F0 H τ0 Q .non T1 from hf) .non H' F' τ' e' S'.tape .non
    | ret d' => exact fun v F' H' τ' e' t' r => (show QD (bOf X K) false F0 H τ0 Q d' T1 from hf) v H' F' τ' e' t' r
    | brk σ' => exact False.elim hf
    | cont σ' => exact False.elim hf
  · exact fun F' H' τ' s' hn' e' t' => hc H' F' τ' e' t'
theorem kept_all (C : TxC X) (KX : K.In base) (NX : base.Ns mainGlobals mg) (F : KF X K) (hp : ∀ k f, X.kn f = some true → lookD f X.T.defs = none → Kept X P w K mg base (k + 1) f (X.T.prims f)) :
    ∀ (k : Nat) (f : Str), X.kn f = some true → Kept X P w K mg base k f (callF X.T k f)
  | 0, f, _ => kept_zero f
  | k + 1, f, hf => by
    cases e : lookD f X.T.defs with
    | some d => exact kept_succ C KX NX F (fun f' hf' => kept_all C KX NX F hp k f' hf') e
    | none =>
      have e1 : callF X.T (k + 1) f = X.T.prims f := by
        funext ds
        unfold callF
        rw [e]
      rw [e1]
      exact hp k f hf e
end
end Pu

/-! Pu19: a law's end. -/
namespace Pu
open PySem PySem.Spec PyProof.Rows L2
def FnFact (X : Txt) (K : PySem.W.Frag) (f : Str) : Prop := ∃ a fd, PySem.W.nsIn K mainGlobals f = some (some (.ref a)) ∧ L2.Fun K f f (X.st f) a fd ∧ Binds K fd (X.ps f) []
theorem fnFact_mk {X : Txt} {K : PySem.W.Frag} {f : Str} {st : Stmt} {a : Addr} {oc : Value} {od an : Option Addr} {osl : Array (Option Value)} {kV doc pm cdv ct : Value} (hst : X.st f = st) (a1 : PySem.W.nsIn K mainGlobals f = some (some (.ref a)))
    (l : K.lookup a = some ⟨oc, od, .func (PySem.W.fnOf f f (defArgs st) (defBody st) (defScope st) .none kV doc pm an cdv ct), osl⟩) (c : PySem.W.codeIn K cdv f = true) (k : PySem.W.keepIn K (.ref a) = true)
    (h : ∀ (us : List Value), us.length = ((defArgs st).args.map (·.arg)).length → bindArgs (PySem.W.fnOf f f (defArgs st) (defBody st) (defScope st) .none kV doc pm an cdv ct) ⟨us, []⟩ = pure (((defArgs st).args.map (·.arg)).zip us)) : FnFact X K f := by
  have F := fun_mk (st := st) l c k
  subst hst
  exact ⟨a, _, a1, F, .all h⟩
def ExFact (K : PySem.W.Frag) (c : Str) : Prop := ∃ C, PySem.W.nsIn K mainGlobals c = some (some (.ref C)) ∧ PySem.W.keepIn K (.ref C) = true ∧ excIn0 K C ∧ PySem.W.subIn K (.ref C) (.type "BaseException") = some true ∧ PySem.W.typeIn K (.ref C) = some (.type "type")
theorem exFact_mk {K : PySem.W.Frag} {c : Str} {C : Addr} {bmB : List Value} {B newId initId : String} (F : ExcBaseFacts B newId initId bmB) (a : PySem.W.nsIn K mainGlobals c = some (some (.ref C))) (k : PySem.W.keepIn K (.ref C) = true) (q : PySem.W.excIn K C bmB newId = true)
    (b : PySem.W.subIn K (.ref C) (.type "BaseException") = some true) (t : PySem.W.typeIn K (.ref C) = some (.type "type")) : ExFact K c := ⟨C, a, k, ⟨bmB, B, newId, initId, F, q⟩, b, t⟩
/-- a constant's place: a kept tuple -/
def ctB (K : PySem.W.Frag) (x : Str) (d : D) : Prop := ∃ v u, PySem.W.nsIn K mainGlobals x = some (some u) ∧ RelV v u ∧ ∀ B : Tab, B.K = K → ∀ F τ, Rp B F τ v d
theorem ct_two {K : PySem.W.Frag} {x : Str} {a : Addr} {od : Option Addr} {i j : Int} {t1 t2 : Tok} {n : Nat} {sl : Array (Option Value)} (h : PySem.W.nsIn K mainGlobals x = some (some (.ref a))) (l : K.lookup a = some ⟨.type "tuple", od, .seq #[.int i t1, .int j t2] n, sl⟩) : ctB K x (.tup [.int i, .int j]) := by
  refine ⟨.ref a, .ref a, h, rfl, fun B hB F τ => .tup (vs := [.int i, .int j]) (.inr ?_) (.cons (.int i) (.cons (.int j) .nil))⟩
  rw [hB]
  exact ⟨_, _, _, l, rfl, rfl, by show 2 ≤ sizeLine; decide, .cons ⟨_, rfl⟩ (.cons ⟨_, rfl⟩ .nil)⟩
theorem ct_int {K : PySem.W.Frag} {x : Str} {i : Int} {t : Tok} (h : PySem.W.nsIn K mainGlobals x = some (some (.int i t))) : ctB K x (.int i) := ⟨.int i, .int i t, h, ⟨t, rfl⟩, fun B hB F τ => .int i⟩
def ExPair (K : PySem.W.Frag) (c x : Str) (b : Bool) : Prop := ∃ C D, PySem.W.nsIn K mainGlobals c = some (some (.ref C)) ∧ PySem.W.nsIn K mainGlobals x = some (some (.ref D)) ∧ PySem.W.exmOne K (.ref C) (.ref D) = some b
theorem exPair_mk {K : PySem.W.Frag} {c x : Str} {b : Bool} {C D : Addr} (h1 : PySem.W.nsIn K mainGlobals c = some (some (.ref C))) (h2 : PySem.W.nsIn K mainGlobals x = some (some (.ref D))) (hb : PySem.W.subIn K (.ref D) (.type "BaseException") = some true)
    (hi : PySem.W.isClsIn K D = true) (ht : PySem.W.typeIn K (.ref D) = some (.type "type")) (hs : PySem.W.subIn K (.ref C) (.ref D) = some b) : ExPair K c x b := by
  refine ⟨C, D, h1, h2, ?_⟩
  have hc : (PySem.W.clsIn K D).isSome = true := by
    first
      | exact hi
      | (unfold PySem.W.isClsIn at hi; exact hi)
  unfold PySem.W.exmOne PySem.W.kitCls
  rw [hb, if_pos (by simp)]
  dsimp only
  rw [hc, ht, if_pos (by simp)]
  exact hs
theorem exPair_at {X : Txt} {K : PySem.W.Frag} {c x : Str} {b : Bool} (h : ExPair K c x b) : PySem.W.exmOne K (.ref ((bOf X K).ex c)) (.ref ((bOf X K).ex x)) = some b := by
  obtain ⟨C, D, h1, h2, h3⟩ := h
  have e1 : (bOf X K).ex c = C := by unfold bOf; dsimp only; rw [h1]
  have e2 : (bOf X K).ex x = D := by unfold bOf; dsimp only; rw [h2]
  rw [e1, e2]
  exact h3
theorem law_F {X : Txt} {P : Program} {w : World} {K : PySem.W.Frag} {mg : Str → Option Value} {fa : Addr} {h : Heap} {x : Str} {k : Nat} (C : TxC X) (F : KF X K) (hp : ∀ f, X.kn f = some true → (lookD f X.T.defs).isSome = true) (KX : K.In h) (G : h.Ns mainGlobals mg)
    (hmg : mg "law" = some (.ref fa)) (hl : X.kn "law" = some true) (ps : X.ps "law" = [x]) (hb : ∀ fd, L2.Fun K "law" "law" (X.st "law") fa fd → ∀ (s : Shared) (u : Value), BindsTo s fd ⟨[u], []⟩ [(x, u)]) :
    ∃ fd : FuncData, (∀ (s : Shared) (u : Value), BindsTo s fd ⟨[u], []⟩ [(x, u)]) ∧ ∀ base : Heap, K.In base → base.Ns mainGlobals mg → FnOk P w K mg base (L2.CX P w) k fa fd [x] (spOf (bOf X K) 1 (callF X.T k "law")) := by
  obtain ⟨a, fd, h1, h2, h3⟩ := F.fn "law" hl
  have e : mg "law" = some (.ref a) := PySem.W.mg_of KX G h1
  rw [hmg] at e
  cases e
  refine ⟨fd, hb fd h2, fun base KB NB => ?_⟩
  have := (kept_all (P := P) (w := w) C KB NB F (fun k f hk e => by have := hp f hk; rw [e] at this; cases this) k "law" hl fa fd h1 h2).1
  rw [ps] at this
  exact this
theorem law_sp {X : Txt} {K : PySem.W.Frag} {k : Nat} {H : Hp} {a : Addr} {ns : List Int} (hS : SqL K H a (ns.map V.int)) {t : Tp} (h : callF X.T k "law" [.scr ns] none = .ok (.bl true) t) : spOf (bOf X K) 1 (callF X.T k "law") [.ref a] H (fun v _ => v = .bl true) fun _ _ _ => False := by
  refine ⟨rfl, H, none, [.scr ns], none, Same.refl H, trivial, .cons (.scr hS) .nil, ?_⟩
  rw [h]
  intro v H' F' τ' _ _ r
  have r : Rp (bOf X K) F' τ' v (.bl true) := r
  cases r
  rfl
theorem cx_no {P : Program} {w : World} {H : Hp} {s : Shared} {e : Value} {s' : Shared} (h : L2.CX P w [] H s (fun _ _ _ => False) e s') : False := by
  obtain ⟨_, _, _, _, _, _, _, _, _, _, _, _, z⟩ := h
  exact z
end Pu

/-! Pu20: the meaning, row by row. -/
namespace Pu
open PySem PySem.Spec PyProof.Rows L2
section
variable {G : Gam} {U : Sub} {σ : Env} {d d0 d1 d2 d3 : D} {e a b c : E} {es : Es} {r : Ss} {i j : Nat} {o : Option SV}
def endD (m : M Fl) : M D := m >>= fun fl => (match fl with
      | .next _ => pure .non
      | .ret d => pure d
      | _ => stuck : M D)
theorem end_ret (d : D) : endD (pure (.ret d)) = pure d := rfl
theorem end_next (σ : Env) : endD (pure (.next σ)) = pure .non := rfl
theorem end_bind {α : Type} (m : M α) (f : α → M Fl) : endD (m >>= f) = m >>= fun a => endD (f a) := by unfold endD; rw [M.bind_assoc]
theorem end_stuck : endD stuck = stuck := rfl
theorem end_throw (c : Str) : endD (throwD c) = throwD c := rfl
theorem end_ite {p : Prop} [Decidable p] (m n : M Fl) : endD (if p then m else n) = if p then endD m else endD n := by split <;> rfl
theorem run_df {f : Df} (ds : List D) (h : ds.length = f.arity ∧ f.arity ≤ f.names.length) : runDf G U f ds = endD (exSs G U f.body (ds.map (fun d => some (.val d)) ++ List.replicate (f.names.length - ds.length) none)) := by
  unfold runDf
  rw [if_pos h]
  rfl
/-! values -/
theorem v_slot0 : (ev G (.slot 0)).v (some (.val d) :: σ) = pure d := rfl
theorem v_slotS : (ev G (.slot (i + 1))).v (o :: σ) = (ev G (.slot i)).v σ := rfl
theorem v_peekV : (ev G (.peek 0)).v (some (.val d) :: σ) = pure d := rfl
theorem v_peekO {xs : List D} : (ev G (.peek 0)).v (some (.own xs) :: σ) = pure (.lst xs) := rfl
theorem v_peekS : (ev G (.peek (i + 1))).v (o :: σ) = (ev G (.peek i)).v σ := rfl
theorem v_non : (ev G .non).v σ = pure .non := rfl
theorem v_bl {x : Bool} : (ev G (.bl x)).v σ = pure (.bl x) := rfl
theorem v_int {x : Int} : (ev G (.int x)).v σ = pure (.int x) := rfl
theorem v_str {x : Str} : (ev G (.str x)).v σ = pure (.str x) := rfl
theorem v_const {x : Str} : (ev G (.const x)).v σ = ofOpt (G.const x) := rfl
theorem v_fn {x : Str} : (ev G (.fn x)).v σ = if G.isFn x = true then pure (.fn x) else stuck := rfl
theorem v_tup : (ev G (.tup es)).v σ = (evalEs G es σ >>= fun ds => guardD (ds.length ≤ sizeLine) (pure (.tup ds))) := rfl
theorem v_lst : (ev G (.lst es)).v σ = (evalEs G es σ >>= fun ds => guardD (ds.length ≤ sizeLine) (pure (.lst ds))) := rfl
theorem v_neg : (ev G (.neg a)).v σ = (((ev G a).v σ >>= intD) >>= fun x => pure (.int (-x))) := rfl
theorem v_nott : (ev G (.nott a)).v σ = (((ev G a).v σ >>= boolD) >>= fun x => pure (.bl (!x))) := rfl
theorem t_nott : (ev G (.nott a)).t σ = ((ev G a).t σ >>= fun x => pure (!x)) := rfl
theorem v_bin {q : Op2} : (ev G (.bin q a b)).v σ = ((ev G a).v σ >>= fun x => (ev G b).v σ >>= fun y => binD q x y) := rfl
theorem v_cmp {q : Cm} : (ev G (.cmp q a b)).v σ = ((ev G a).v σ >>= fun x => (ev G b).v σ >>= fun y => cmpD q x y) := rfl
theorem t_cmp' {q : Cm} : (ev G (.cmp q a b)).t σ = ((ev G a).v σ >>= fun x => (ev G b).v σ >>= fun y => cmpD q x y >>= boolD) := rfl
theorem v_andd : (ev G (.andd es)).v σ = evalAndV G es σ := rfl
theorem t_andd : (ev G (.andd es)).t σ = evalAndT G es σ := rfl
theorem v_orr : (ev G (.orr es)).v σ = evalOrV G es σ := rfl
theorem t_orr : (ev G (.orr es)).t σ = evalOrT G es σ := rfl
theorem v_ite : (ev G (.ite c a b)).v σ = ((ev G c).t σ >>= fun x => if x = true then (ev G a).v σ else (ev G b).v σ) := rfl
theorem v_call {f : Str} : (ev G (.call f es)).v σ = (evalEs G es σ >>= fun ds => G.call f ds) := rfl
theorem v_callv0 {f : Str} : (ev G (.callv 0 es)).v (some (.val (.fn f)) :: σ) = (evalEs G es (some (.val (.fn f)) :: σ) >>= fun ds => G.call f ds) := rfl
theorem v_callv {f : Str} (h : σ[i]? = some (some (.val (.fn f)))) : (ev G (.callv i es)).v σ = (evalEs G es σ >>= fun ds => G.call f ds) := by
  show (match σ[i]? with
    | some (some (.val (.fn f))) => (evalEs G es σ >>= fun ds => G.call f ds)
    | _ => stuck : M D) = _
  rw [h]
theorem v_prim {q : Pr} : (ev G (.prim q es)).v σ = (evalEs G es σ >>= fun ds => primD q ds) := rfl
theorem v_isi {ts : List Ty} : (ev G (.isi a ts)).v σ = ((ev G a).v σ >>= fun x => ofOpt (isTys x ts) >>= fun y => pure (.bl y)) := rfl
theorem v_idx : (ev G (.idx a b)).v σ = ((ev G a).v σ >>= fun x => (ev G b).v σ >>= fun y => idxD x y) := rfl
theorem v_slc {l h : Oe} : (ev G (.slc a l h)).v σ = ((ev G a).v σ >>= fun x => evalO G l σ >>= fun y => evalO G h σ >>= fun z => slcD x y z) := rfl
theorem v_comp {tg : P} {src : I} {cond : Oe} : (ev G (.comp e tg src cond)).v σ = (evalI G src σ >>= fun items => noExc (compM (compF G σ tg cond e) items []) >>= fun ys => pure (.lst ys)) := rfl
theorem o_non : evalO G .none σ = pure none := rfl
theorem o_som : evalO G (.some a) σ = (((ev G a).v σ >>= intD) >>= fun x => pure (some x)) := rfl
theorem c_non : evalC G .none σ = pure true := rfl
theorem c_som : evalC G (.some a) σ = (ev G a).t σ := rfl
theorem e_nil : evalEs G .nil σ = pure [] := rfl
theorem e_cons : evalEs G (.cons e es) σ = ((ev G e).v σ >>= fun d => evalEs G es σ >>= fun ds => pure (d :: ds)) := rfl
theorem av_one : evalAndV G (.cons e .nil) σ = (ev G e).v σ := rfl
theorem av_cons : evalAndV G (.cons e (.cons a es)) σ = (((ev G e).v σ >>= boolD) >>= fun x => if x = true then evalAndV G (.cons a es) σ else pure (.bl false)) := rfl
theorem ov_one : evalOrV G (.cons e .nil) σ = (ev G e).v σ := rfl
theorem ov_cons : evalOrV G (.cons e (.cons a es)) σ = (((ev G e).v σ >>= boolD) >>= fun x => if x = true then pure (.bl true) else evalOrV G (.cons a es) σ) := rfl
theorem at_nil : evalAndT G .nil σ = pure true := rfl
theorem at_cons : evalAndT G (.cons e es) σ = ((ev G e).t σ >>= fun x => if x = true then evalAndT G es σ else pure false) := rfl
theorem ot_nil : evalOrT G .nil σ = pure false := rfl
theorem ot_cons : evalOrT G (.cons e es) σ = ((ev G e).t σ >>= fun x => if x = true then pure true else evalOrT G es σ) := rfl
theorem i_seq' : evalI G (.seq a) σ = ((ev G a).v σ >>= fun d => ofOpt (seqD d)) := rfl
theorem i_rng1 : evalI G (.range1 a) σ = (((ev G a).v σ >>= intD) >>= fun j => guardD (-(2 ^ 62) ≤ j ∧ j < 2 ^ 62) (pure (rangeL 0 j.toNat))) := rfl
theorem i_rng2 : evalI G (.range2 a b) σ = (((ev G a).v σ >>= intD) >>= fun i => ((ev G b).v σ >>= intD) >>= fun j => guardD (-(2 ^ 62) ≤ i ∧ i < 2 ^ 62 ∧ -(2 ^ 62) ≤ j ∧ j < 2 ^ 62) (pure (rangeL i (j - i).toNat))) := rfl
def zipD : D → D → M (List D)
  | .lst xs, .lst ys => pure (zipL xs ys)
  | .tup xs, .tup ys => pure (zipL xs ys)
  | _, _ => stuck
theorem i_zip' : evalI G (.zip a b) σ = ((ev G a).v σ >>= fun x => (ev G b).v σ >>= fun y => zipD x y) := rfl
def enumD : D → M (List D)
  | .lst xs => pure (enumL 0 xs)
  | _ => stuck
theorem i_enum' : evalI G (.enum a) σ = ((ev G a).v σ >>= enumD) := rfl
/-! tests of leaves -/
theorem t_slot : (ev G (.slot i)).t σ = (ev G (.slot i)).v σ >>= truD := rfl
theorem t_peek : (ev G (.peek i)).t σ = (ev G (.peek i)).v σ >>= truD := rfl
theorem t_bl {x : Bool} : (ev G (.bl x)).t σ = pure x := rfl
theorem t_call {f : Str} : (ev G (.call f es)).t σ = ((ev G (.call f es)).v σ >>= truD) := rfl
theorem t_callv : (ev G (.callv i es)).t σ = ((ev G (.callv i es)).v σ >>= truD) := rfl
theorem t_prim {q : Pr} : (ev G (.prim q es)).t σ = ((ev G (.prim q es)).v σ >>= truD) := rfl
theorem t_isi {ts : List Ty} : (ev G (.isi a ts)).t σ = ((ev G (.isi a ts)).v σ >>= truD) := rfl
theorem t_idx : (ev G (.idx a b)).t σ = ((ev G (.idx a b)).v σ >>= truD) := rfl
/-! what is done -/
theorem b_addI {x y : Int} : binD .add (.int x) (.int y) = pure (.int (x + y)) := rfl
theorem b_addT {x y : List D} : binD .add (.tup x) (.tup y) = guardD (x.length + y.length ≤ sizeLine) (pure (.tup (x ++ y))) := rfl
theorem b_addL {x y : List D} : binD .add (.lst x) (.lst y) = guardD (x.length + y.length ≤ sizeLine) (pure (.lst (x ++ y))) := rfl
theorem b_subI {x y : Int} : binD .sub (.int x) (.int y) = pure (.int (x - y)) := rfl
theorem b_mulI {x y : Int} : binD .mul (.int x) (.int y) = guardD (mulOk x y) (pure (.int (x * y))) := rfl
theorem b_divI {x y : Int} : binD .fdiv (.int x) (.int y) = guardD (divOk x y = true) (pure (.int (x.fdiv y))) := rfl
theorem b_modI {x y : Int} : binD .mod (.int x) (.int y) = guardD (y ≠ 0) (pure (.int (x.fmod y))) := rfl
theorem c_lt {x y : Int} : cmpD .lt (.int x) (.int y) = pure (.bl (decide (x < y))) := rfl
theorem c_le {x y : Int} : cmpD .le (.int x) (.int y) = pure (.bl (decide (x ≤ y))) := rfl
theorem c_gt {x y : Int} : cmpD .gt (.int x) (.int y) = pure (.bl (decide (y < x))) := rfl
theorem c_ge {x y : Int} : cmpD .ge (.int x) (.int y) = pure (.bl (decide (y ≤ x))) := rfl
theorem c_eqI {x y : Int} : cmpD .eq (.int x) (.int y) = pure (.bl (x == y)) := rfl
theorem c_neI {x y : Int} : cmpD .ne (.int x) (.int y) = pure (.bl (!(x == y))) := rfl
theorem c_eqB {x y : Bool} : cmpD .eq (.bl x) (.bl y) = pure (.bl (x == y)) := rfl
theorem c_neB {x y : Bool} : cmpD .ne (.bl x) (.bl y) = pure (.bl (!(x == y))) := rfl
theorem c_isN {x : D} : cmpD .isN x .non = pure (.bl (isNon x)) := rfl
theorem c_notN {x : D} : cmpD .notN x .non = pure (.bl (!isNon x)) := rfl
theorem d_bl {x : Bool} : boolD (.bl x) = pure x := rfl
theorem d_int {x : Int} : intD (.int x) = pure x := rfl
theorem u_bl {x : Bool} : truD (.bl x) = pure x := rfl
theorem u_int {x : Int} : truD (.int x) = pure (x != 0) := rfl
theorem u_non : truD .non = pure false := rfl
theorem u_tup {x : List D} : truD (.tup x) = pure (!x.isEmpty) := rfl
theorem u_lst {x : List D} : truD (.lst x) = pure (!x.isEmpty) := rfl
theorem x_tup {x : List D} {n : Int} : idxD (.tup x) (.int n) = ofOpt (atI x n) := rfl
theorem x_lst {x : List D} {n : Int} : idxD (.lst x) (.int n) = ofOpt (atI x n) := rfl
theorem at0 {α : Type} {x : α} {xs : List α} : atI (x :: xs) 0 = some x := atI_nat (j := 0) rfl
theorem at1 {α : Type} {x y : α} {xs : List α} : atI (x :: y :: xs) 1 = some y := atI_nat (j := 1) rfl
theorem at2 {α : Type} {x y z : α} {xs : List α} : atI (x :: y :: z :: xs) 2 = some z := atI_nat (j := 2) rfl
theorem s_some {α : Type} {x : α} : (ofOpt (some x) : M α) = pure x := rfl
theorem s_none {α : Type} : (ofOpt (none : Option α) : M α) = stuck := rfl
theorem gd_pos {α : Type} {p : Prop} [Decidable p] (h : p) (m : M α) : guardD p m = m := if_pos h
theorem p_len {q : List D} : primD .len [.tup q] = pure (.int q.length) := rfl
theorem p_lenL {q : List D} : primD .len [.lst q] = pure (.int q.length) := rfl
theorem p_abs {n : Int} : primD .abs [.int n] = pure (.int (if n < 0 then -n else n)) := rfl
theorem p_int {n : Int} : primD .int [.int n] = pure (.int n) := rfl
theorem p_all {q : List D} : primD .all [.lst q] = (ofOpt (boolsD q) >>= fun bs => pure (.bl (bs.all id))) := rfl
theorem p_any {q : List D} : primD .any [.lst q] = (ofOpt (boolsD q) >>= fun bs => pure (.bl (bs.any id))) := rfl
theorem p_tupL {q : List D} : primD .tuple [.lst q] = pure (.tup q) := rfl
theorem p_tupT {q : List D} : primD .tuple [.tup q] = pure (.tup q) := rfl
theorem p_lstL {q : List D} : primD .list [.lst q] = pure (.lst q) := rfl
theorem p_lstT {q : List D} : primD .list [.tup q] = pure (.lst q) := rfl
theorem q_tup {x : List D} : seqD (.tup x) = some x := rfl
theorem q_lst {x : List D} : seqD (.lst x) = some x := rfl
theorem q_scr {x : List Int} : seqD (.scr x) = some (x.map D.int) := rfl
/-! statements -/
theorem s_nil : exSs G U .nil σ = pure (.next σ) := rfl
theorem s_wipe {is : List Nat} : exSs G U (.wipe is r) σ = exSs G U r (wipeE σ is) := rfl
theorem s_freeze : exSs G U (.freeze i r) σ = exSs G U r (freezeE σ i) := rfl
theorem s_ret : exSs G U (.cons (.ret e) r) σ = ((ev G e).v σ >>= fun d => pure (.ret d)) := by
  rw [exSs_cons]
  show ((ev G e).v σ >>= fun d => pure (Fl.ret d)) >>= _ = _
  rw [M.bind_assoc]
  rfl
theorem s_raise {x : Str} : exSs G U (.cons (.raise x) r) σ = throwD x := rfl
theorem s_pass : exSs G U (.cons .pass r) σ = exSs G U r σ := rfl
theorem s_brk : exSs G U (.cons .brk r) σ = pure (.brk σ) := rfl
theorem s_cont : exSs G U (.cons .cont r) σ = pure (.cont σ) := rfl
theorem s_set {p : P} : exSs G U (.cons (.set p e) r) σ = ((ev G e).v σ >>= fun d => bindP p d σ >>= fun σ' => exSs G U r σ') := by
  rw [exSs_cons]
  show ((ev G e).v σ >>= fun d => bindP p d σ >>= fun σ' => pure (Fl.next σ')) >>= _ = _
  rw [M.bind_assoc]
  congr 1
  funext d
  rw [M.bind_assoc]
  rfl
def ownL (i : Nat) (σ : Env) (k : Env → M Fl) : D → M Fl
  | .lst xs => k (σ.set i (some (.own xs)))
  | _ => stuck
theorem s_setOwn : exSs G U (.cons (.setOwn i e) r) σ = ((ev G e).v σ >>= ownL i σ fun σ' => exSs G U r σ') := by
  rw [exSs_cons]
  show ((ev G e).v σ >>= ownF i σ) >>= _ = _
  rw [M.bind_assoc]
  congr 1
  funext d
  cases d <;> rfl
theorem own_lst {xs : List D} {k : Env → M Fl} : ownL i σ k (.lst xs) = k (σ.set i (some (.own xs))) := rfl
theorem s_par {is : List Nat} : exSs G U (.cons (.setPar is es) r) σ = (evalEs G es σ >>= fun ds => if is.length = ds.length then exSs G U r (setsE σ is ds) else stuck) := by
  rw [exSs_cons]
  show (evalEs G es σ >>= fun ds => if is.length = ds.length then pure (Fl.next (setsE σ is ds)) else stuck) >>= _ = _
  rw [M.bind_assoc]
  congr 1
  funext ds
  split <;> rfl
def aftr (G : Gam) (U : Sub) (r : Ss) : Fl → M Fl
  | .next σ => exSs G U r σ
  | .brk σ => pure (.brk σ)
  | .cont σ => pure (.cont σ)
  | .ret d => pure (.ret d)
theorem a_next : aftr G U r (.next σ) = exSs G U r σ := rfl
theorem a_ret : aftr G U r (.ret d) = pure (.ret d) := rfl
theorem a_brk : aftr G U r (.brk σ) = pure (.brk σ) := rfl
theorem a_cont : aftr G U r (.cont σ) = pure (.cont σ) := rfl
theorem s_iff {x y : Ss} : exSs G U (.cons (.iff c x y) r) σ = ((ev G c).t σ >>= fun z => if z = true then exSs G U x σ >>= aftr G U r else exSs G U y σ >>= aftr G U r) := by
  rw [exSs_cons]
  show ((ev G c).t σ >>= fun z => if z = true then exSs G U x σ else exSs G U y σ) >>= _ = _
  rw [M.bind_assoc]
  congr 1
  funext z
  split <;> rfl
theorem s_for {tg : P} {src : I} {body : Ss} : exSs G U (.cons (.forr tg src body) r) σ = (evalI G src σ >>= fun items => forM tg (exSs G U body) items σ >>= aftr G U r) := by
  rw [exSs_cons]
  show (evalI G src σ >>= fun items => forM tg (exSs G U body) items σ) >>= _ = _
  rw [M.bind_assoc]
  rfl
theorem s_while {body : Ss} : exSs G U (.cons (.whil c body) r) σ = (whileM (ev G c).t (exSs G U body) FU σ >>= aftr G U r) := rfl
theorem s_expr : exSs G U (.cons (.expr e) r) σ = ((ev G e).v σ >>= fun _ => exSs G U r σ) := by
  rw [exSs_cons]
  show ((ev G e).v σ >>= fun d => pure (Fl.next σ)) >>= _ = _
  rw [M.bind_assoc]
  rfl
theorem s_try {body : Ss} {hs : List (Str × Lf)} : exSs G U (.cons (.tryy body hs) r) σ = (tryM U hs (exSs G U body σ) >>= aftr G U r) := rfl
def augF (G : Gam) (i : Nat) (q : Op2) (e : E) (σ : Env) (k : Env → M Fl) : Option (Option SV) → M Fl
  | some (some (.val x)) => (ev G e).v σ >>= fun y => augD q x y >>= fun z => k (σ.set i (some (.val z)))
  | _ => stuck
theorem s_aug {q : Op2} : exSs G U (.cons (.aug i q e) r) σ = augF G i q e σ (fun σ' => exSs G U r σ') σ[i]? := by
  rw [exSs_cons]
  show (match σ[i]? with
    | some (some (.val x)) => (ev G e).v σ >>= fun y => augD q x y >>= fun z => pure (Fl.next (σ.set i (some (.val z))))
    | _ => stuck : M Fl) >>= _ = _
  cases σ[i]? with
  | none => rfl
  | some o =>
    cases o with
    | none => rfl
    | some sv =>
      cases sv with
      | own xs => rfl
      | val x =>
        show ((ev G e).v σ >>= fun y => augD q x y >>= fun z => pure (Fl.next (σ.set i (some (.val z))))) >>= _ = (ev G e).v σ >>= _
        rw [M.bind_assoc]
        congr 1
        funext y
        rw [M.bind_assoc]
        rfl
theorem aug_some {q : Op2} {k : Env → M Fl} : augF G i q e σ k (some (some (.val d))) = ((ev G e).v σ >>= fun y => augD q d y >>= fun z => k (σ.set i (some (.val z)))) := rfl
theorem aug_int {q : Op2} {x y : Int} : augD q (.int x) (.int y) = binD q (.int x) (.int y) := by cases q <;> rfl
def appF (G : Gam) (i : Nat) (e : E) (σ : Env) (k : Env → M Fl) : Option (Option SV) → M Fl
  | some (some (.own xs)) => (ev G e).v σ >>= fun d => if xs.length < sizeLine then k (σ.set i (some (.own (xs ++ [d])))) else stuck
  | _ => stuck
theorem s_app : exSs G U (.cons (.app i e) r) σ = appF G i e σ (fun σ' => exSs G U r σ') σ[i]? := by
  rw [exSs_cons]
  show (match σ[i]? with
    | some (some (.own xs)) => (ev G e).v σ >>= fun d => if xs.length < sizeLine then pure (Fl.next (σ.set i (some (.own (xs ++ [d]))))) else stuck
    | _ => stuck : M Fl) >>= _ = _
  cases σ[i]? with
  | none => rfl
  | some o =>
    cases o with
    | none => rfl
    | some sv =>
      cases sv with
      | val xs => rfl
      | own xs =>
        show ((ev G e).v σ >>= fun d => if xs.length < sizeLine then pure (Fl.next (σ.set i (some (.own (xs ++ [d]))))) else stuck) >>= _ = (ev G e).v σ >>= _
        rw [M.bind_assoc]
        congr 1
        funext y
        split <;> rfl
theorem app_own {xs : List D} {k : Env → M Fl} : appF G i e σ k (some (some (.own xs))) = ((ev G e).v σ >>= fun d => if xs.length < sizeLine then k (σ.set i (some (.own (xs ++ [d])))) else stuck) := rfl
theorem p_name : bindP (.name i) d σ = pure (σ.set i (some (.val d))) := rfl
theorem p_tup {ps : List P} {ds : List D} : bindP (.tup ps) (.tup ds) σ = if ps.length = ds.length then bindPs ps ds σ else stuck := rfl
theorem ps_nil : bindPs [] [] σ = pure σ := rfl
theorem ps_cons {p : P} {ps : List P} {ds : List D} : bindPs (p :: ps) (d :: ds) σ = bindP p d σ >>= fun σ' => bindPs ps ds σ' := rfl
theorem m_ite {α β : Type} {p : Prop} [Decidable p] (m n : M α) (f : α → M β) : (if p then m else n) >>= f = if p then m >>= f else n >>= f := by split <;> rfl
end
end Pu
namespace Pu
open PySem PySem.Spec PyProof.Rows L2
section
variable {G : Gam} {U : Sub} {σ : Env} {d : D} {e a b : E} {r : Ss} {i : Nat}
def tpO (q : TpE) : Option (Option SV) → M D
  | some (some (.val d)) => tpD q d
  | _ => stuck
theorem v_tp {q : TpE} : (ev G (.tp q i)).v σ = tpO q σ[i]? := rfl
theorem tp_val {q : TpE} : tpO q (some (some (.val d))) = tpD q d := rfl
theorem tp_cell : tpD .cell .tape = pure .cells := rfl
def tputF (G : Gam) (q : TpE) (e : E) (σ : Env) (k : M Fl) : Option (Option SV) → M Fl
  | some (some (.val d)) => ((ev G e).v σ >>= intD) >>= fun n => tputD q d n >>= fun _ => k
  | _ => stuck
theorem s_tput {q : TpE} : exSs G U (.cons (.tput q i e) r) σ = tputF G q e σ (exSs G U r σ) σ[i]? := by
  rw [exSs_cons]
  show (match σ[i]? with
    | some (some (.val d)) => ((ev G e).v σ >>= intD) >>= fun n => tputD q d n >>= fun _ => pure (Fl.next σ)
    | _ => stuck : M Fl) >>= _ = _
  cases σ[i]? with
  | none => rfl
  | some o =>
    cases o with
    | none => rfl
    | some sv =>
      cases sv with
      | own xs => rfl
      | val d =>
        show (((ev G e).v σ >>= intD) >>= fun n => tputD q d n >>= fun _ => pure (Fl.next σ)) >>= _ = ((ev G e).v σ >>= intD) >>= _
        rw [M.bind_assoc]
        congr 1
        funext n
        rw [M.bind_assoc]
        rfl
theorem tput_val {q : TpE} {k : M Fl} : tputF G q e σ k (some (some (.val d))) = (((ev G e).v σ >>= intD) >>= fun n => tputD q d n >>= fun _ => k) := rfl
def tpopF (k : M Fl) : Option (Option SV) → M Fl
  | some (some (.val d)) => tpopD d >>= fun _ => k
  | _ => stuck
theorem s_tpop : exSs G U (.cons (.tpop i) r) σ = tpopF (exSs G U r σ) σ[i]? := by
  rw [exSs_cons]
  show (match σ[i]? with
    | some (some (.val d)) => tpopD d >>= fun _ => pure (Fl.next σ)
    | _ => stuck : M Fl) >>= _ = _
  cases σ[i]? with
  | none => rfl
  | some o =>
    cases o with
    | none => rfl
    | some sv =>
      cases sv with
      | own xs => rfl
      | val d =>
        show (tpopD d >>= fun _ => pure (Fl.next σ)) >>= _ = _
        rw [M.bind_assoc]
        rfl
theorem tpop_val {k : M Fl} : tpopF k (some (some (.val d))) = (tpopD d >>= fun _ => k) := rfl
def tnewF (k : List D → M Fl) : D → M Fl
  | .lst xs => k xs
  | _ => stuck
theorem s_tnew : exSs G U (.cons (.tnew a b) r) σ = ((ev G a).v σ >>= tnewF fun xs => (ev G b).v σ >>= fun y => tnewD (.lst xs) y >>= fun _ => pure (.ret .tape)) := by
  rw [exSs_cons]
  show ((ev G a).v σ >>= fun x => (match x with
    | .lst xs => (ev G b).v σ >>= fun y => tnewD (.lst xs) y >>= fun _ => pure (.ret .tape)
    | _ => stuck : M Fl)) >>= _ = _
  rw [M.bind_assoc]
  congr 1
  funext x
  cases x with
  | lst xs =>
    show ((ev G b).v σ >>= fun y => tnewD (.lst xs) y >>= fun _ => pure (Fl.ret .tape)) >>= _ = (ev G b).v σ >>= _
    rw [M.bind_assoc]
    congr 1
    funext y
    rw [M.bind_assoc]
    rfl
  | _ => rfl
theorem tnew_lst {k : List D → M Fl} {xs : List D} : tnewF k (.lst xs) = k xs := rfl
end
/-! at a state of the tape -/
theorem z_pure {α : Type} (x : α) (t : Tp) : (pure x : M α) t = .ok x t := rfl
theorem z_seed {c : List Int} {s : Int} : tpD .seed .tape (some (c, s)) = .ok (.int s) (some (c, s)) := rfl
theorem z_head {n : Int} {c : List Int} {s : Int} : tpD .head .cells (some (n :: c, s)) = .ok (.int n) (some (n :: c, s)) := rfl
theorem z_len {c : List Int} {s : Int} : tpD .len .cells (some (c, s)) = .ok (.int c.length) (some (c, s)) := rfl
theorem z_pseed {c : List Int} {s n : Int} : tputD .seed .tape n (some (c, s)) = .ok () (some (c, n)) := rfl
theorem z_phead {m n : Int} {c : List Int} {s : Int} : tputD .head .cells n (some (m :: c, s)) = .ok () (some (n :: c, s)) := rfl
theorem z_pop {n : Int} {c : List Int} {s : Int} : tpopD .cells (some (n :: c, s)) = .ok () (some (c, s)) := rfl
end Pu

/-! Pu21: loops, sizes, fractions. -/
namespace Pu
open PySem PySem.Spec PyProof.Rows L2
section
variable {α β : Type}
theorem is_pure {a : α} {t : Tp} {Q : α → Tp → Prop} {E : Str → Tp → Prop} (h : Q a t) : ((pure a : M α) t).is Q E := h
theorem is_run {m : M α} {t : Tp} {Q : α → Tp → Prop} (h : (m t).is Q fun _ _ => False) : ∃ a t', m t = .ok a t' ∧ Q a t' := by
  cases q : m t with
  | ok a t' => rw [q] at h; exact ⟨a, t', rfl, h⟩
  | exc c t' => rw [q] at h; exact False.elim h
  | stuck => rw [q] at h; exact False.elim h
theorem is_of {m : M α} {t t' : Tp} {a : α} {Q : α → Tp → Prop} {E : Str → Tp → Prop} (e : m t = .ok a t') (h : Q a t') : (m t).is Q E := by rw [e]; exact h
theorem is_seq {m : M α} {f : α → M β} {t : Tp} {Q : β → Tp → Prop} {E : Str → Tp → Prop} (h : (m t).is (fun a t1 => (f a t1).is Q E) E) : ((m >>= f) t).is Q E := Res.is_bind.mpr h
/-! ### loops -/
theorem while_step {c : Env → M Bool} {b : Env → M Fl} {n : Nat} {σ : Env} : whileM c b (n + 1) σ = (c σ >>= fun x => if x = true then b σ >>= fun f => (match f with
      | .next σ2 => whileM c b n σ2
      | .cont σ2 => whileM c b n σ2
      | .brk σ2 => pure (.next σ2)
      | .ret d => pure (.ret d)) else pure (.next σ)) := rfl
theorem while_stop {c : Env → M Bool} {b : Env → M Fl} {n : Nat} {σ : Env} (h : c σ = pure false) : whileM c b (n + 1) σ = pure (.next σ) := by rw [while_step, h]; rfl
theorem while_go {c : Env → M Bool} {b : Env → M Fl} {n : Nat} {σ σ' : Env} (h : c σ = pure true) (hb : b σ = pure (.next σ')) : whileM c b (n + 1) σ = whileM c b n σ' := by rw [while_step, h, M.pure_bind, if_pos rfl, hb]; rfl
/-- while, by an invariant and a measure -/
theorem while_is {c : Env → M Bool} {b : Env → M Fl} (I : Env → Tp → Prop) (μ : Env → Tp → Nat) {Q : Fl → Tp → Prop} {E : Str → Tp → Prop}
    (hs : ∀ σ t, I σ t → (c σ t).is (fun x t1 => if x = true then (b σ t1).is (fun fl t2 => match fl with
      | .next σ' => I σ' t2 ∧ μ σ' t2 < μ σ t
      | .cont σ' => I σ' t2 ∧ μ σ' t2 < μ σ t
      | .brk σ' => Q (.next σ') t2
      | .ret d => Q (.ret d) t2) E else Q (.next σ) t1) E) : ∀ (n : Nat) (σ : Env) (t : Tp), I σ t → μ σ t < n → (whileM c b n σ t).is Q E
  | 0, σ, t, _, h => absurd h (Nat.not_lt_zero _)
  | n + 1, σ, t, hI, hn => by
    rw [while_step]
    refine is_seq ((hs σ t hI).mono (fun x t1 h => ?_) fun _ _ z => z)
    cases x with
    | false =>
      rw [if_neg Bool.false_ne_true] at h ⊢
      exact h
    | true =>
      rw [if_pos rfl] at h ⊢
      refine is_seq (h.mono (fun fl t2 h2 => ?_) fun _ _ z => z)
      cases fl with
      | next σ' => exact while_is I μ hs n σ' t2 h2.1 (by have := h2.2; omega)
      | cont σ' => exact while_is I μ hs n σ' t2 h2.1 (by have := h2.2; omega)
      | brk σ' => exact h2
      | ret d => exact h2
theorem forM_is {tg : P} {body : Env → M Fl} {Q : Fl → Tp → Prop} {E : Str → Tp → Prop} (xs : List D) (I : List D → Env → Tp → Prop)
    (hs : ∀ x r σ t, I (x :: r) σ t → ((bindP tg x σ >>= body) t).is (fun fl t' => match fl with
      | .next σ' => I r σ' t'
      | .cont σ' => I r σ' t'
      | .brk σ' => Q (.next σ') t'
      | .ret d => Q (.ret d) t') E) (he : ∀ σ t, I [] σ t → Q (.next σ) t) : ∀ σ t, I xs σ t → (forM tg body xs σ t).is Q E := by
  induction xs with
  | nil => exact fun σ t h => he σ t h
  | cons x r ih =>
    intro σ t h
    rw [forM_cons, ← M.bind_assoc]
    refine is_seq ((hs x r σ t h).mono (fun fl t' h' => ?_) fun _ _ z => z)
    cases fl with
    | next σ' => exact ih σ' t' h'
    | cont σ' => exact ih σ' t' h'
    | brk σ' => exact h'
    | ret d => exact h'
theorem compM_map {f : D → M (Option D)} (g : D → D) : ∀ (xs acc : List D), (∀ x ∈ xs, f x = pure (some (g x))) → acc.length + xs.length ≤ sizeLine → compM f xs acc = pure (acc ++ xs.map g)
  | [], acc, _, _ => by unfold compM; rw [List.map_nil, List.append_nil]
  | x :: xs, acc, h, hl => by
    unfold compM
    rw [h x List.mem_cons_self, M.pure_bind]
    rw [List.length_cons] at hl
    dsimp only
    rw [if_pos (by omega), compM_map g xs _ (fun y hy => h y (List.mem_cons_of_mem _ hy)) (by rw [List.length_append, List.length_cons, List.length_nil]; omega)]
    rw [List.append_assoc]
    rfl
theorem compM_map0 {f : D → M (Option D)} (g : D → D) (xs : List D) (h : ∀ x ∈ xs, f x = pure (some (g x))) (hl : xs.length ≤ sizeLine) : compM f xs [] = pure (xs.map g) := by
  rw [compM_map g xs [] h (by rw [List.length_nil]; omega), List.nil_append]
theorem bools_map {α : Type} {g : α → Bool} : ∀ {xs : List α}, boolsD (xs.map fun x => D.bl (g x)) = some (xs.map g)
  | [] => rfl
  | x :: xs => by
    rw [List.map_cons, List.map_cons]
    show (boolsD (xs.map fun x => D.bl (g x))).map (g x :: ·) = _
    rw [bools_map]; rfl
/-! ### sizes -/
def Bd (n : Nat) (x : Int) : Prop := x.natAbs < 2 ^ n
theorem Bd.mono {n m : Nat} {x : Int} (h : Bd n x) (hn : n ≤ m) : Bd m x := Nat.lt_of_lt_of_le h (Nat.pow_le_pow_right (by decide) hn)
theorem Bd.mul {n m : Nat} {x y : Int} (h : Bd n x) (h' : Bd m y) : Bd (n + m) (x * y) := by
  unfold Bd at *
  rw [Int.natAbs_mul, Nat.pow_add]
  exact Nat.mul_lt_mul'' h h'
theorem Bd.add {n : Nat} {x y : Int} (h : Bd n x) (h' : Bd n y) : Bd (n + 1) (x + y) := by
  unfold Bd at *
  have := Int.natAbs_add_le x y
  rw [Nat.pow_succ]
  omega
theorem Bd.neg {n : Nat} {x : Int} (h : Bd n x) : Bd n (-x) := by unfold Bd at *; rw [Int.natAbs_neg]; exact h
theorem Bd.sub {n : Nat} {x y : Int} (h : Bd n x) (h' : Bd n y) : Bd (n + 1) (x - y) := by rw [Int.sub_eq_add_neg]; exact h.add h'.neg
theorem Bd.bits {n : Nat} {x : Int} (h : Bd n x) : Builtin.Int.intBits x ≤ n := by
  unfold Builtin.Int.intBits
  split
  · exact Nat.zero_le _
  · rename_i hx
    have hx : x.natAbs ≠ 0 := by simpa using hx
    exact (Nat.log2_lt hx).mpr h
theorem Bd.mulOk {x y : Int} (h : Bd 60000000 x) (h' : Bd 60000000 y) : Pu.mulOk x y := IntMulOk.of_le h.bits h'.bits (by decide)
theorem mulOk_l {x y : Int} (h : Bd 64 x) : Pu.mulOk x y := IntMulOk.of_left h.bits
theorem mulOk_r {x y : Int} (h : Bd 64 y) : Pu.mulOk x y := IntMulOk.of_right h.bits
theorem Bd.divOk {x y : Int} (h : Bd 9000 y) (h0 : y ≠ 0) : Pu.divOk x y = true := by
  unfold Pu.divOk
  rw [decide_eq_true h0, PyProof.noPylong_of_log2, Bool.not_false, Bool.and_true]
  by_cases hz : y.natAbs = 0
  · rw [hz]; decide
  · exact (Nat.log2_lt hz).mpr h
/-! ### fractions -/
def qD (r : Rat) : D := .tup [.int r.num, .int r.den]
end
end Pu
namespace Pu
open PySem PySem.Spec PyProof.Rows L2
theorem compM_onA {α : Type} {f : D → M (Option D)} (h g : α → D) : ∀ (xs : List α) (acc : List D), (∀ x ∈ xs, f (h x) = pure (some (g x))) → acc.length + xs.length ≤ sizeLine → compM f (xs.map h) acc = pure (acc ++ xs.map g)
  | [], acc, _, _ => by unfold compM; rw [List.map_nil, List.map_nil, List.append_nil]
  | x :: xs, acc, hf, hl => by
    rw [List.map_cons]
    unfold compM
    rw [hf x List.mem_cons_self, M.pure_bind]
    rw [List.length_cons] at hl
    dsimp only
    rw [if_pos (by omega), compM_onA h g xs _ (fun y hy => hf y (List.mem_cons_of_mem _ hy)) (by rw [List.length_append, List.length_cons, List.length_nil]; omega)]
    rw [List.append_assoc]
    rfl
theorem compM_on {α : Type} {f : D → M (Option D)} (h g : α → D) (xs : List α) (hf : ∀ x ∈ xs, f (h x) = pure (some (g x))) (hl : xs.length ≤ sizeLine) : compM f (xs.map h) [] = pure (xs.map g) := by
  rw [compM_onA h g xs [] hf (by rw [List.length_nil]; omega), List.nil_append]
/-- all the items are told true -/
theorem compM_true {f : D → M (Option D)} (xs : List D) (hf : ∀ x ∈ xs, f x = pure (some (.bl true))) (hl : xs.length ≤ sizeLine) : compM f xs [] = pure (xs.map fun _ => D.bl true) := compM_map0 (fun _ => D.bl true) xs hf hl
theorem all_true {α : Type} (xs : List α) : boolsD (xs.map fun _ => D.bl true) = some (xs.map fun _ => true) := bools_map (g := fun _ => true)
theorem all_id {α : Type} (xs : List α) : (xs.map fun _ => true).all id = true := by
  rw [List.all_eq_true]
  intro b hb
  obtain ⟨x, _, rfl⟩ := List.mem_map.mp hb
  rfl
theorem zipL_map {α : Type} (f g : α → D) : ∀ xs : List α, zipL (xs.map f) (xs.map g) = xs.map fun x => D.tup [f x, g x]
  | [] => rfl
  | x :: xs => by
    rw [List.map_cons, List.map_cons, List.map_cons]
    unfold zipL
    rw [zipL_map f g xs]
end Pu

/-! Pu22: fractions in lowest terms. -/
namespace Pu
open PySem PySem.Spec PyProof.Rows L2
theorem sgn_neg {b : Int} (h : b < 0) : b.sign = -1 := Int.sign_eq_neg_one_of_neg h
theorem sgn_pos {b : Int} (h : 0 < b) : b.sign = 1 := Int.sign_eq_one_of_pos h
theorem gcd_ne {a b : Int} (hb : b ≠ 0) : ((Int.gcd a b : Nat) : Int) ≠ 0 := by
  intro h
  have : Int.gcd a b = 0 := by omega
  exact hb (Int.gcd_eq_zero_iff.mp this).2
theorem mk_pos {a b : Int} (hb : 0 < b) : a.fdiv (Int.gcd a b) = (Rat.divInt a b).num ∧ b.fdiv (Int.gcd a b) = ((Rat.divInt a b).den : Int) := by
  have hg := gcd_ne (a := a) (b := b) (by omega)
  have hg0 : (0 : Int) ≤ Int.gcd a b := Int.natCast_nonneg _
  rw [Rat.num_divInt, Rat.den_divInt, if_neg (by omega), sgn_pos hb, Int.one_mul, Int.gcd_comm b a]
  refine ⟨Int.fdiv_eq_ediv_of_nonneg _ hg0, ?_⟩
  rw [Int.fdiv_eq_ediv_of_nonneg _ hg0, Int.natCast_ediv, Int.natAbs_of_nonneg (by omega)]
theorem mk_neg {a b : Int} (hb : b < 0) : a.fdiv (-(Int.gcd a b : Int)) = (Rat.divInt a b).num ∧ b.fdiv (-(Int.gcd a b : Int)) = ((Rat.divInt a b).den : Int) := by
  have hg := gcd_ne (a := a) (b := b) (by omega)
  obtain ⟨m, hm⟩ : ((Int.gcd a b : Nat) : Int) ∣ a := Int.gcd_dvd_left a b
  obtain ⟨l, hl⟩ : ((Int.gcd a b : Nat) : Int) ∣ b := Int.gcd_dvd_right a b
  rw [Rat.num_divInt, Rat.den_divInt, if_neg (by omega), sgn_neg hb, Int.gcd_comm b a]
  generalize hG : ((Int.gcd a b : Nat) : Int) = g at *
  have e1 : a = (-g) * (-m) := by rw [hm]; grind
  have e2 : b = (-g) * (-l) := by rw [hl]; grind
  have hg' : -g ≠ 0 := by omega
  constructor
  · have e3 : -1 * a = g * (-m) := by rw [hm]; grind
    rw [e3, Int.mul_ediv_cancel_left _ hg]
    conv => lhs; rw [e1]
    exact Int.mul_fdiv_cancel_left _ hg'
  · have e3 : (b.natAbs : Int) = g * (-l) := by
      have : (b.natAbs : Int) = -b := by omega
      rw [this, hl]; grind
    rw [Int.natCast_ediv, hG, e3, Int.mul_ediv_cancel_left _ hg]
    conv => lhs; rw [e2]
    exact Int.mul_fdiv_cancel_left _ hg'
theorem bd_gcd {n : Nat} {a b : Int} (hb : b ≠ 0) (h : Bd n b) : Bd n (Int.gcd a b) := by
  unfold Bd at *
  have : Int.gcd a b ≤ b.natAbs := Nat.le_of_dvd (by omega) (Int.gcd_dvd_natAbs_right a b)
  rw [Int.natAbs_natCast]
  omega
/-- the parts of a fraction in lowest terms are no longer -/
theorem bd_divInt {n m : Nat} {a b : Int} (hb : b ≠ 0) (ha : Bd n a) (h : Bd m b) : Bd n (Rat.divInt a b).num ∧ Bd m (Rat.divInt a b).den := by
  rw [Rat.num_divInt, Rat.den_divInt, if_neg hb]
  unfold Bd at *
  constructor
  · refine Nat.lt_of_le_of_lt ?_ ha
    refine Nat.le_trans (Int.natAbs_ediv_le_natAbs _ _) ?_
    rw [Int.natAbs_mul]
    rcases Int.lt_or_gt_of_ne hb with z | z
    · rw [sgn_neg z]; simp
    · rw [sgn_pos z]; simp
  · rw [Int.natAbs_natCast]
    exact Nat.lt_of_le_of_lt (Nat.div_le_self _ _) h
theorem den_pos (r : Rat) : (0 : Int) < r.den := by have := r.den_pos; omega
theorem rat_eq (r : Rat) : Rat.divInt r.num r.den = r := Rat.num_divInt_den r
end Pu

/-! the terms of the defs -/
namespace K00
open PySem PySem.Spec PyProof.Rows L2 Pu
def df_is_integer : Df := ⟨["value"], 1, (.cons (.ret (.andd (.cons (.isi (.slot 0) [.int]) (.cons (.nott (.isi (.slot 0) [.bool])) .nil))))
.nil)⟩
def df_is_ratio : Df := ⟨["value", "item"], 1, (.cons (.iff (.orr (.cons (.nott (.isi (.slot 0) [.tuple])) (.cons (.cmp .ne (.prim .len (.cons (.slot 0) .nil)) (.int 2)) (.cons (.nott (.prim .all (.cons (.comp (.call "is_integer" (.cons (.slot 1) .nil)) (.name 1) (.seq (.slot 0)) .none) .nil))) .nil))))
(.cons (.ret (.bl false))
.nil)
.nil)
(.cons (.ret (.andd (.cons (.cmp .gt (.idx (.slot 0) (.int 1)) (.int 0)) (.cons (.cmp .eq (.call "divisor" (.cons (.idx (.slot 0) (.int 0)) (.cons (.idx (.slot 0) (.int 1)) .nil))) (.int 1)) .nil))))
.nil))⟩
def df_divisor : Df := ⟨["one", "other"], 2, (.cons (.setPar [0, 1] (.cons (.prim .abs (.cons (.slot 0) .nil)) (.cons (.prim .abs (.cons (.slot 1) .nil)) .nil)))
(.cons (.whil (.cmp .gt (.slot 1) (.int 0))
(.cons (.setPar [0, 1] (.cons (.slot 1) (.cons (.bin .mod (.slot 0) (.slot 1)) .nil)))
.nil))
(.cons (.ret (.slot 0))
.nil)))⟩
def df_make : Df := ⟨["above", "below", "common"], 2, (.cons (.iff (.cmp .eq (.slot 1) (.int 0))
(.cons (.raise "BadNumber")
.nil)
.nil)
(.cons (.set (.name 2) (.call "divisor" (.cons (.slot 0) (.cons (.slot 1) .nil))))
(.cons (.iff (.cmp .lt (.slot 1) (.int 0))
(.cons (.set (.name 2) (.neg (.slot 2)))
.nil)
.nil)
(.cons (.ret (.tup (.cons (.bin .fdiv (.slot 0) (.slot 2)) (.cons (.bin .fdiv (.slot 1) (.slot 2)) .nil))))
.nil))))⟩
def df_of : Df := ⟨["integer"], 1, (.cons (.ret (.tup (.cons (.slot 0) (.cons (.int 1) .nil))))
.nil)⟩
def df_add : Df := ⟨["one", "other"], 2, (.cons (.ret (.call "make" (.cons (.bin .add (.bin .mul (.idx (.slot 0) (.int 0)) (.idx (.slot 1) (.int 1))) (.bin .mul (.idx (.slot 1) (.int 0)) (.idx (.slot 0) (.int 1)))) (.cons (.bin .mul (.idx (.slot 0) (.int 1)) (.idx (.slot 1) (.int 1))) .nil))))
.nil)⟩
def df_subtract : Df := ⟨["one", "other"], 2, (.cons (.ret (.call "make" (.cons (.bin .sub (.bin .mul (.idx (.slot 0) (.int 0)) (.idx (.slot 1) (.int 1))) (.bin .mul (.idx (.slot 1) (.int 0)) (.idx (.slot 0) (.int 1)))) (.cons (.bin .mul (.idx (.slot 0) (.int 1)) (.idx (.slot 1) (.int 1))) .nil))))
.nil)⟩
def df_multiply : Df := ⟨["one", "other"], 2, (.cons (.ret (.call "make" (.cons (.bin .mul (.idx (.slot 0) (.int 0)) (.idx (.slot 1) (.int 0))) (.cons (.bin .mul (.idx (.slot 0) (.int 1)) (.idx (.slot 1) (.int 1))) .nil))))
.nil)⟩
def df_divide : Df := ⟨["one", "other"], 2, (.cons (.iff (.cmp .eq (.idx (.slot 1) (.int 0)) (.int 0))
(.cons (.raise "BadNumber")
.nil)
.nil)
(.cons (.ret (.call "make" (.cons (.bin .mul (.idx (.slot 0) (.int 0)) (.idx (.slot 1) (.int 1))) (.cons (.bin .mul (.idx (.slot 0) (.int 1)) (.idx (.slot 1) (.int 0))) .nil))))
.nil))⟩
def df_power : Df := ⟨["number", "exponent", "found"], 2, (.cons (.iff (.cmp .lt (.slot 1) (.int 0))
(.cons (.ret (.call "power" (.cons (.call "divide" (.cons (.const "ONE") (.cons (.slot 0) .nil))) (.cons (.neg (.slot 1)) .nil))))
.nil)
.nil)
(.cons (.set (.name 2) (.const "ONE"))
(.cons (.whil (.cmp .gt (.slot 1) (.int 0))
(.cons (.iff (.cmp .eq (.bin .mod (.slot 1) (.int 2)) (.int 1))
(.cons (.set (.name 2) (.call "multiply" (.cons (.slot 2) (.cons (.slot 0) .nil))))
.nil)
.nil)
(.cons (.set (.name 0) (.call "multiply" (.cons (.slot 0) (.cons (.slot 0) .nil))))
(.cons (.aug 1 .fdiv (.int 2))
.nil))))
(.cons (.ret (.slot 2))
.nil))))⟩
def df_less : Df := ⟨["one", "other"], 2, (.cons (.ret (.cmp .lt (.bin .mul (.idx (.slot 0) (.int 0)) (.idx (.slot 1) (.int 1))) (.bin .mul (.idx (.slot 1) (.int 0)) (.idx (.slot 0) (.int 1)))))
.nil)⟩
def df_negative : Df := ⟨["number"], 1, (.cons (.ret (.tup (.cons (.neg (.idx (.slot 0) (.int 0))) (.cons (.idx (.slot 0) (.int 1)) .nil))))
.nil)⟩
def df_sign : Df := ⟨["number"], 1, (.cons (.ret (.ite (.cmp .gt (.idx (.slot 0) (.int 0)) (.int 0)) (.int 1) (.ite (.cmp .lt (.idx (.slot 0) (.int 0)) (.int 0)) (.neg (.int 1)) (.int 0))))
.nil)⟩
def df_total : Df := ⟨["numbers", "found", "number"], 1, (.cons (.set (.name 1) (.const "ZERO"))
(.cons (.forr (.name 2) (.seq (.slot 0))
(.cons (.set (.name 1) (.call "add" (.cons (.slot 1) (.cons (.slot 2) .nil))))
(.wipe [2] .nil)))
(.cons (.ret (.slot 1))
.nil)))⟩
def df_dot : Df := ⟨["one", "other", "found", "left", "right"], 2, (.cons (.set (.name 2) (.const "ZERO"))
(.cons (.forr (.tup [(.name 3), (.name 4)]) (.zip (.slot 0) (.slot 1))
(.cons (.set (.name 2) (.call "add" (.cons (.slot 2) (.cons (.call "multiply" (.cons (.slot 3) (.cons (.slot 4) .nil))) .nil))))
(.wipe [3, 4] .nil)))
(.cons (.ret (.slot 2))
.nil)))⟩
def df__law_tape : Df := ⟨["script", "seed", "cell"], 1, (.cons (.set (.name 1) (.int 7))
(.cons (.forr (.name 2) (.seq (.slot 0))
(.cons (.set (.name 1) (.bin .mod (.prim .int (.cons (.bin .add (.bin .mul (.slot 1) (.int 31)) (.slot 2)) .nil)) (.int 1000003)))
(.wipe [2] .nil)))
(.cons (.tnew (.comp (.prim .abs (.cons (.prim .int (.cons (.slot 2) .nil)) .nil)) (.name 2) (.seq (.slot 0)) .none) (.bin .add (.slot 1) (.int 1)))
.nil)))⟩
def df__law_draw : Df := ⟨["tape", "many", "cells", "number"], 2, (.cons (.set (.name 2) (.tp .cell 0))
(.cons (.whil (.andd (.cons (.cmp .gt (.tp .len 2) (.int 0)) (.cons (.cmp .eq (.tp .head 2) (.int 0)) .nil)))
(.cons (.tpop 2)
.nil))
(.cons (.iff (.cmp .gt (.tp .len 2) (.int 0))
(.cons (.set (.name 3) (.tp .head 2))
(.cons (.tput .head 2 (.bin .fdiv (.slot 3) (.slot 1)))
(.cons (.ret (.bin .mod (.prim .int (.cons (.slot 3) .nil)) (.slot 1)))
.nil)))
.nil)
(.cons (.tput .seed 0 (.bin .mod (.prim .int (.cons (.bin .add (.bin .mul (.tp .seed 0) (.int 48271)) (.int 12345)) .nil)) (.int 2147483647)))
(.cons (.ret (.bin .mod (.prim .int (.cons (.bin .fdiv (.tp .seed 0) (.int 64)) .nil)) (.slot 1)))
.nil)))))⟩
def df__law_same : Df := ⟨["actual", "due", "k"], 2, (.cons (.iff (.cmp .isN (.slot 1) .non)
(.cons (.ret (.cmp .isN (.slot 0) .non))
.nil)
.nil)
(.cons (.iff (.isi (.slot 1) [.bool])
(.cons (.ret (.andd (.cons (.isi (.slot 0) [.bool]) (.cons (.cmp .eq (.slot 0) (.slot 1)) .nil))))
.nil)
.nil)
(.cons (.iff (.isi (.slot 1) [.tuple, .list])
(.cons (.iff (.orr (.cons (.cmp .ne (.isi (.slot 1) [.tuple]) (.isi (.slot 0) [.tuple])) (.cons (.cmp .ne (.isi (.slot 1) [.list]) (.isi (.slot 0) [.list])) .nil)))
(.cons (.ret (.bl false))
.nil)
.nil)
(.cons (.ret (.andd (.cons (.cmp .eq (.prim .len (.cons (.slot 0) .nil)) (.prim .len (.cons (.slot 1) .nil))) (.cons (.prim .all (.cons (.comp (.call "_law_same" (.cons (.idx (.slot 0) (.slot 2)) (.cons (.idx (.slot 1) (.slot 2)) .nil))) (.name 2) (.range1 (.prim .len (.cons (.slot 1) .nil))) .none) .nil)) .nil))))
.nil))
.nil)
(.cons (.iff (.isi (.slot 1) [.str])
(.cons (.ret (.andd (.cons (.isi (.slot 0) [.str]) (.cons (.cmp .eq (.slot 0) (.slot 1)) .nil))))
.nil)
.nil)
(.cons (.ret (.andd (.cons (.isi (.slot 0) [.int]) (.cons (.nott (.isi (.slot 0) [.bool])) (.cons (.cmp .eq (.slot 0) (.slot 1)) .nil)))))
.nil)))))⟩
def df__law_whole : Df := ⟨["tape", "kind", "number", "turn"], 1, (.cons (.set (.name 1) (.call "_law_draw" (.cons (.slot 0) (.cons (.int 4) .nil))))
(.cons (.iff (.cmp .eq (.slot 1) (.int 0))
(.cons (.ret (.bin .sub (.call "_law_draw" (.cons (.slot 0) (.cons (.int 7) .nil))) (.int 3)))
.nil)
.nil)
(.cons (.iff (.cmp .eq (.slot 1) (.int 1))
(.cons (.ret (.bin .sub (.call "_law_draw" (.cons (.slot 0) (.cons (.int 2001) .nil))) (.int 1000)))
.nil)
.nil)
(.cons (.set (.name 2) (.int 1))
(.cons (.forr (.name 3) (.range1 (.bin .mul (.int 2) (.slot 1)))
(.cons (.set (.name 2) (.bin .add (.bin .mul (.slot 2) (.int 1009)) (.call "_law_draw" (.cons (.slot 0) (.cons (.int 1009) .nil)))))
(.wipe [3] .nil)))
(.cons (.ret (.ite (.cmp .eq (.call "_law_draw" (.cons (.slot 0) (.cons (.int 2) .nil))) (.int 0)) (.slot 2) (.neg (.slot 2))))
.nil))))))⟩
def df__law_shared : Df := ⟨["one", "other"], 2, (.cons (.setPar [0, 1] (.cons (.prim .abs (.cons (.slot 0) .nil)) (.cons (.prim .abs (.cons (.slot 1) .nil)) .nil)))
(.cons (.whil (.cmp .gt (.slot 1) (.int 0))
(.cons (.setPar [0, 1] (.cons (.slot 1) (.cons (.bin .mod (.slot 0) (.slot 1)) .nil)))
.nil))
(.cons (.ret (.slot 0))
.nil)))⟩
def df__law_is : Df := ⟨["told", "above", "below", "item"], 3, (.cons (.iff (.orr (.cons (.nott (.isi (.slot 0) [.tuple])) (.cons (.cmp .ne (.prim .len (.cons (.slot 0) .nil)) (.int 2)) (.cons (.nott (.prim .all (.cons (.comp (.andd (.cons (.isi (.slot 3) [.int]) (.cons (.nott (.isi (.slot 3) [.bool])) .nil))) (.name 3) (.seq (.slot 0)) .none) .nil))) .nil))))
(.cons (.ret (.bl false))
.nil)
.nil)
(.cons (.ret (.andd (.cons (.cmp .gt (.idx (.slot 0) (.int 1)) (.int 0)) (.cons (.cmp .eq (.call "_law_shared" (.cons (.idx (.slot 0) (.int 0)) (.cons (.idx (.slot 0) (.int 1)) .nil))) (.int 1)) (.cons (.cmp .eq (.bin .mul (.idx (.slot 0) (.int 0)) (.slot 2)) (.bin .mul (.slot 1) (.idx (.slot 0) (.int 1)))) .nil)))))
.nil))⟩
def df__law_refused : Df := ⟨["do", "one", "other"], 3, (.cons (.tryy (.cons (.expr (.callv 0 (.cons (.slot 1) (.cons (.slot 2) .nil))))
.nil) [("BadNumber", .bl true)])
(.cons (.ret (.bl false))
.nil))⟩
def df__law_powers : Df := ⟨["one", "above", "below", "exponent"], 1, (.cons (.set (.tup [(.name 1), (.name 2)]) (.tup (.cons (.int 1) (.cons (.int 1) .nil))))
(.cons (.forr (.name 3) (.range1 (.int 6))
(.cons (.iff (.nott (.call "_law_is" (.cons (.call "power" (.cons (.slot 0) (.cons (.slot 3) .nil))) (.cons (.slot 1) (.cons (.slot 2) .nil)))))
(.cons (.ret (.bl false))
.nil)
.nil)
(.cons (.iff (.andd (.cons (.cmp .eq (.idx (.slot 0) (.int 0)) (.int 0)) (.cons (.cmp .gt (.slot 3) (.int 0)) .nil)))
(.cons (.iff (.nott (.call "_law_refused" (.cons (.fn "power") (.cons (.slot 0) (.cons (.neg (.slot 3)) .nil)))))
(.cons (.ret (.bl false))
.nil)
.nil)
.nil)
(.cons (.iff (.nott (.call "_law_is" (.cons (.call "power" (.cons (.slot 0) (.cons (.neg (.slot 3)) .nil))) (.cons (.slot 2) (.cons (.slot 1) .nil)))))
(.cons (.ret (.bl false))
.nil)
.nil)
.nil))
(.cons (.setPar [1, 2] (.cons (.bin .mul (.slot 1) (.idx (.slot 0) (.int 0))) (.cons (.bin .mul (.slot 2) (.idx (.slot 0) (.int 1))) .nil)))
(.wipe [3] .nil)))))
(.cons (.ret (.bl true))
.nil)))⟩
def df__law_odd : Df := ⟨["rows", "value", "one", "other"], 0, (.cons (.set (.name 0) (.lst (.cons (.tup (.cons (.int 3) (.cons (.bl true) (.cons (.bl false) .nil)))) (.cons (.tup (.cons (.neg (.int 3)) (.cons (.bl true) (.cons (.bl false) .nil)))) (.cons (.tup (.cons (.bl true) (.cons (.bl false) (.cons (.bl false) .nil)))) (.cons (.tup (.cons (.str "1") (.cons (.bl false) (.cons (.bl false) .nil)))) (.cons (.tup (.cons .non (.cons (.bl false) (.cons (.bl false) .nil)))) .nil)))))))
(.cons (.set (.name 0) (.bin .add (.slot 0) (.lst (.cons (.tup (.cons (.tup (.cons (.int 1) (.cons (.int 2) .nil))) (.cons (.bl false) (.cons (.bl true) .nil)))) (.cons (.tup (.cons (.tup (.cons (.int 0) (.cons (.int 1) .nil))) (.cons (.bl false) (.cons (.bl true) .nil)))) (.cons (.tup (.cons (.tup (.cons (.int 0) (.cons (.int 2) .nil))) (.cons (.bl false) (.cons (.bl false) .nil)))) (.cons (.tup (.cons (.tup (.cons (.int 2) (.cons (.int 4) .nil))) (.cons (.bl false) (.cons (.bl false) .nil)))) (.cons (.tup (.cons (.tup (.cons (.int 1) (.cons (.neg (.int 2)) .nil))) (.cons (.bl false) (.cons (.bl false) .nil)))) .nil))))))))
(.cons (.set (.name 0) (.bin .add (.slot 0) (.lst (.cons (.tup (.cons (.tup (.cons (.int 1) (.cons (.int 0) .nil))) (.cons (.bl false) (.cons (.bl false) .nil)))) (.cons (.tup (.cons (.tup (.cons (.int 1) (.cons (.bl true) .nil))) (.cons (.bl false) (.cons (.bl false) .nil)))) (.cons (.tup (.cons (.lst (.cons (.int 1) (.cons (.int 2) .nil))) (.cons (.bl false) (.cons (.bl false) .nil)))) (.cons (.tup (.cons (.tup (.cons (.int 1) .nil)) (.cons (.bl false) (.cons (.bl false) .nil)))) (.cons (.tup (.cons (.tup (.cons (.int 1) (.cons (.int 2) (.cons (.int 1) .nil)))) (.cons (.bl false) (.cons (.bl false) .nil)))) .nil))))))))
(.cons (.ret (.prim .all (.cons (.comp (.andd (.cons (.call "_law_same" (.cons (.call "is_integer" (.cons (.slot 1) .nil)) (.cons (.slot 2) .nil))) (.cons (.call "_law_same" (.cons (.call "is_ratio" (.cons (.slot 1) .nil)) (.cons (.slot 3) .nil))) .nil))) (.tup [(.name 1), (.name 2), (.name 3)]) (.seq (.slot 0)) .none) .nil)))
.nil))))⟩
def b_law_0 : Ss := (.wipe [8, 9, 11, 12, 13, 14, 15, 16] .nil)
def b_law_1 : Ss := (.cons (.setPar [5, 6, 7] (.cons (.bin .add (.bin .mul (.bin .mul (.slot 5) (.slot 13)) (.slot 15)) (.bin .mul (.bin .mul (.slot 12) (.slot 15)) (.slot 7))) (.cons (.bin .add (.bin .mul (.bin .mul (.slot 6) (.slot 13)) (.slot 15)) (.bin .mul (.bin .mul (.slot 12) (.slot 14)) (.slot 7))) (.cons (.bin .mul (.bin .mul (.slot 7) (.slot 13)) (.slot 15)) .nil))))
b_law_0)
def b_law_2 : Ss := (.cons (.iff (.orr (.cons (.nott (.call "_law_same" (.cons (.call "divisor" (.cons (.slot 12) (.cons (.slot 14) .nil))) (.cons (.call "_law_shared" (.cons (.slot 12) (.cons (.slot 14) .nil))) .nil)))) (.cons (.nott (.call "_law_refused" (.cons (.fn "make") (.cons (.slot 12) (.cons (.int 0) .nil))))) (.cons (.nott (.call "_law_powers" (.cons (.slot 9) .nil))) .nil))))
(.cons (.ret (.bl false))
.nil)
.nil)
b_law_1)
def b_law_3 : Ss := (.cons (.iff (.orr (.cons (.nott (.call "_law_same" (.cons (.call "less" (.cons (.slot 9) (.cons (.slot 11) .nil))) (.cons (.cmp .lt (.bin .mul (.slot 12) (.slot 15)) (.bin .mul (.slot 14) (.slot 13))) .nil)))) (.cons (.nott (.call "_law_same" (.cons (.call "sign" (.cons (.slot 9) .nil)) (.cons (.ite (.cmp .gt (.slot 12) (.int 0)) (.int 1) (.ite (.cmp .lt (.slot 12) (.int 0)) (.neg (.int 1)) (.int 0))) .nil)))) .nil)))
(.cons (.ret (.bl false))
.nil)
.nil)
b_law_2)
def b_law_4 : Ss := (.cons (.iff (.nott (.prim .all (.cons (.comp (.call "_law_is" (.cons (.slot 17) (.cons (.slot 10) (.cons (.slot 18) .nil)))) (.tup [(.name 17), (.name 10), (.name 18)]) (.seq (.slot 16)) .none) .nil)))
(.cons (.ret (.bl false))
.nil)
.nil)
b_law_3)
def b_law_5 : Ss := (.cons (.iff (.cmp .ne (.slot 14) (.int 0))
(.cons (.set (.name 16) (.bin .add (.slot 16) (.lst (.cons (.tup (.cons (.call "divide" (.cons (.slot 9) (.cons (.slot 11) .nil))) (.cons (.bin .mul (.slot 12) (.slot 15)) (.cons (.bin .mul (.slot 13) (.slot 14)) .nil)))) .nil))))
.nil)
(.cons (.iff (.nott (.call "_law_refused" (.cons (.fn "divide") (.cons (.slot 9) (.cons (.slot 11) .nil)))))
(.cons (.ret (.bl false))
.nil)
.nil)
.nil))
b_law_4)
def b_law_6 : Ss := (.cons (.set (.name 16) (.bin .add (.slot 16) (.lst (.cons (.tup (.cons (.call "multiply" (.cons (.slot 9) (.cons (.slot 11) .nil))) (.cons (.bin .mul (.slot 12) (.slot 14)) (.cons (.bin .mul (.slot 13) (.slot 15)) .nil)))) (.cons (.tup (.cons (.call "negative" (.cons (.slot 9) .nil)) (.cons (.neg (.slot 12)) (.cons (.slot 13) .nil)))) (.cons (.tup (.cons (.call "of" (.cons (.slot 12) .nil)) (.cons (.slot 12) (.cons (.int 1) .nil)))) .nil))))))
b_law_5)
def b_law_7 : Ss := (.cons (.set (.name 16) (.lst (.cons (.tup (.cons (.call "add" (.cons (.slot 9) (.cons (.slot 11) .nil))) (.cons (.bin .add (.bin .mul (.slot 12) (.slot 15)) (.bin .mul (.slot 14) (.slot 13))) (.cons (.bin .mul (.slot 13) (.slot 15)) .nil)))) (.cons (.tup (.cons (.call "subtract" (.cons (.slot 9) (.cons (.slot 11) .nil))) (.cons (.bin .sub (.bin .mul (.slot 12) (.slot 15)) (.bin .mul (.slot 14) (.slot 13))) (.cons (.bin .mul (.slot 13) (.slot 15)) .nil)))) .nil))))
b_law_6)
def b_law_8 : Ss := (.cons (.set (.tup [(.tup [(.name 12), (.name 13)]), (.tup [(.name 14), (.name 15)])]) (.tup (.cons (.slot 9) (.cons (.slot 11) .nil))))
b_law_7)
def b_law_9 : Ss := (.cons (.ret (.andd (.cons (.call "_law_same" (.cons (.call "total" (.cons (.lst .nil) .nil)) (.cons (.tup (.cons (.int 0) (.cons (.int 1) .nil))) .nil))) (.cons (.call "_law_same" (.cons (.const "ZERO") (.cons (.tup (.cons (.int 0) (.cons (.int 1) .nil))) .nil))) (.cons (.call "_law_same" (.cons (.const "ONE") (.cons (.tup (.cons (.int 1) (.cons (.int 1) .nil))) .nil))) (.cons (.call "_law_odd" .nil) .nil))))))
.nil)
def b_law_10 : Ss := (.cons (.iff (.orr (.cons (.nott (.call "_law_is" (.cons (.call "total" (.cons (.slot 4) .nil)) (.cons (.slot 5) (.cons (.slot 7) .nil))))) (.cons (.nott (.call "_law_is" (.cons (.call "dot" (.cons (.slot 4) (.cons (.bin .add (.slc (.slot 4) (.some (.neg (.int 1))) .none) (.slc (.slot 4) .none (.some (.neg (.int 1))))) .nil))) (.cons (.slot 6) (.cons (.slot 7) .nil))))) .nil)))
(.cons (.ret (.bl false))
.nil)
.nil)
b_law_9)
def b_law_11 : Ss := (.cons (.forr (.tup [(.name 8), (.name 9)]) (.enum (.slot 4))
(.cons (.set (.name 11) (.idx (.slot 4) (.bin .sub (.slot 8) (.int 1))))
b_law_8))
b_law_10)
def b_law_12 : Ss := (.cons (.set (.tup [(.name 5), (.name 6), (.name 7)]) (.tup (.cons (.int 0) (.cons (.int 0) (.cons (.int 1) .nil)))))
b_law_11)
def b_law_13 : Ss := (.cons (.iff (.nott (.prim .all (.cons (.comp (.call "_law_is" (.cons (.slot 17) (.cons (.slot 10) (.cons (.slot 7) .nil)))) (.tup [(.name 17), (.tup [(.name 10), (.name 7)])]) (.zip (.slot 4) (.peek 2)) .none) .nil)))
(.cons (.ret (.bl false))
.nil)
.nil)
b_law_12)
def b_law_14 : Ss := (.cons (.set (.name 4) (.comp (.call "make" (.cons (.slot 10) (.cons (.slot 7) .nil))) (.tup [(.name 10), (.name 7)]) (.seq (.peek 2)) .none))
b_law_13)
def b_law_15 : Ss := (.cons (.forr (.name 3) (.range1 (.bin .add (.int 2) (.call "_law_draw" (.cons (.slot 1) (.cons (.int 4) .nil)))))
(.cons (.setPar [10, 7] (.cons (.call "_law_whole" (.cons (.slot 1) .nil)) (.cons (.call "_law_whole" (.cons (.slot 1) .nil)) .nil)))
(.cons (.app 2 (.tup (.cons (.slot 10) (.cons (.ite (.cmp .ne (.slot 7) (.int 0)) (.slot 7) (.int 1)) .nil))))
(.wipe [3, 10] .nil))))
b_law_14)
def b_law_16 : Ss := (.cons (.setOwn 2 (.lst .nil))
b_law_15)
def df_law : Df := ⟨["script", "tape", "pairs", "turn", "known", "sums", "both", "below", "k", "one", "above", "other", "a", "b", "c", "d", "rows", "told", "under"], 1, (.cons (.set (.name 1) (.call "_law_tape" (.cons (.slot 0) .nil)))
b_law_16)⟩
def topS (i : Nat) : Stmt := PySem.Challenge.pw_nowherebelow_k00_whole_fractions_reckone.main.body.getD i (.Pass ⟨0, 0, 0, 0⟩)
def defs : List (Str × Df) := [(("is_integer" : Str), df_is_integer), (("is_ratio" : Str), df_is_ratio), (("divisor" : Str), df_divisor), (("make" : Str), df_make), (("of" : Str), df_of), (("add" : Str), df_add), (("subtract" : Str), df_subtract), (("multiply" : Str), df_multiply), (("divide" : Str), df_divide), (("power" : Str), df_power), (("less" : Str), df_less), (("negative" : Str), df_negative), (("sign" : Str), df_sign), (("total" : Str), df_total), (("dot" : Str), df_dot), (("_law_tape" : Str), df__law_tape), (("_law_draw" : Str), df__law_draw), (("_law_same" : Str), df__law_same), (("_law_whole" : Str), df__law_whole), (("_law_shared" : Str), df__law_shared), (("_law_is" : Str), df__law_is), (("_law_refused" : Str), df__law_refused), (("_law_powers" : Str), df__law_powers), (("_law_odd" : Str), df__law_odd), (("law" : Str), df_law)]
def lookA {α : Type} (x : Str) : List (Str × α) → Option α
  | [] => none
  | (y, d) :: r => if y = x then some d else lookA x r
def knL : List (Str × Bool) := [(("is_integer" : Str), true), (("is_ratio" : Str), true), (("divisor" : Str), true), (("make" : Str), true), (("of" : Str), true), (("add" : Str), true), (("subtract" : Str), true), (("multiply" : Str), true), (("divide" : Str), true), (("power" : Str), true), (("less" : Str), true), (("negative" : Str), true), (("sign" : Str), true), (("total" : Str), true), (("dot" : Str), true), (("_law_tape" : Str), true), (("_law_draw" : Str), true), (("_law_same" : Str), true), (("_law_whole" : Str), true), (("_law_shared" : Str), true), (("_law_is" : Str), true), (("_law_refused" : Str), true), (("_law_powers" : Str), true), (("_law_odd" : Str), true), (("law" : Str), true), (("abs" : Str), false), (("all" : Str), false), (("bool" : Str), false), (("enumerate" : Str), false), (("int" : Str), false), (("isinstance" : Str), false), (("len" : Str), false), (("list" : Str), false), (("range" : Str), false), (("str" : Str), false), (("tuple" : Str), false), (("zip" : Str), false)]
def stL : List (Str × Stmt) := [(("is_integer" : Str), topS 6), (("is_ratio" : Str), topS 7), (("divisor" : Str), topS 8), (("make" : Str), topS 9), (("of" : Str), topS 10), (("add" : Str), topS 11), (("subtract" : Str), topS 12), (("multiply" : Str), topS 13), (("divide" : Str), topS 14), (("power" : Str), topS 15), (("less" : Str), topS 16), (("negative" : Str), topS 17), (("sign" : Str), topS 18), (("total" : Str), topS 19), (("dot" : Str), topS 20), (("_law_tape" : Str), topS 22), (("_law_draw" : Str), topS 23), (("_law_same" : Str), topS 24), (("_law_whole" : Str), topS 25), (("_law_shared" : Str), topS 26), (("_law_is" : Str), topS 27), (("_law_refused" : Str), topS 28), (("_law_powers" : Str), topS 29), (("_law_odd" : Str), topS 30), (("law" : Str), topS 31)]
def coL : List (Str × D) := [(("ZERO" : Str), (.tup [(.int 0), (.int 1)])), (("ONE" : Str), (.tup [(.int 1), (.int 1)]))]
def isF (x : Str) : Bool := [(("divide" : Str) : Str), (("make" : Str) : Str), (("power" : Str) : Str)].contains x
def exL : List Str := [("BelowError" : Str), ("BadNumber" : Str)]
def subL : List (Str × Str) := [(("BelowError" : Str), ("BelowError" : Str)), (("BadNumber" : Str), ("BadNumber" : Str)), (("BadNumber" : Str), ("BelowError" : Str))]
def sb : Sub := ⟨fun c => exL.contains c, fun c x => subL.contains (c, x)⟩
def T : Tx := ⟨defs, fun _ _ => stuck, fun x => lookA x coL, isF, sb⟩
def X : Txt := ⟨T, fun f => (lookA f stL).getD (.Pass ⟨0, 0, 0, 0⟩), fun x => lookA x knL⟩
def ckAll : Bool := defs.all fun q => defC X q.1 q.2
end K00
namespace K00
open PySem PySem.Spec PyProof.Rows L2 Pu
theorem ck_all : ckAll = true := by decide +kernel
end K00

namespace K00
open PySem PySem.Spec PyProof.Rows L2 Pu
def Gk (k : Nat) : Gam := ⟨callF T k, T.consts, isF⟩
theorem c_is_integer (k : Nat) : callF T (k + 1) "is_integer" = runDf (Gk k) sb df_is_integer := by
  have h : lookD "is_integer" T.defs = some df_is_integer := by kernel_rfl
  funext ds
  unfold callF
  rw [h]
  rfl
theorem c_is_ratio (k : Nat) : callF T (k + 1) "is_ratio" = runDf (Gk k) sb df_is_ratio := by
  have h : lookD "is_ratio" T.defs = some df_is_ratio := by kernel_rfl
  funext ds
  unfold callF
  rw [h]
  rfl
theorem c_divisor (k : Nat) : callF T (k + 1) "divisor" = runDf (Gk k) sb df_divisor := by
  have h : lookD "divisor" T.defs = some df_divisor := by kernel_rfl
  funext ds
  unfold callF
  rw [h]
  rfl
theorem c_make (k : Nat) : callF T (k + 1) "make" = runDf (Gk k) sb df_make := by
  have h : lookD "make" T.defs = some df_make := by kernel_rfl
  funext ds
  unfold callF
  rw [h]
  rfl
theorem c_of (k : Nat) : callF T (k + 1) "of" = runDf (Gk k) sb df_of := by
  have h : lookD "of" T.defs = some df_of := by kernel_rfl
  funext ds
  unfold callF
  rw [h]
  rfl
theorem c_add (k : Nat) : callF T (k + 1) "add" = runDf (Gk k) sb df_add := by
  have h : lookD "add" T.defs = some df_add := by kernel_rfl
  funext ds
  unfold callF
  rw [h]
  rfl
theorem c_subtract (k : Nat) : callF T (k + 1) "subtract" = runDf (Gk k) sb df_subtract := by
  have h : lookD "subtract" T.defs = some df_subtract := by kernel_rfl
  funext ds
  unfold callF
  rw [h]
  rfl
theorem c_multiply (k : Nat) : callF T (k + 1) "multiply" = runDf (Gk k) sb df_multiply := by
  have h : lookD "multiply" T.defs = some df_multiply := by kernel_rfl
  funext ds
  unfold callF
  rw [h]
  rfl
theorem c_divide (k : Nat) : callF T (k + 1) "divide" = runDf (Gk k) sb df_divide := by
  have h : lookD "divide" T.defs = some df_divide := by kernel_rfl
  funext ds
  unfold callF
  rw [h]
  rfl
theorem c_power (k : Nat) : callF T (k + 1) "power" = runDf (Gk k) sb df_power := by
  have h : lookD "power" T.defs = some df_power := by kernel_rfl
  funext ds
  unfold callF
  rw [h]
  rfl
theorem c_less (k : Nat) : callF T (k + 1) "less" = runDf (Gk k) sb df_less := by
  have h : lookD "less" T.defs = some df_less := by kernel_rfl
  funext ds
  unfold callF
  rw [h]
  rfl
theorem c_negative (k : Nat) : callF T (k + 1) "negative" = runDf (Gk k) sb df_negative := by
  have h : lookD "negative" T.defs = some df_negative := by kernel_rfl
  funext ds
  unfold callF
  rw [h]
  rfl
theorem c_sign (k : Nat) : callF T (k + 1) "sign" = runDf (Gk k) sb df_sign := by
  have h : lookD "sign" T.defs = some df_sign := by kernel_rfl
  funext ds
  unfold callF
  rw [h]
  rfl
theorem c_total (k : Nat) : callF T (k + 1) "total" = runDf (Gk k) sb df_total := by
  have h : lookD "total" T.defs = some df_total := by kernel_rfl
  funext ds
  unfold callF
  rw [h]
  rfl
theorem c_dot (k : Nat) : callF T (k + 1) "dot" = runDf (Gk k) sb df_dot := by
  have h : lookD "dot" T.defs = some df_dot := by kernel_rfl
  funext ds
  unfold callF
  rw [h]
  rfl
theorem c__law_tape (k : Nat) : callF T (k + 1) "_law_tape" = runDf (Gk k) sb df__law_tape := by
  have h : lookD "_law_tape" T.defs = some df__law_tape := by kernel_rfl
  funext ds
  unfold callF
  rw [h]
  rfl
theorem c__law_draw (k : Nat) : callF T (k + 1) "_law_draw" = runDf (Gk k) sb df__law_draw := by
  have h : lookD "_law_draw" T.defs = some df__law_draw := by kernel_rfl
  funext ds
  unfold callF
  rw [h]
  rfl
theorem c__law_same (k : Nat) : callF T (k + 1) "_law_same" = runDf (Gk k) sb df__law_same := by
  have h : lookD "_law_same" T.defs = some df__law_same := by kernel_rfl
  funext ds
  unfold callF
  rw [h]
  rfl
theorem c__law_whole (k : Nat) : callF T (k + 1) "_law_whole" = runDf (Gk k) sb df__law_whole := by
  have h : lookD "_law_whole" T.defs = some df__law_whole := by kernel_rfl
  funext ds
  unfold callF
  rw [h]
  rfl
theorem c__law_shared (k : Nat) : callF T (k + 1) "_law_shared" = runDf (Gk k) sb df__law_shared := by
  have h : lookD "_law_shared" T.defs = some df__law_shared := by kernel_rfl
  funext ds
  unfold callF
  rw [h]
  rfl
theorem c__law_is (k : Nat) : callF T (k + 1) "_law_is" = runDf (Gk k) sb df__law_is := by
  have h : lookD "_law_is" T.defs = some df__law_is := by kernel_rfl
  funext ds
  unfold callF
  rw [h]
  rfl
theorem c__law_refused (k : Nat) : callF T (k + 1) "_law_refused" = runDf (Gk k) sb df__law_refused := by
  have h : lookD "_law_refused" T.defs = some df__law_refused := by kernel_rfl
  funext ds
  unfold callF
  rw [h]
  rfl
theorem c__law_powers (k : Nat) : callF T (k + 1) "_law_powers" = runDf (Gk k) sb df__law_powers := by
  have h : lookD "_law_powers" T.defs = some df__law_powers := by kernel_rfl
  funext ds
  unfold callF
  rw [h]
  rfl
theorem c__law_odd (k : Nat) : callF T (k + 1) "_law_odd" = runDf (Gk k) sb df__law_odd := by
  have h : lookD "_law_odd" T.defs = some df__law_odd := by kernel_rfl
  funext ds
  unfold callF
  rw [h]
  rfl
theorem c_law (k : Nat) : callF T (k + 1) "law" = runDf (Gk k) sb df_law := by
  have h : lookD "law" T.defs = some df_law := by kernel_rfl
  funext ds
  unfold callF
  rw [h]
  rfl
theorem k_ZERO : T.consts "ZERO" = some (.tup [(.int 0), (.int 1)]) := by kernel_rfl
theorem k_ONE : T.consts "ONE" = some (.tup [(.int 1), (.int 1)]) := by kernel_rfl
theorem isF_power : isF "power" = true := by decide +kernel
theorem isF_make : isF "make" = true := by decide +kernel
theorem isF_divide : isF "divide" = true := by decide +kernel
end K00

namespace K00
open PySem PySem.Spec PyProof.Rows L2 Pu
theorem Gk_call (k : Nat) : (Gk k).call = callF T k := rfl
theorem Gk_const (k : Nat) (x : Str) : (Gk k).const x = T.consts x := rfl
theorem Gk_isFn (k : Nat) (x : Str) : (Gk k).isFn x = isF x := rfl
/-! ### whole numbers -/
theorem gcd_loop {G : Gam} {U : Sub} : ∀ (n b a : Nat), b < n → whileM (ev G (.cmp .gt (.slot 1) (.int 0))).t (exSs G U (.cons (.setPar [0, 1] (.cons (.slot 1) (.cons (.bin .mod (.slot 0) (.slot 1)) .nil))) .nil)) n [some (.val (.int a)), some (.val (.int b))] =
    pure (.next [some (.val (.int (Nat.gcd a b))), some (.val (.int 0))])
  | 0, b, a, h => absurd h (Nat.not_lt_zero _)
  | n + 1, b, a, h => by
    by_cases hb : b = 0
    · subst hb
      rw [while_stop (by simp only [Pu.end_ret, Pu.end_next, Pu.end_stuck, Pu.end_throw, Pu.v_slot0, Pu.v_slotS, Pu.v_peekV, Pu.v_peekO, Pu.v_peekS, Pu.v_non, Pu.v_bl, Pu.v_int, Pu.v_str, Pu.v_const, Pu.v_fn, Pu.v_tup, Pu.v_lst, Pu.v_neg, Pu.v_nott, Pu.t_nott, Pu.v_bin, Pu.v_cmp, Pu.t_cmp', Pu.v_andd, Pu.t_andd, Pu.v_orr, Pu.t_orr, Pu.v_ite, Pu.v_call, Pu.v_callv0, Pu.v_prim, Pu.v_isi, Pu.v_idx, Pu.v_slc, Pu.v_comp, Pu.o_non, Pu.o_som, Pu.c_non, Pu.c_som, Pu.e_nil, Pu.e_cons, Pu.av_one, Pu.av_cons, Pu.ov_one, Pu.ov_cons, Pu.at_nil, Pu.at_cons, Pu.ot_nil, Pu.ot_cons, Pu.i_seq', Pu.i_rng1, Pu.i_rng2, Pu.i_zip', Pu.i_enum', Pu.t_slot, Pu.t_peek, Pu.t_bl, Pu.t_call, Pu.t_callv, Pu.t_prim, Pu.t_isi, Pu.t_idx, Pu.b_addI, Pu.b_addT, Pu.b_addL, Pu.b_subI, Pu.b_mulI, Pu.b_divI, Pu.b_modI, Pu.c_lt, Pu.c_le, Pu.c_gt, Pu.c_ge, Pu.c_eqI, Pu.c_neI, Pu.c_eqB, Pu.c_neB, Pu.c_isN, Pu.c_notN, Pu.d_bl, Pu.d_int, Pu.u_bl, Pu.u_int, Pu.u_non, Pu.u_tup, Pu.u_lst, Pu.x_tup, Pu.x_lst, Pu.at0, Pu.at1, Pu.at2, Pu.s_some, Pu.s_none, Pu.p_len, Pu.p_lenL, Pu.p_abs, Pu.p_int, Pu.p_all, Pu.p_any, Pu.p_tupL, Pu.p_tupT, Pu.p_lstL, Pu.p_lstT, Pu.q_tup, Pu.q_lst, Pu.q_scr, Pu.s_nil, Pu.s_wipe, Pu.s_freeze, Pu.s_ret, Pu.s_raise, Pu.s_pass, Pu.s_brk, Pu.s_cont, Pu.s_set, Pu.s_setOwn, Pu.own_lst, Pu.s_par, Pu.a_next, Pu.a_ret, Pu.a_brk, Pu.a_cont, Pu.s_iff, Pu.s_for, Pu.s_while, Pu.s_expr, Pu.s_try, Pu.s_aug, Pu.aug_some, Pu.aug_int, Pu.s_app, Pu.app_own, Pu.p_name, Pu.p_tup, Pu.ps_nil, Pu.ps_cons, Pu.v_tp, Pu.tp_val, Pu.tp_cell, Pu.s_tput, Pu.tput_val, Pu.s_tpop, Pu.tpop_val, Pu.s_tnew, Pu.tnew_lst, Pu.z_pure, Pu.z_seed, Pu.z_head, Pu.z_len, Pu.z_pseed, Pu.z_phead, Pu.z_pop, Pu.M.pure_bind, Pu.M.bind_assoc, Pu.M.bind_pure, Pu.M.stuck_bind, Pu.M.throw_bind, Pu.end_bind, Pu.end_ite, Pu.m_ite, Pu.noExc_pure, List.set_cons_zero, List.set_cons_succ, List.getElem?_cons_zero, List.getElem?_cons_succ, List.length_cons, List.length_nil, List.map_cons, List.map_nil, List.cons_append, List.nil_append, Pu.freezeE, Pu.wipeE, Pu.setsE, if_true, if_false, Bool.false_eq_true, reduceIte, Nat.reduceAdd, Nat.reduceSub, Nat.reduceEqDiff, decide_true, decide_false, Bool.not_true, Bool.not_false, Bool.true_and, Bool.and_true, Bool.false_and, Bool.and_false, Bool.true_or, Bool.or_true, Bool.false_or, Bool.or_false]; rfl), Nat.gcd_zero_right]
      rfl
    · have h0 : (0 : Int) < (b : Int) := by omega
      have hne : (b : Int) ≠ 0 := by omega
      have e : (a : Int).fmod (b : Int) = ((a % b : Nat) : Int) := by
        rw [Int.fmod_eq_emod_of_nonneg _ (by omega)]; rfl
      rw [while_go (σ' := [some (.val (.int b)), some (.val (.int ((a % b : Nat) : Int)))]) (by simp only [Pu.end_ret, Pu.end_next, Pu.end_stuck, Pu.end_throw, Pu.v_slot0, Pu.v_slotS, Pu.v_peekV, Pu.v_peekO, Pu.v_peekS, Pu.v_non, Pu.v_bl, Pu.v_int, Pu.v_str, Pu.v_const, Pu.v_fn, Pu.v_tup, Pu.v_lst, Pu.v_neg, Pu.v_nott, Pu.t_nott, Pu.v_bin, Pu.v_cmp, Pu.t_cmp', Pu.v_andd, Pu.t_andd, Pu.v_orr, Pu.t_orr, Pu.v_ite, Pu.v_call, Pu.v_callv0, Pu.v_prim, Pu.v_isi, Pu.v_idx, Pu.v_slc, Pu.v_comp, Pu.o_non, Pu.o_som, Pu.c_non, Pu.c_som, Pu.e_nil, Pu.e_cons, Pu.av_one, Pu.av_cons, Pu.ov_one, Pu.ov_cons, Pu.at_nil, Pu.at_cons, Pu.ot_nil, Pu.ot_cons, Pu.i_seq', Pu.i_rng1, Pu.i_rng2, Pu.i_zip', Pu.i_enum', Pu.t_slot, Pu.t_peek, Pu.t_bl, Pu.t_call, Pu.t_callv, Pu.t_prim, Pu.t_isi, Pu.t_idx, Pu.b_addI, Pu.b_addT, Pu.b_addL, Pu.b_subI, Pu.b_mulI, Pu.b_divI, Pu.b_modI, Pu.c_lt, Pu.c_le, Pu.c_gt, Pu.c_ge, Pu.c_eqI, Pu.c_neI, Pu.c_eqB, Pu.c_neB, Pu.c_isN, Pu.c_notN, Pu.d_bl, Pu.d_int, Pu.u_bl, Pu.u_int, Pu.u_non, Pu.u_tup, Pu.u_lst, Pu.x_tup, Pu.x_lst, Pu.at0, Pu.at1, Pu.at2, Pu.s_some, Pu.s_none, Pu.p_len, Pu.p_lenL, Pu.p_abs, Pu.p_int, Pu.p_all, Pu.p_any, Pu.p_tupL, Pu.p_tupT, Pu.p_lstL, Pu.p_lstT, Pu.q_tup, Pu.q_lst, Pu.q_scr, Pu.s_nil, Pu.s_wipe, Pu.s_freeze, Pu.s_ret, Pu.s_raise, Pu.s_pass, Pu.s_brk, Pu.s_cont, Pu.s_set, Pu.s_setOwn, Pu.own_lst, Pu.s_par, Pu.a_next, Pu.a_ret, Pu.a_brk, Pu.a_cont, Pu.s_iff, Pu.s_for, Pu.s_while, Pu.s_expr, Pu.s_try, Pu.s_aug, Pu.aug_some, Pu.aug_int, Pu.s_app, Pu.app_own, Pu.p_name, Pu.p_tup, Pu.ps_nil, Pu.ps_cons, Pu.v_tp, Pu.tp_val, Pu.tp_cell, Pu.s_tput, Pu.tput_val, Pu.s_tpop, Pu.tpop_val, Pu.s_tnew, Pu.tnew_lst, Pu.z_pure, Pu.z_seed, Pu.z_head, Pu.z_len, Pu.z_pseed, Pu.z_phead, Pu.z_pop, Pu.M.pure_bind, Pu.M.bind_assoc, Pu.M.bind_pure, Pu.M.stuck_bind, Pu.M.throw_bind, Pu.end_bind, Pu.end_ite, Pu.m_ite, Pu.noExc_pure, List.set_cons_zero, List.set_cons_succ, List.getElem?_cons_zero, List.getElem?_cons_succ, List.length_cons, List.length_nil, List.map_cons, List.map_nil, List.cons_append, List.nil_append, Pu.freezeE, Pu.wipeE, Pu.setsE, if_true, if_false, Bool.false_eq_true, reduceIte, Nat.reduceAdd, Nat.reduceSub, Nat.reduceEqDiff, decide_true, decide_false, Bool.not_true, Bool.not_false, Bool.true_and, Bool.and_true, Bool.false_and, Bool.and_false, Bool.true_or, Bool.or_true, Bool.false_or, Bool.or_false, h0]) (by simp only [Pu.end_ret, Pu.end_next, Pu.end_stuck, Pu.end_throw, Pu.v_slot0, Pu.v_slotS, Pu.v_peekV, Pu.v_peekO, Pu.v_peekS, Pu.v_non, Pu.v_bl, Pu.v_int, Pu.v_str, Pu.v_const, Pu.v_fn, Pu.v_tup, Pu.v_lst, Pu.v_neg, Pu.v_nott, Pu.t_nott, Pu.v_bin, Pu.v_cmp, Pu.t_cmp', Pu.v_andd, Pu.t_andd, Pu.v_orr, Pu.t_orr, Pu.v_ite, Pu.v_call, Pu.v_callv0, Pu.v_prim, Pu.v_isi, Pu.v_idx, Pu.v_slc, Pu.v_comp, Pu.o_non, Pu.o_som, Pu.c_non, Pu.c_som, Pu.e_nil, Pu.e_cons, Pu.av_one, Pu.av_cons, Pu.ov_one, Pu.ov_cons, Pu.at_nil, Pu.at_cons, Pu.ot_nil, Pu.ot_cons, Pu.i_seq', Pu.i_rng1, Pu.i_rng2, Pu.i_zip', Pu.i_enum', Pu.t_slot, Pu.t_peek, Pu.t_bl, Pu.t_call, Pu.t_callv, Pu.t_prim, Pu.t_isi, Pu.t_idx, Pu.b_addI, Pu.b_addT, Pu.b_addL, Pu.b_subI, Pu.b_mulI, Pu.b_divI, Pu.b_modI, Pu.c_lt, Pu.c_le, Pu.c_gt, Pu.c_ge, Pu.c_eqI, Pu.c_neI, Pu.c_eqB, Pu.c_neB, Pu.c_isN, Pu.c_notN, Pu.d_bl, Pu.d_int, Pu.u_bl, Pu.u_int, Pu.u_non, Pu.u_tup, Pu.u_lst, Pu.x_tup, Pu.x_lst, Pu.at0, Pu.at1, Pu.at2, Pu.s_some, Pu.s_none, Pu.p_len, Pu.p_lenL, Pu.p_abs, Pu.p_int, Pu.p_all, Pu.p_any, Pu.p_tupL, Pu.p_tupT, Pu.p_lstL, Pu.p_lstT, Pu.q_tup, Pu.q_lst, Pu.q_scr, Pu.s_nil, Pu.s_wipe, Pu.s_freeze, Pu.s_ret, Pu.s_raise, Pu.s_pass, Pu.s_brk, Pu.s_cont, Pu.s_set, Pu.s_setOwn, Pu.own_lst, Pu.s_par, Pu.a_next, Pu.a_ret, Pu.a_brk, Pu.a_cont, Pu.s_iff, Pu.s_for, Pu.s_while, Pu.s_expr, Pu.s_try, Pu.s_aug, Pu.aug_some, Pu.aug_int, Pu.s_app, Pu.app_own, Pu.p_name, Pu.p_tup, Pu.ps_nil, Pu.ps_cons, Pu.v_tp, Pu.tp_val, Pu.tp_cell, Pu.s_tput, Pu.tput_val, Pu.s_tpop, Pu.tpop_val, Pu.s_tnew, Pu.tnew_lst, Pu.z_pure, Pu.z_seed, Pu.z_head, Pu.z_len, Pu.z_pseed, Pu.z_phead, Pu.z_pop, Pu.M.pure_bind, Pu.M.bind_assoc, Pu.M.bind_pure, Pu.M.stuck_bind, Pu.M.throw_bind, Pu.end_bind, Pu.end_ite, Pu.m_ite, Pu.noExc_pure, List.set_cons_zero, List.set_cons_succ, List.getElem?_cons_zero, List.getElem?_cons_succ, List.length_cons, List.length_nil, List.map_cons, List.map_nil, List.cons_append, List.nil_append, Pu.freezeE, Pu.wipeE, Pu.setsE, if_true, if_false, Bool.false_eq_true, reduceIte, Nat.reduceAdd, Nat.reduceSub, Nat.reduceEqDiff, decide_true, decide_false, Bool.not_true, Bool.not_false, Bool.true_and, Bool.and_true, Bool.false_and, Bool.and_false, Bool.true_or, Bool.or_true, Bool.false_or, Bool.or_false, gd_pos hne, e])]
      rw [gcd_loop n (a % b) b (by have := Nat.mod_lt a (Nat.pos_of_ne_zero hb); omega)]
      rw [Nat.gcd_comm b, ← Nat.gcd_rec, Nat.gcd_comm]
theorem abs_eq (a : Int) : (if a < 0 then -a else a) = (a.natAbs : Int) := by split <;> omega
theorem fu_lt {b : Int} (h : Bd 9000 b) : b.natAbs < FU := by
  unfold FU
  exact Nat.lt_of_lt_of_le h (Nat.pow_le_pow_right (by decide) (by decide))
theorem divisor_ok (k : Nat) (a b : Int) (hb : Bd 9000 b) : callF T (k + 1) "divisor" [.int a, .int b] = pure (.int (Int.gcd a b)) := by
  rw [c_divisor, run_df _ ⟨rfl, by decide⟩]
  simp only [df_divisor, Gk_call, Gk_const, List.replicate, Pu.end_ret, Pu.end_next, Pu.end_stuck, Pu.end_throw, Pu.v_slot0, Pu.v_slotS, Pu.v_peekV, Pu.v_peekO, Pu.v_peekS, Pu.v_non, Pu.v_bl, Pu.v_int, Pu.v_str, Pu.v_const, Pu.v_fn, Pu.v_tup, Pu.v_lst, Pu.v_neg, Pu.v_nott, Pu.t_nott, Pu.v_bin, Pu.v_cmp, Pu.t_cmp', Pu.v_andd, Pu.t_andd, Pu.v_orr, Pu.t_orr, Pu.v_ite, Pu.v_call, Pu.v_callv0, Pu.v_prim, Pu.v_isi, Pu.v_idx, Pu.v_slc, Pu.v_comp, Pu.o_non, Pu.o_som, Pu.c_non, Pu.c_som, Pu.e_nil, Pu.e_cons, Pu.av_one, Pu.av_cons, Pu.ov_one, Pu.ov_cons, Pu.at_nil, Pu.at_cons, Pu.ot_nil, Pu.ot_cons, Pu.i_seq', Pu.i_rng1, Pu.i_rng2, Pu.i_zip', Pu.i_enum', Pu.t_slot, Pu.t_peek, Pu.t_bl, Pu.t_call, Pu.t_callv, Pu.t_prim, Pu.t_isi, Pu.t_idx, Pu.b_addI, Pu.b_addT, Pu.b_addL, Pu.b_subI, Pu.b_mulI, Pu.b_divI, Pu.b_modI, Pu.c_lt, Pu.c_le, Pu.c_gt, Pu.c_ge, Pu.c_eqI, Pu.c_neI, Pu.c_eqB, Pu.c_neB, Pu.c_isN, Pu.c_notN, Pu.d_bl, Pu.d_int, Pu.u_bl, Pu.u_int, Pu.u_non, Pu.u_tup, Pu.u_lst, Pu.x_tup, Pu.x_lst, Pu.at0, Pu.at1, Pu.at2, Pu.s_some, Pu.s_none, Pu.p_len, Pu.p_lenL, Pu.p_abs, Pu.p_int, Pu.p_all, Pu.p_any, Pu.p_tupL, Pu.p_tupT, Pu.p_lstL, Pu.p_lstT, Pu.q_tup, Pu.q_lst, Pu.q_scr, Pu.s_nil, Pu.s_wipe, Pu.s_freeze, Pu.s_ret, Pu.s_raise, Pu.s_pass, Pu.s_brk, Pu.s_cont, Pu.s_set, Pu.s_setOwn, Pu.own_lst, Pu.s_par, Pu.a_next, Pu.a_ret, Pu.a_brk, Pu.a_cont, Pu.s_iff, Pu.s_for, Pu.s_while, Pu.s_expr, Pu.s_try, Pu.s_aug, Pu.aug_some, Pu.aug_int, Pu.s_app, Pu.app_own, Pu.p_name, Pu.p_tup, Pu.ps_nil, Pu.ps_cons, Pu.v_tp, Pu.tp_val, Pu.tp_cell, Pu.s_tput, Pu.tput_val, Pu.s_tpop, Pu.tpop_val, Pu.s_tnew, Pu.tnew_lst, Pu.z_pure, Pu.z_seed, Pu.z_head, Pu.z_len, Pu.z_pseed, Pu.z_phead, Pu.z_pop, Pu.M.pure_bind, Pu.M.bind_assoc, Pu.M.bind_pure, Pu.M.stuck_bind, Pu.M.throw_bind, Pu.end_bind, Pu.end_ite, Pu.m_ite, Pu.noExc_pure, List.set_cons_zero, List.set_cons_succ, List.getElem?_cons_zero, List.getElem?_cons_succ, List.length_cons, List.length_nil, List.map_cons, List.map_nil, List.cons_append, List.nil_append, Pu.freezeE, Pu.wipeE, Pu.setsE, if_true, if_false, Bool.false_eq_true, reduceIte, Nat.reduceAdd, Nat.reduceSub, Nat.reduceEqDiff, decide_true, decide_false, Bool.not_true, Bool.not_false, Bool.true_and, Bool.and_true, Bool.false_and, Bool.and_false, Bool.true_or, Bool.or_true, Bool.false_or, Bool.or_false, abs_eq, gcd_loop FU _ _ (fu_lt hb)]
  rfl
theorem shared_ok (k : Nat) (a b : Int) (hb : Bd 9000 b) : callF T (k + 1) "_law_shared" [.int a, .int b] = pure (.int (Int.gcd a b)) := by
  rw [c__law_shared, run_df _ ⟨rfl, by decide⟩]
  simp only [df__law_shared, Gk_call, Gk_const, List.replicate, Pu.end_ret, Pu.end_next, Pu.end_stuck, Pu.end_throw, Pu.v_slot0, Pu.v_slotS, Pu.v_peekV, Pu.v_peekO, Pu.v_peekS, Pu.v_non, Pu.v_bl, Pu.v_int, Pu.v_str, Pu.v_const, Pu.v_fn, Pu.v_tup, Pu.v_lst, Pu.v_neg, Pu.v_nott, Pu.t_nott, Pu.v_bin, Pu.v_cmp, Pu.t_cmp', Pu.v_andd, Pu.t_andd, Pu.v_orr, Pu.t_orr, Pu.v_ite, Pu.v_call, Pu.v_callv0, Pu.v_prim, Pu.v_isi, Pu.v_idx, Pu.v_slc, Pu.v_comp, Pu.o_non, Pu.o_som, Pu.c_non, Pu.c_som, Pu.e_nil, Pu.e_cons, Pu.av_one, Pu.av_cons, Pu.ov_one, Pu.ov_cons, Pu.at_nil, Pu.at_cons, Pu.ot_nil, Pu.ot_cons, Pu.i_seq', Pu.i_rng1, Pu.i_rng2, Pu.i_zip', Pu.i_enum', Pu.t_slot, Pu.t_peek, Pu.t_bl, Pu.t_call, Pu.t_callv, Pu.t_prim, Pu.t_isi, Pu.t_idx, Pu.b_addI, Pu.b_addT, Pu.b_addL, Pu.b_subI, Pu.b_mulI, Pu.b_divI, Pu.b_modI, Pu.c_lt, Pu.c_le, Pu.c_gt, Pu.c_ge, Pu.c_eqI, Pu.c_neI, Pu.c_eqB, Pu.c_neB, Pu.c_isN, Pu.c_notN, Pu.d_bl, Pu.d_int, Pu.u_bl, Pu.u_int, Pu.u_non, Pu.u_tup, Pu.u_lst, Pu.x_tup, Pu.x_lst, Pu.at0, Pu.at1, Pu.at2, Pu.s_some, Pu.s_none, Pu.p_len, Pu.p_lenL, Pu.p_abs, Pu.p_int, Pu.p_all, Pu.p_any, Pu.p_tupL, Pu.p_tupT, Pu.p_lstL, Pu.p_lstT, Pu.q_tup, Pu.q_lst, Pu.q_scr, Pu.s_nil, Pu.s_wipe, Pu.s_freeze, Pu.s_ret, Pu.s_raise, Pu.s_pass, Pu.s_brk, Pu.s_cont, Pu.s_set, Pu.s_setOwn, Pu.own_lst, Pu.s_par, Pu.a_next, Pu.a_ret, Pu.a_brk, Pu.a_cont, Pu.s_iff, Pu.s_for, Pu.s_while, Pu.s_expr, Pu.s_try, Pu.s_aug, Pu.aug_some, Pu.aug_int, Pu.s_app, Pu.app_own, Pu.p_name, Pu.p_tup, Pu.ps_nil, Pu.ps_cons, Pu.v_tp, Pu.tp_val, Pu.tp_cell, Pu.s_tput, Pu.tput_val, Pu.s_tpop, Pu.tpop_val, Pu.s_tnew, Pu.tnew_lst, Pu.z_pure, Pu.z_seed, Pu.z_head, Pu.z_len, Pu.z_pseed, Pu.z_phead, Pu.z_pop, Pu.M.pure_bind, Pu.M.bind_assoc, Pu.M.bind_pure, Pu.M.stuck_bind, Pu.M.throw_bind, Pu.end_bind, Pu.end_ite, Pu.m_ite, Pu.noExc_pure, List.set_cons_zero, List.set_cons_succ, List.getElem?_cons_zero, List.getElem?_cons_succ, List.length_cons, List.length_nil, List.map_cons, List.map_nil, List.cons_append, List.nil_append, Pu.freezeE, Pu.wipeE, Pu.setsE, if_true, if_false, Bool.false_eq_true, reduceIte, Nat.reduceAdd, Nat.reduceSub, Nat.reduceEqDiff, decide_true, decide_false, Bool.not_true, Bool.not_false, Bool.true_and, Bool.and_true, Bool.false_and, Bool.and_false, Bool.true_or, Bool.or_true, Bool.false_or, Bool.or_false, abs_eq, gcd_loop FU _ _ (fu_lt hb)]
  rfl
/-! ### fractions -/
theorem sz2 {x y : D} : [x, y].length ≤ sizeLine := by show 2 ≤ sizeLine; decide
theorem le1 : 1 ≤ sizeLine := by decide
theorem le2 : 2 ≤ sizeLine := by decide
theorem le3 : 3 ≤ sizeLine := by decide
theorem le4 : 4 ≤ sizeLine := by decide
theorem le5 : 5 ≤ sizeLine := by decide
theorem make_ok (k : Nat) (a b : Int) (hb : b ≠ 0) (h : Bd 9000 b) : callF T (k + 2) "make" [.int a, .int b] = pure (qD (Rat.divInt a b)) := by
  have hg := gcd_ne (a := a) hb
  have hG := bd_gcd (a := a) hb h
  rw [c_make, run_df _ ⟨rfl, by decide⟩]
  simp only [df_make, Gk_call, Gk_const, List.replicate, Pu.end_ret, Pu.end_next, Pu.end_stuck, Pu.end_throw, Pu.v_slot0, Pu.v_slotS, Pu.v_peekV, Pu.v_peekO, Pu.v_peekS, Pu.v_non, Pu.v_bl, Pu.v_int, Pu.v_str, Pu.v_const, Pu.v_fn, Pu.v_tup, Pu.v_lst, Pu.v_neg, Pu.v_nott, Pu.t_nott, Pu.v_bin, Pu.v_cmp, Pu.t_cmp', Pu.v_andd, Pu.t_andd, Pu.v_orr, Pu.t_orr, Pu.v_ite, Pu.v_call, Pu.v_callv0, Pu.v_prim, Pu.v_isi, Pu.v_idx, Pu.v_slc, Pu.v_comp, Pu.o_non, Pu.o_som, Pu.c_non, Pu.c_som, Pu.e_nil, Pu.e_cons, Pu.av_one, Pu.av_cons, Pu.ov_one, Pu.ov_cons, Pu.at_nil, Pu.at_cons, Pu.ot_nil, Pu.ot_cons, Pu.i_seq', Pu.i_rng1, Pu.i_rng2, Pu.i_zip', Pu.i_enum', Pu.t_slot, Pu.t_peek, Pu.t_bl, Pu.t_call, Pu.t_callv, Pu.t_prim, Pu.t_isi, Pu.t_idx, Pu.b_addI, Pu.b_addT, Pu.b_addL, Pu.b_subI, Pu.b_mulI, Pu.b_divI, Pu.b_modI, Pu.c_lt, Pu.c_le, Pu.c_gt, Pu.c_ge, Pu.c_eqI, Pu.c_neI, Pu.c_eqB, Pu.c_neB, Pu.c_isN, Pu.c_notN, Pu.d_bl, Pu.d_int, Pu.u_bl, Pu.u_int, Pu.u_non, Pu.u_tup, Pu.u_lst, Pu.x_tup, Pu.x_lst, Pu.at0, Pu.at1, Pu.at2, Pu.s_some, Pu.s_none, Pu.p_len, Pu.p_lenL, Pu.p_abs, Pu.p_int, Pu.p_all, Pu.p_any, Pu.p_tupL, Pu.p_tupT, Pu.p_lstL, Pu.p_lstT, Pu.q_tup, Pu.q_lst, Pu.q_scr, Pu.s_nil, Pu.s_wipe, Pu.s_freeze, Pu.s_ret, Pu.s_raise, Pu.s_pass, Pu.s_brk, Pu.s_cont, Pu.s_set, Pu.s_setOwn, Pu.own_lst, Pu.s_par, Pu.a_next, Pu.a_ret, Pu.a_brk, Pu.a_cont, Pu.s_iff, Pu.s_for, Pu.s_while, Pu.s_expr, Pu.s_try, Pu.s_aug, Pu.aug_some, Pu.aug_int, Pu.s_app, Pu.app_own, Pu.p_name, Pu.p_tup, Pu.ps_nil, Pu.ps_cons, Pu.v_tp, Pu.tp_val, Pu.tp_cell, Pu.s_tput, Pu.tput_val, Pu.s_tpop, Pu.tpop_val, Pu.s_tnew, Pu.tnew_lst, Pu.z_pure, Pu.z_seed, Pu.z_head, Pu.z_len, Pu.z_pseed, Pu.z_phead, Pu.z_pop, Pu.M.pure_bind, Pu.M.bind_assoc, Pu.M.bind_pure, Pu.M.stuck_bind, Pu.M.throw_bind, Pu.end_bind, Pu.end_ite, Pu.m_ite, Pu.noExc_pure, List.set_cons_zero, List.set_cons_succ, List.getElem?_cons_zero, List.getElem?_cons_succ, List.length_cons, List.length_nil, List.map_cons, List.map_nil, List.cons_append, List.nil_append, Pu.freezeE, Pu.wipeE, Pu.setsE, if_true, if_false, Bool.false_eq_true, reduceIte, Nat.reduceAdd, Nat.reduceSub, Nat.reduceEqDiff, decide_true, decide_false, Bool.not_true, Bool.not_false, Bool.true_and, Bool.and_true, Bool.false_and, Bool.and_false, Bool.true_or, Bool.or_true, Bool.false_or, Bool.or_false, divisor_ok k a b h]
  rw [show (b == 0) = false by simpa using hb]
  simp only [Pu.end_ret, Pu.end_next, Pu.end_stuck, Pu.end_throw, Pu.v_slot0, Pu.v_slotS, Pu.v_peekV, Pu.v_peekO, Pu.v_peekS, Pu.v_non, Pu.v_bl, Pu.v_int, Pu.v_str, Pu.v_const, Pu.v_fn, Pu.v_tup, Pu.v_lst, Pu.v_neg, Pu.v_nott, Pu.t_nott, Pu.v_bin, Pu.v_cmp, Pu.t_cmp', Pu.v_andd, Pu.t_andd, Pu.v_orr, Pu.t_orr, Pu.v_ite, Pu.v_call, Pu.v_callv0, Pu.v_prim, Pu.v_isi, Pu.v_idx, Pu.v_slc, Pu.v_comp, Pu.o_non, Pu.o_som, Pu.c_non, Pu.c_som, Pu.e_nil, Pu.e_cons, Pu.av_one, Pu.av_cons, Pu.ov_one, Pu.ov_cons, Pu.at_nil, Pu.at_cons, Pu.ot_nil, Pu.ot_cons, Pu.i_seq', Pu.i_rng1, Pu.i_rng2, Pu.i_zip', Pu.i_enum', Pu.t_slot, Pu.t_peek, Pu.t_bl, Pu.t_call, Pu.t_callv, Pu.t_prim, Pu.t_isi, Pu.t_idx, Pu.b_addI, Pu.b_addT, Pu.b_addL, Pu.b_subI, Pu.b_mulI, Pu.b_divI, Pu.b_modI, Pu.c_lt, Pu.c_le, Pu.c_gt, Pu.c_ge, Pu.c_eqI, Pu.c_neI, Pu.c_eqB, Pu.c_neB, Pu.c_isN, Pu.c_notN, Pu.d_bl, Pu.d_int, Pu.u_bl, Pu.u_int, Pu.u_non, Pu.u_tup, Pu.u_lst, Pu.x_tup, Pu.x_lst, Pu.at0, Pu.at1, Pu.at2, Pu.s_some, Pu.s_none, Pu.p_len, Pu.p_lenL, Pu.p_abs, Pu.p_int, Pu.p_all, Pu.p_any, Pu.p_tupL, Pu.p_tupT, Pu.p_lstL, Pu.p_lstT, Pu.q_tup, Pu.q_lst, Pu.q_scr, Pu.s_nil, Pu.s_wipe, Pu.s_freeze, Pu.s_ret, Pu.s_raise, Pu.s_pass, Pu.s_brk, Pu.s_cont, Pu.s_set, Pu.s_setOwn, Pu.own_lst, Pu.s_par, Pu.a_next, Pu.a_ret, Pu.a_brk, Pu.a_cont, Pu.s_iff, Pu.s_for, Pu.s_while, Pu.s_expr, Pu.s_try, Pu.s_aug, Pu.aug_some, Pu.aug_int, Pu.s_app, Pu.app_own, Pu.p_name, Pu.p_tup, Pu.ps_nil, Pu.ps_cons, Pu.v_tp, Pu.tp_val, Pu.tp_cell, Pu.s_tput, Pu.tput_val, Pu.s_tpop, Pu.tpop_val, Pu.s_tnew, Pu.tnew_lst, Pu.z_pure, Pu.z_seed, Pu.z_head, Pu.z_len, Pu.z_pseed, Pu.z_phead, Pu.z_pop, Pu.M.pure_bind, Pu.M.bind_assoc, Pu.M.bind_pure, Pu.M.stuck_bind, Pu.M.throw_bind, Pu.end_bind, Pu.end_ite, Pu.m_ite, Pu.noExc_pure, List.set_cons_zero, List.set_cons_succ, List.getElem?_cons_zero, List.getElem?_cons_succ, List.length_cons, List.length_nil, List.map_cons, List.map_nil, List.cons_append, List.nil_append, Pu.freezeE, Pu.wipeE, Pu.setsE, if_true, if_false, Bool.false_eq_true, reduceIte, Nat.reduceAdd, Nat.reduceSub, Nat.reduceEqDiff, decide_true, decide_false, Bool.not_true, Bool.not_false, Bool.true_and, Bool.and_true, Bool.false_and, Bool.and_false, Bool.true_or, Bool.or_true, Bool.false_or, Bool.or_false]
  by_cases hn : b < 0
  · have hne : -((Int.gcd a b : Nat) : Int) ≠ 0 := by omega
    simp only [hn, Pu.end_ret, Pu.end_next, Pu.end_stuck, Pu.end_throw, Pu.v_slot0, Pu.v_slotS, Pu.v_peekV, Pu.v_peekO, Pu.v_peekS, Pu.v_non, Pu.v_bl, Pu.v_int, Pu.v_str, Pu.v_const, Pu.v_fn, Pu.v_tup, Pu.v_lst, Pu.v_neg, Pu.v_nott, Pu.t_nott, Pu.v_bin, Pu.v_cmp, Pu.t_cmp', Pu.v_andd, Pu.t_andd, Pu.v_orr, Pu.t_orr, Pu.v_ite, Pu.v_call, Pu.v_callv0, Pu.v_prim, Pu.v_isi, Pu.v_idx, Pu.v_slc, Pu.v_comp, Pu.o_non, Pu.o_som, Pu.c_non, Pu.c_som, Pu.e_nil, Pu.e_cons, Pu.av_one, Pu.av_cons, Pu.ov_one, Pu.ov_cons, Pu.at_nil, Pu.at_cons, Pu.ot_nil, Pu.ot_cons, Pu.i_seq', Pu.i_rng1, Pu.i_rng2, Pu.i_zip', Pu.i_enum', Pu.t_slot, Pu.t_peek, Pu.t_bl, Pu.t_call, Pu.t_callv, Pu.t_prim, Pu.t_isi, Pu.t_idx, Pu.b_addI, Pu.b_addT, Pu.b_addL, Pu.b_subI, Pu.b_mulI, Pu.b_divI, Pu.b_modI, Pu.c_lt, Pu.c_le, Pu.c_gt, Pu.c_ge, Pu.c_eqI, Pu.c_neI, Pu.c_eqB, Pu.c_neB, Pu.c_isN, Pu.c_notN, Pu.d_bl, Pu.d_int, Pu.u_bl, Pu.u_int, Pu.u_non, Pu.u_tup, Pu.u_lst, Pu.x_tup, Pu.x_lst, Pu.at0, Pu.at1, Pu.at2, Pu.s_some, Pu.s_none, Pu.p_len, Pu.p_lenL, Pu.p_abs, Pu.p_int, Pu.p_all, Pu.p_any, Pu.p_tupL, Pu.p_tupT, Pu.p_lstL, Pu.p_lstT, Pu.q_tup, Pu.q_lst, Pu.q_scr, Pu.s_nil, Pu.s_wipe, Pu.s_freeze, Pu.s_ret, Pu.s_raise, Pu.s_pass, Pu.s_brk, Pu.s_cont, Pu.s_set, Pu.s_setOwn, Pu.own_lst, Pu.s_par, Pu.a_next, Pu.a_ret, Pu.a_brk, Pu.a_cont, Pu.s_iff, Pu.s_for, Pu.s_while, Pu.s_expr, Pu.s_try, Pu.s_aug, Pu.aug_some, Pu.aug_int, Pu.s_app, Pu.app_own, Pu.p_name, Pu.p_tup, Pu.ps_nil, Pu.ps_cons, Pu.v_tp, Pu.tp_val, Pu.tp_cell, Pu.s_tput, Pu.tput_val, Pu.s_tpop, Pu.tpop_val, Pu.s_tnew, Pu.tnew_lst, Pu.z_pure, Pu.z_seed, Pu.z_head, Pu.z_len, Pu.z_pseed, Pu.z_phead, Pu.z_pop, Pu.M.pure_bind, Pu.M.bind_assoc, Pu.M.bind_pure, Pu.M.stuck_bind, Pu.M.throw_bind, Pu.end_bind, Pu.end_ite, Pu.m_ite, Pu.noExc_pure, List.set_cons_zero, List.set_cons_succ, List.getElem?_cons_zero, List.getElem?_cons_succ, List.length_cons, List.length_nil, List.map_cons, List.map_nil, List.cons_append, List.nil_append, Pu.freezeE, Pu.wipeE, Pu.setsE, if_true, if_false, Bool.false_eq_true, reduceIte, Nat.reduceAdd, Nat.reduceSub, Nat.reduceEqDiff, decide_true, decide_false, Bool.not_true, Bool.not_false, Bool.true_and, Bool.and_true, Bool.false_and, Bool.and_false, Bool.true_or, Bool.or_true, Bool.false_or, Bool.or_false, gd_pos (Bd.divOk hG.neg hne), (mk_neg hn).1, (mk_neg hn).2, gd_pos sz2]
    rfl
  · have hp : 0 < b := by omega
    simp only [hn, Pu.end_ret, Pu.end_next, Pu.end_stuck, Pu.end_throw, Pu.v_slot0, Pu.v_slotS, Pu.v_peekV, Pu.v_peekO, Pu.v_peekS, Pu.v_non, Pu.v_bl, Pu.v_int, Pu.v_str, Pu.v_const, Pu.v_fn, Pu.v_tup, Pu.v_lst, Pu.v_neg, Pu.v_nott, Pu.t_nott, Pu.v_bin, Pu.v_cmp, Pu.t_cmp', Pu.v_andd, Pu.t_andd, Pu.v_orr, Pu.t_orr, Pu.v_ite, Pu.v_call, Pu.v_callv0, Pu.v_prim, Pu.v_isi, Pu.v_idx, Pu.v_slc, Pu.v_comp, Pu.o_non, Pu.o_som, Pu.c_non, Pu.c_som, Pu.e_nil, Pu.e_cons, Pu.av_one, Pu.av_cons, Pu.ov_one, Pu.ov_cons, Pu.at_nil, Pu.at_cons, Pu.ot_nil, Pu.ot_cons, Pu.i_seq', Pu.i_rng1, Pu.i_rng2, Pu.i_zip', Pu.i_enum', Pu.t_slot, Pu.t_peek, Pu.t_bl, Pu.t_call, Pu.t_callv, Pu.t_prim, Pu.t_isi, Pu.t_idx, Pu.b_addI, Pu.b_addT, Pu.b_addL, Pu.b_subI, Pu.b_mulI, Pu.b_divI, Pu.b_modI, Pu.c_lt, Pu.c_le, Pu.c_gt, Pu.c_ge, Pu.c_eqI, Pu.c_neI, Pu.c_eqB, Pu.c_neB, Pu.c_isN, Pu.c_notN, Pu.d_bl, Pu.d_int, Pu.u_bl, Pu.u_int, Pu.u_non, Pu.u_tup, Pu.u_lst, Pu.x_tup, Pu.x_lst, Pu.at0, Pu.at1, Pu.at2, Pu.s_some, Pu.s_none, Pu.p_len, Pu.p_lenL, Pu.p_abs, Pu.p_int, Pu.p_all, Pu.p_any, Pu.p_tupL, Pu.p_tupT, Pu.p_lstL, Pu.p_lstT, Pu.q_tup, Pu.q_lst, Pu.q_scr, Pu.s_nil, Pu.s_wipe, Pu.s_freeze, Pu.s_ret, Pu.s_raise, Pu.s_pass, Pu.s_brk, Pu.s_cont, Pu.s_set, Pu.s_setOwn, Pu.own_lst, Pu.s_par, Pu.a_next, Pu.a_ret, Pu.a_brk, Pu.a_cont, Pu.s_iff, Pu.s_for, Pu.s_while, Pu.s_expr, Pu.s_try, Pu.s_aug, Pu.aug_some, Pu.aug_int, Pu.s_app, Pu.app_own, Pu.p_name, Pu.p_tup, Pu.ps_nil, Pu.ps_cons, Pu.v_tp, Pu.tp_val, Pu.tp_cell, Pu.s_tput, Pu.tput_val, Pu.s_tpop, Pu.tpop_val, Pu.s_tnew, Pu.tnew_lst, Pu.z_pure, Pu.z_seed, Pu.z_head, Pu.z_len, Pu.z_pseed, Pu.z_phead, Pu.z_pop, Pu.M.pure_bind, Pu.M.bind_assoc, Pu.M.bind_pure, Pu.M.stuck_bind, Pu.M.throw_bind, Pu.end_bind, Pu.end_ite, Pu.m_ite, Pu.noExc_pure, List.set_cons_zero, List.set_cons_succ, List.getElem?_cons_zero, List.getElem?_cons_succ, List.length_cons, List.length_nil, List.map_cons, List.map_nil, List.cons_append, List.nil_append, Pu.freezeE, Pu.wipeE, Pu.setsE, if_true, if_false, Bool.false_eq_true, reduceIte, Nat.reduceAdd, Nat.reduceSub, Nat.reduceEqDiff, decide_true, decide_false, Bool.not_true, Bool.not_false, Bool.true_and, Bool.and_true, Bool.false_and, Bool.and_false, Bool.true_or, Bool.or_true, Bool.false_or, Bool.or_false, gd_pos (Bd.divOk hG hg), (mk_pos hp).1, (mk_pos hp).2, gd_pos sz2]
    rfl
theorem make_bad (k : Nat) (a : Int) : callF T (k + 2) "make" [.int a, .int 0] = throwD "BadNumber" := by
  rw [c_make, run_df _ ⟨rfl, by decide⟩]
  simp only [df_make, Gk_call, Gk_const, List.replicate, Pu.end_ret, Pu.end_next, Pu.end_stuck, Pu.end_throw, Pu.v_slot0, Pu.v_slotS, Pu.v_peekV, Pu.v_peekO, Pu.v_peekS, Pu.v_non, Pu.v_bl, Pu.v_int, Pu.v_str, Pu.v_const, Pu.v_fn, Pu.v_tup, Pu.v_lst, Pu.v_neg, Pu.v_nott, Pu.t_nott, Pu.v_bin, Pu.v_cmp, Pu.t_cmp', Pu.v_andd, Pu.t_andd, Pu.v_orr, Pu.t_orr, Pu.v_ite, Pu.v_call, Pu.v_callv0, Pu.v_prim, Pu.v_isi, Pu.v_idx, Pu.v_slc, Pu.v_comp, Pu.o_non, Pu.o_som, Pu.c_non, Pu.c_som, Pu.e_nil, Pu.e_cons, Pu.av_one, Pu.av_cons, Pu.ov_one, Pu.ov_cons, Pu.at_nil, Pu.at_cons, Pu.ot_nil, Pu.ot_cons, Pu.i_seq', Pu.i_rng1, Pu.i_rng2, Pu.i_zip', Pu.i_enum', Pu.t_slot, Pu.t_peek, Pu.t_bl, Pu.t_call, Pu.t_callv, Pu.t_prim, Pu.t_isi, Pu.t_idx, Pu.b_addI, Pu.b_addT, Pu.b_addL, Pu.b_subI, Pu.b_mulI, Pu.b_divI, Pu.b_modI, Pu.c_lt, Pu.c_le, Pu.c_gt, Pu.c_ge, Pu.c_eqI, Pu.c_neI, Pu.c_eqB, Pu.c_neB, Pu.c_isN, Pu.c_notN, Pu.d_bl, Pu.d_int, Pu.u_bl, Pu.u_int, Pu.u_non, Pu.u_tup, Pu.u_lst, Pu.x_tup, Pu.x_lst, Pu.at0, Pu.at1, Pu.at2, Pu.s_some, Pu.s_none, Pu.p_len, Pu.p_lenL, Pu.p_abs, Pu.p_int, Pu.p_all, Pu.p_any, Pu.p_tupL, Pu.p_tupT, Pu.p_lstL, Pu.p_lstT, Pu.q_tup, Pu.q_lst, Pu.q_scr, Pu.s_nil, Pu.s_wipe, Pu.s_freeze, Pu.s_ret, Pu.s_raise, Pu.s_pass, Pu.s_brk, Pu.s_cont, Pu.s_set, Pu.s_setOwn, Pu.own_lst, Pu.s_par, Pu.a_next, Pu.a_ret, Pu.a_brk, Pu.a_cont, Pu.s_iff, Pu.s_for, Pu.s_while, Pu.s_expr, Pu.s_try, Pu.s_aug, Pu.aug_some, Pu.aug_int, Pu.s_app, Pu.app_own, Pu.p_name, Pu.p_tup, Pu.ps_nil, Pu.ps_cons, Pu.v_tp, Pu.tp_val, Pu.tp_cell, Pu.s_tput, Pu.tput_val, Pu.s_tpop, Pu.tpop_val, Pu.s_tnew, Pu.tnew_lst, Pu.z_pure, Pu.z_seed, Pu.z_head, Pu.z_len, Pu.z_pseed, Pu.z_phead, Pu.z_pop, Pu.M.pure_bind, Pu.M.bind_assoc, Pu.M.bind_pure, Pu.M.stuck_bind, Pu.M.throw_bind, Pu.end_bind, Pu.end_ite, Pu.m_ite, Pu.noExc_pure, List.set_cons_zero, List.set_cons_succ, List.getElem?_cons_zero, List.getElem?_cons_succ, List.length_cons, List.length_nil, List.map_cons, List.map_nil, List.cons_append, List.nil_append, Pu.freezeE, Pu.wipeE, Pu.setsE, if_true, if_false, Bool.false_eq_true, reduceIte, Nat.reduceAdd, Nat.reduceSub, Nat.reduceEqDiff, decide_true, decide_false, Bool.not_true, Bool.not_false, Bool.true_and, Bool.and_true, Bool.false_and, Bool.and_false, Bool.true_or, Bool.or_true, Bool.false_or, Bool.or_false]
  rfl
/-- a fraction of some size -/
def BR (n : Nat) (r : Rat) : Prop := Bd n r.num ∧ Bd n r.den
theorem BR.mono {n m : Nat} {r : Rat} (h : BR n r) (hn : n ≤ m) : BR m r := ⟨h.1.mono hn, h.2.mono hn⟩
theorem BR.div {n : Nat} {a b : Int} (hb : b ≠ 0) (h1 : Bd n a) (h2 : Bd n b) : BR n (Rat.divInt a b) := bd_divInt hb h1 h2
theorem den_ne (r : Rat) : (r.den : Int) ≠ 0 := by have := den_pos r; omega
theorem den2 (x y : Rat) : (x.den : Int) * y.den ≠ 0 := Int.mul_ne_zero (den_ne x) (den_ne y)
theorem rat_add (x y : Rat) : Rat.divInt (x.num * y.den + y.num * x.den) (x.den * y.den) = x + y := by
  rw [← Rat.divInt_add_divInt _ _ (den_ne x) (den_ne y), rat_eq, rat_eq]
theorem rat_sub (x y : Rat) : Rat.divInt (x.num * y.den - y.num * x.den) (x.den * y.den) = x - y := by
  have := rat_add x (-y)
  rw [Rat.neg_num, Rat.neg_den] at this
  rw [Rat.sub_eq_add_neg, ← this]
  congr 1
  rw [Int.neg_mul, Int.sub_eq_add_neg]
theorem rat_mul (x y : Rat) : Rat.divInt (x.num * y.num) (x.den * y.den) = x * y := by
  rw [← Rat.divInt_mul_divInt, rat_eq, rat_eq]
theorem rat_div (x y : Rat) : Rat.divInt (x.num * y.den) (x.den * y.num) = x / y := by
  rw [Rat.div_def, Rat.inv_def, ← Rat.divInt_mul_divInt, rat_eq]
theorem big {n : Nat} {x : Int} (h : Bd n x) (hn : n ≤ 60000000) : Bd 60000000 x := h.mono hn
theorem mok {n m : Nat} {x y : Int} (h : Bd n x) (h' : Bd m y) (hn : n ≤ 60000000 := by decide) (hm : m ≤ 60000000 := by decide) : mulOk x y := (big h hn).mulOk (big h' hm)
theorem BR.add {n : Nat} {x y : Rat} (hx : BR n x) (hy : BR n y) : BR (n + n + 1) (x + y) := by
  rw [← rat_add]
  exact BR.div (den2 x y) ((hx.1.mul hy.2).add (hy.1.mul hx.2)) ((hx.2.mul hy.2).mono (by omega))
theorem BR.sub {n : Nat} {x y : Rat} (hx : BR n x) (hy : BR n y) : BR (n + n + 1) (x - y) := by
  rw [← rat_sub]
  exact BR.div (den2 x y) ((hx.1.mul hy.2).sub (hy.1.mul hx.2)) ((hx.2.mul hy.2).mono (by omega))
theorem BR.mul {n m : Nat} {x y : Rat} (hx : BR n x) (hy : BR m y) : BR (n + m) (x * y) := by
  rw [← rat_mul]
  exact BR.div (den2 x y) (hx.1.mul hy.1) (hx.2.mul hy.2)
theorem BR.quo {n m : Nat} {x y : Rat} (h0 : y.num ≠ 0) (hx : BR n x) (hy : BR m y) : BR (n + m) (x / y) := by
  rw [← rat_div]
  exact BR.div (Int.mul_ne_zero (den_ne x) h0) (hx.1.mul hy.2) (hx.2.mul hy.1)
theorem add_ok (k : Nat) {x y : Rat} (hx : BR 4500 x) (hy : BR 4500 y) : callF T (k + 3) "add" [qD x, qD y] = pure (qD (x + y)) := by
  rw [c_add, run_df _ ⟨rfl, by decide⟩]
  simp only [df_add, qD, Gk_call, Gk_const, List.replicate, Pu.end_ret, Pu.end_next, Pu.end_stuck, Pu.end_throw, Pu.v_slot0, Pu.v_slotS, Pu.v_peekV, Pu.v_peekO, Pu.v_peekS, Pu.v_non, Pu.v_bl, Pu.v_int, Pu.v_str, Pu.v_const, Pu.v_fn, Pu.v_tup, Pu.v_lst, Pu.v_neg, Pu.v_nott, Pu.t_nott, Pu.v_bin, Pu.v_cmp, Pu.t_cmp', Pu.v_andd, Pu.t_andd, Pu.v_orr, Pu.t_orr, Pu.v_ite, Pu.v_call, Pu.v_callv0, Pu.v_prim, Pu.v_isi, Pu.v_idx, Pu.v_slc, Pu.v_comp, Pu.o_non, Pu.o_som, Pu.c_non, Pu.c_som, Pu.e_nil, Pu.e_cons, Pu.av_one, Pu.av_cons, Pu.ov_one, Pu.ov_cons, Pu.at_nil, Pu.at_cons, Pu.ot_nil, Pu.ot_cons, Pu.i_seq', Pu.i_rng1, Pu.i_rng2, Pu.i_zip', Pu.i_enum', Pu.t_slot, Pu.t_peek, Pu.t_bl, Pu.t_call, Pu.t_callv, Pu.t_prim, Pu.t_isi, Pu.t_idx, Pu.b_addI, Pu.b_addT, Pu.b_addL, Pu.b_subI, Pu.b_mulI, Pu.b_divI, Pu.b_modI, Pu.c_lt, Pu.c_le, Pu.c_gt, Pu.c_ge, Pu.c_eqI, Pu.c_neI, Pu.c_eqB, Pu.c_neB, Pu.c_isN, Pu.c_notN, Pu.d_bl, Pu.d_int, Pu.u_bl, Pu.u_int, Pu.u_non, Pu.u_tup, Pu.u_lst, Pu.x_tup, Pu.x_lst, Pu.at0, Pu.at1, Pu.at2, Pu.s_some, Pu.s_none, Pu.p_len, Pu.p_lenL, Pu.p_abs, Pu.p_int, Pu.p_all, Pu.p_any, Pu.p_tupL, Pu.p_tupT, Pu.p_lstL, Pu.p_lstT, Pu.q_tup, Pu.q_lst, Pu.q_scr, Pu.s_nil, Pu.s_wipe, Pu.s_freeze, Pu.s_ret, Pu.s_raise, Pu.s_pass, Pu.s_brk, Pu.s_cont, Pu.s_set, Pu.s_setOwn, Pu.own_lst, Pu.s_par, Pu.a_next, Pu.a_ret, Pu.a_brk, Pu.a_cont, Pu.s_iff, Pu.s_for, Pu.s_while, Pu.s_expr, Pu.s_try, Pu.s_aug, Pu.aug_some, Pu.aug_int, Pu.s_app, Pu.app_own, Pu.p_name, Pu.p_tup, Pu.ps_nil, Pu.ps_cons, Pu.v_tp, Pu.tp_val, Pu.tp_cell, Pu.s_tput, Pu.tput_val, Pu.s_tpop, Pu.tpop_val, Pu.s_tnew, Pu.tnew_lst, Pu.z_pure, Pu.z_seed, Pu.z_head, Pu.z_len, Pu.z_pseed, Pu.z_phead, Pu.z_pop, Pu.M.pure_bind, Pu.M.bind_assoc, Pu.M.bind_pure, Pu.M.stuck_bind, Pu.M.throw_bind, Pu.end_bind, Pu.end_ite, Pu.m_ite, Pu.noExc_pure, List.set_cons_zero, List.set_cons_succ, List.getElem?_cons_zero, List.getElem?_cons_succ, List.length_cons, List.length_nil, List.map_cons, List.map_nil, List.cons_append, List.nil_append, Pu.freezeE, Pu.wipeE, Pu.setsE, if_true, if_false, Bool.false_eq_true, reduceIte, Nat.reduceAdd, Nat.reduceSub, Nat.reduceEqDiff, decide_true, decide_false, Bool.not_true, Bool.not_false, Bool.true_and, Bool.and_true, Bool.false_and, Bool.and_false, Bool.true_or, Bool.or_true, Bool.false_or, Bool.or_false, gd_pos (mok hx.1 hy.2), gd_pos (mok hy.1 hx.2), gd_pos (mok hx.2 hy.2)]
  rw [make_ok k _ _ (den2 x y) (hx.2.mul hy.2), rat_add]
  rfl
theorem subtract_ok (k : Nat) {x y : Rat} (hx : BR 4500 x) (hy : BR 4500 y) : callF T (k + 3) "subtract" [qD x, qD y] = pure (qD (x - y)) := by
  rw [c_subtract, run_df _ ⟨rfl, by decide⟩]
  simp only [df_subtract, qD, Gk_call, Gk_const, List.replicate, Pu.end_ret, Pu.end_next, Pu.end_stuck, Pu.end_throw, Pu.v_slot0, Pu.v_slotS, Pu.v_peekV, Pu.v_peekO, Pu.v_peekS, Pu.v_non, Pu.v_bl, Pu.v_int, Pu.v_str, Pu.v_const, Pu.v_fn, Pu.v_tup, Pu.v_lst, Pu.v_neg, Pu.v_nott, Pu.t_nott, Pu.v_bin, Pu.v_cmp, Pu.t_cmp', Pu.v_andd, Pu.t_andd, Pu.v_orr, Pu.t_orr, Pu.v_ite, Pu.v_call, Pu.v_callv0, Pu.v_prim, Pu.v_isi, Pu.v_idx, Pu.v_slc, Pu.v_comp, Pu.o_non, Pu.o_som, Pu.c_non, Pu.c_som, Pu.e_nil, Pu.e_cons, Pu.av_one, Pu.av_cons, Pu.ov_one, Pu.ov_cons, Pu.at_nil, Pu.at_cons, Pu.ot_nil, Pu.ot_cons, Pu.i_seq', Pu.i_rng1, Pu.i_rng2, Pu.i_zip', Pu.i_enum', Pu.t_slot, Pu.t_peek, Pu.t_bl, Pu.t_call, Pu.t_callv, Pu.t_prim, Pu.t_isi, Pu.t_idx, Pu.b_addI, Pu.b_addT, Pu.b_addL, Pu.b_subI, Pu.b_mulI, Pu.b_divI, Pu.b_modI, Pu.c_lt, Pu.c_le, Pu.c_gt, Pu.c_ge, Pu.c_eqI, Pu.c_neI, Pu.c_eqB, Pu.c_neB, Pu.c_isN, Pu.c_notN, Pu.d_bl, Pu.d_int, Pu.u_bl, Pu.u_int, Pu.u_non, Pu.u_tup, Pu.u_lst, Pu.x_tup, Pu.x_lst, Pu.at0, Pu.at1, Pu.at2, Pu.s_some, Pu.s_none, Pu.p_len, Pu.p_lenL, Pu.p_abs, Pu.p_int, Pu.p_all, Pu.p_any, Pu.p_tupL, Pu.p_tupT, Pu.p_lstL, Pu.p_lstT, Pu.q_tup, Pu.q_lst, Pu.q_scr, Pu.s_nil, Pu.s_wipe, Pu.s_freeze, Pu.s_ret, Pu.s_raise, Pu.s_pass, Pu.s_brk, Pu.s_cont, Pu.s_set, Pu.s_setOwn, Pu.own_lst, Pu.s_par, Pu.a_next, Pu.a_ret, Pu.a_brk, Pu.a_cont, Pu.s_iff, Pu.s_for, Pu.s_while, Pu.s_expr, Pu.s_try, Pu.s_aug, Pu.aug_some, Pu.aug_int, Pu.s_app, Pu.app_own, Pu.p_name, Pu.p_tup, Pu.ps_nil, Pu.ps_cons, Pu.v_tp, Pu.tp_val, Pu.tp_cell, Pu.s_tput, Pu.tput_val, Pu.s_tpop, Pu.tpop_val, Pu.s_tnew, Pu.tnew_lst, Pu.z_pure, Pu.z_seed, Pu.z_head, Pu.z_len, Pu.z_pseed, Pu.z_phead, Pu.z_pop, Pu.M.pure_bind, Pu.M.bind_assoc, Pu.M.bind_pure, Pu.M.stuck_bind, Pu.M.throw_bind, Pu.end_bind, Pu.end_ite, Pu.m_ite, Pu.noExc_pure, List.set_cons_zero, List.set_cons_succ, List.getElem?_cons_zero, List.getElem?_cons_succ, List.length_cons, List.length_nil, List.map_cons, List.map_nil, List.cons_append, List.nil_append, Pu.freezeE, Pu.wipeE, Pu.setsE, if_true, if_false, Bool.false_eq_true, reduceIte, Nat.reduceAdd, Nat.reduceSub, Nat.reduceEqDiff, decide_true, decide_false, Bool.not_true, Bool.not_false, Bool.true_and, Bool.and_true, Bool.false_and, Bool.and_false, Bool.true_or, Bool.or_true, Bool.false_or, Bool.or_false, gd_pos (mok hx.1 hy.2), gd_pos (mok hy.1 hx.2), gd_pos (mok hx.2 hy.2)]
  rw [make_ok k _ _ (den2 x y) (hx.2.mul hy.2), rat_sub]
  rfl
theorem multiply_ok (k : Nat) {x y : Rat} (hx : BR 4500 x) (hy : BR 4500 y) : callF T (k + 3) "multiply" [qD x, qD y] = pure (qD (x * y)) := by
  rw [c_multiply, run_df _ ⟨rfl, by decide⟩]
  simp only [df_multiply, qD, Gk_call, Gk_const, List.replicate, Pu.end_ret, Pu.end_next, Pu.end_stuck, Pu.end_throw, Pu.v_slot0, Pu.v_slotS, Pu.v_peekV, Pu.v_peekO, Pu.v_peekS, Pu.v_non, Pu.v_bl, Pu.v_int, Pu.v_str, Pu.v_const, Pu.v_fn, Pu.v_tup, Pu.v_lst, Pu.v_neg, Pu.v_nott, Pu.t_nott, Pu.v_bin, Pu.v_cmp, Pu.t_cmp', Pu.v_andd, Pu.t_andd, Pu.v_orr, Pu.t_orr, Pu.v_ite, Pu.v_call, Pu.v_callv0, Pu.v_prim, Pu.v_isi, Pu.v_idx, Pu.v_slc, Pu.v_comp, Pu.o_non, Pu.o_som, Pu.c_non, Pu.c_som, Pu.e_nil, Pu.e_cons, Pu.av_one, Pu.av_cons, Pu.ov_one, Pu.ov_cons, Pu.at_nil, Pu.at_cons, Pu.ot_nil, Pu.ot_cons, Pu.i_seq', Pu.i_rng1, Pu.i_rng2, Pu.i_zip', Pu.i_enum', Pu.t_slot, Pu.t_peek, Pu.t_bl, Pu.t_call, Pu.t_callv, Pu.t_prim, Pu.t_isi, Pu.t_idx, Pu.b_addI, Pu.b_addT, Pu.b_addL, Pu.b_subI, Pu.b_mulI, Pu.b_divI, Pu.b_modI, Pu.c_lt, Pu.c_le, Pu.c_gt, Pu.c_ge, Pu.c_eqI, Pu.c_neI, Pu.c_eqB, Pu.c_neB, Pu.c_isN, Pu.c_notN, Pu.d_bl, Pu.d_int, Pu.u_bl, Pu.u_int, Pu.u_non, Pu.u_tup, Pu.u_lst, Pu.x_tup, Pu.x_lst, Pu.at0, Pu.at1, Pu.at2, Pu.s_some, Pu.s_none, Pu.p_len, Pu.p_lenL, Pu.p_abs, Pu.p_int, Pu.p_all, Pu.p_any, Pu.p_tupL, Pu.p_tupT, Pu.p_lstL, Pu.p_lstT, Pu.q_tup, Pu.q_lst, Pu.q_scr, Pu.s_nil, Pu.s_wipe, Pu.s_freeze, Pu.s_ret, Pu.s_raise, Pu.s_pass, Pu.s_brk, Pu.s_cont, Pu.s_set, Pu.s_setOwn, Pu.own_lst, Pu.s_par, Pu.a_next, Pu.a_ret, Pu.a_brk, Pu.a_cont, Pu.s_iff, Pu.s_for, Pu.s_while, Pu.s_expr, Pu.s_try, Pu.s_aug, Pu.aug_some, Pu.aug_int, Pu.s_app, Pu.app_own, Pu.p_name, Pu.p_tup, Pu.ps_nil, Pu.ps_cons, Pu.v_tp, Pu.tp_val, Pu.tp_cell, Pu.s_tput, Pu.tput_val, Pu.s_tpop, Pu.tpop_val, Pu.s_tnew, Pu.tnew_lst, Pu.z_pure, Pu.z_seed, Pu.z_head, Pu.z_len, Pu.z_pseed, Pu.z_phead, Pu.z_pop, Pu.M.pure_bind, Pu.M.bind_assoc, Pu.M.bind_pure, Pu.M.stuck_bind, Pu.M.throw_bind, Pu.end_bind, Pu.end_ite, Pu.m_ite, Pu.noExc_pure, List.set_cons_zero, List.set_cons_succ, List.getElem?_cons_zero, List.getElem?_cons_succ, List.length_cons, List.length_nil, List.map_cons, List.map_nil, List.cons_append, List.nil_append, Pu.freezeE, Pu.wipeE, Pu.setsE, if_true, if_false, Bool.false_eq_true, reduceIte, Nat.reduceAdd, Nat.reduceSub, Nat.reduceEqDiff, decide_true, decide_false, Bool.not_true, Bool.not_false, Bool.true_and, Bool.and_true, Bool.false_and, Bool.and_false, Bool.true_or, Bool.or_true, Bool.false_or, Bool.or_false, gd_pos (mok hx.1 hy.1), gd_pos (mok hx.2 hy.2)]
  rw [make_ok k _ _ (den2 x y) (hx.2.mul hy.2), rat_mul]
  rfl
theorem divide_ok (k : Nat) {x y : Rat} (hx : BR 4500 x) (hy : BR 4500 y) (h0 : y.num ≠ 0) : callF T (k + 3) "divide" [qD x, qD y] = pure (qD (x / y)) := by
  rw [c_divide, run_df _ ⟨rfl, by decide⟩]
  simp only [df_divide, qD, Gk_call, Gk_const, List.replicate, Pu.end_ret, Pu.end_next, Pu.end_stuck, Pu.end_throw, Pu.v_slot0, Pu.v_slotS, Pu.v_peekV, Pu.v_peekO, Pu.v_peekS, Pu.v_non, Pu.v_bl, Pu.v_int, Pu.v_str, Pu.v_const, Pu.v_fn, Pu.v_tup, Pu.v_lst, Pu.v_neg, Pu.v_nott, Pu.t_nott, Pu.v_bin, Pu.v_cmp, Pu.t_cmp', Pu.v_andd, Pu.t_andd, Pu.v_orr, Pu.t_orr, Pu.v_ite, Pu.v_call, Pu.v_callv0, Pu.v_prim, Pu.v_isi, Pu.v_idx, Pu.v_slc, Pu.v_comp, Pu.o_non, Pu.o_som, Pu.c_non, Pu.c_som, Pu.e_nil, Pu.e_cons, Pu.av_one, Pu.av_cons, Pu.ov_one, Pu.ov_cons, Pu.at_nil, Pu.at_cons, Pu.ot_nil, Pu.ot_cons, Pu.i_seq', Pu.i_rng1, Pu.i_rng2, Pu.i_zip', Pu.i_enum', Pu.t_slot, Pu.t_peek, Pu.t_bl, Pu.t_call, Pu.t_callv, Pu.t_prim, Pu.t_isi, Pu.t_idx, Pu.b_addI, Pu.b_addT, Pu.b_addL, Pu.b_subI, Pu.b_mulI, Pu.b_divI, Pu.b_modI, Pu.c_lt, Pu.c_le, Pu.c_gt, Pu.c_ge, Pu.c_eqI, Pu.c_neI, Pu.c_eqB, Pu.c_neB, Pu.c_isN, Pu.c_notN, Pu.d_bl, Pu.d_int, Pu.u_bl, Pu.u_int, Pu.u_non, Pu.u_tup, Pu.u_lst, Pu.x_tup, Pu.x_lst, Pu.at0, Pu.at1, Pu.at2, Pu.s_some, Pu.s_none, Pu.p_len, Pu.p_lenL, Pu.p_abs, Pu.p_int, Pu.p_all, Pu.p_any, Pu.p_tupL, Pu.p_tupT, Pu.p_lstL, Pu.p_lstT, Pu.q_tup, Pu.q_lst, Pu.q_scr, Pu.s_nil, Pu.s_wipe, Pu.s_freeze, Pu.s_ret, Pu.s_raise, Pu.s_pass, Pu.s_brk, Pu.s_cont, Pu.s_set, Pu.s_setOwn, Pu.own_lst, Pu.s_par, Pu.a_next, Pu.a_ret, Pu.a_brk, Pu.a_cont, Pu.s_iff, Pu.s_for, Pu.s_while, Pu.s_expr, Pu.s_try, Pu.s_aug, Pu.aug_some, Pu.aug_int, Pu.s_app, Pu.app_own, Pu.p_name, Pu.p_tup, Pu.ps_nil, Pu.ps_cons, Pu.v_tp, Pu.tp_val, Pu.tp_cell, Pu.s_tput, Pu.tput_val, Pu.s_tpop, Pu.tpop_val, Pu.s_tnew, Pu.tnew_lst, Pu.z_pure, Pu.z_seed, Pu.z_head, Pu.z_len, Pu.z_pseed, Pu.z_phead, Pu.z_pop, Pu.M.pure_bind, Pu.M.bind_assoc, Pu.M.bind_pure, Pu.M.stuck_bind, Pu.M.throw_bind, Pu.end_bind, Pu.end_ite, Pu.m_ite, Pu.noExc_pure, List.set_cons_zero, List.set_cons_succ, List.getElem?_cons_zero, List.getElem?_cons_succ, List.length_cons, List.length_nil, List.map_cons, List.map_nil, List.cons_append, List.nil_append, Pu.freezeE, Pu.wipeE, Pu.setsE, if_true, if_false, Bool.false_eq_true, reduceIte, Nat.reduceAdd, Nat.reduceSub, Nat.reduceEqDiff, decide_true, decide_false, Bool.not_true, Bool.not_false, Bool.true_and, Bool.and_true, Bool.false_and, Bool.and_false, Bool.true_or, Bool.or_true, Bool.false_or, Bool.or_false, show (y.num == 0) = false by simpa using h0, gd_pos (mok hx.1 hy.2), gd_pos (mok hx.2 hy.1)]
  rw [make_ok k _ _ (Int.mul_ne_zero (den_ne x) h0) (hx.2.mul hy.1), rat_div]
  rfl
theorem divide_bad (k : Nat) {x y : Rat} (h0 : y.num = 0) : callF T (k + 3) "divide" [qD x, qD y] = throwD "BadNumber" := by
  rw [c_divide, run_df _ ⟨rfl, by decide⟩]
  simp only [df_divide, qD, h0, Gk_call, Gk_const, List.replicate, Pu.end_ret, Pu.end_next, Pu.end_stuck, Pu.end_throw, Pu.v_slot0, Pu.v_slotS, Pu.v_peekV, Pu.v_peekO, Pu.v_peekS, Pu.v_non, Pu.v_bl, Pu.v_int, Pu.v_str, Pu.v_const, Pu.v_fn, Pu.v_tup, Pu.v_lst, Pu.v_neg, Pu.v_nott, Pu.t_nott, Pu.v_bin, Pu.v_cmp, Pu.t_cmp', Pu.v_andd, Pu.t_andd, Pu.v_orr, Pu.t_orr, Pu.v_ite, Pu.v_call, Pu.v_callv0, Pu.v_prim, Pu.v_isi, Pu.v_idx, Pu.v_slc, Pu.v_comp, Pu.o_non, Pu.o_som, Pu.c_non, Pu.c_som, Pu.e_nil, Pu.e_cons, Pu.av_one, Pu.av_cons, Pu.ov_one, Pu.ov_cons, Pu.at_nil, Pu.at_cons, Pu.ot_nil, Pu.ot_cons, Pu.i_seq', Pu.i_rng1, Pu.i_rng2, Pu.i_zip', Pu.i_enum', Pu.t_slot, Pu.t_peek, Pu.t_bl, Pu.t_call, Pu.t_callv, Pu.t_prim, Pu.t_isi, Pu.t_idx, Pu.b_addI, Pu.b_addT, Pu.b_addL, Pu.b_subI, Pu.b_mulI, Pu.b_divI, Pu.b_modI, Pu.c_lt, Pu.c_le, Pu.c_gt, Pu.c_ge, Pu.c_eqI, Pu.c_neI, Pu.c_eqB, Pu.c_neB, Pu.c_isN, Pu.c_notN, Pu.d_bl, Pu.d_int, Pu.u_bl, Pu.u_int, Pu.u_non, Pu.u_tup, Pu.u_lst, Pu.x_tup, Pu.x_lst, Pu.at0, Pu.at1, Pu.at2, Pu.s_some, Pu.s_none, Pu.p_len, Pu.p_lenL, Pu.p_abs, Pu.p_int, Pu.p_all, Pu.p_any, Pu.p_tupL, Pu.p_tupT, Pu.p_lstL, Pu.p_lstT, Pu.q_tup, Pu.q_lst, Pu.q_scr, Pu.s_nil, Pu.s_wipe, Pu.s_freeze, Pu.s_ret, Pu.s_raise, Pu.s_pass, Pu.s_brk, Pu.s_cont, Pu.s_set, Pu.s_setOwn, Pu.own_lst, Pu.s_par, Pu.a_next, Pu.a_ret, Pu.a_brk, Pu.a_cont, Pu.s_iff, Pu.s_for, Pu.s_while, Pu.s_expr, Pu.s_try, Pu.s_aug, Pu.aug_some, Pu.aug_int, Pu.s_app, Pu.app_own, Pu.p_name, Pu.p_tup, Pu.ps_nil, Pu.ps_cons, Pu.v_tp, Pu.tp_val, Pu.tp_cell, Pu.s_tput, Pu.tput_val, Pu.s_tpop, Pu.tpop_val, Pu.s_tnew, Pu.tnew_lst, Pu.z_pure, Pu.z_seed, Pu.z_head, Pu.z_len, Pu.z_pseed, Pu.z_phead, Pu.z_pop, Pu.M.pure_bind, Pu.M.bind_assoc, Pu.M.bind_pure, Pu.M.stuck_bind, Pu.M.throw_bind, Pu.end_bind, Pu.end_ite, Pu.m_ite, Pu.noExc_pure, List.set_cons_zero, List.set_cons_succ, List.getElem?_cons_zero, List.getElem?_cons_succ, List.length_cons, List.length_nil, List.map_cons, List.map_nil, List.cons_append, List.nil_append, Pu.freezeE, Pu.wipeE, Pu.setsE, if_true, if_false, Bool.false_eq_true, reduceIte, Nat.reduceAdd, Nat.reduceSub, Nat.reduceEqDiff, decide_true, decide_false, Bool.not_true, Bool.not_false, Bool.true_and, Bool.and_true, Bool.false_and, Bool.and_false, Bool.true_or, Bool.or_true, Bool.false_or, Bool.or_false]
  rfl
theorem less_ok (k : Nat) {x y : Rat} (hx : BR 4500 x) (hy : BR 4500 y) : callF T (k + 1) "less" [qD x, qD y] = pure (.bl (decide (x.num * y.den < y.num * x.den))) := by
  rw [c_less, run_df _ ⟨rfl, by decide⟩]
  simp only [df_less, qD, Gk_call, Gk_const, List.replicate, Pu.end_ret, Pu.end_next, Pu.end_stuck, Pu.end_throw, Pu.v_slot0, Pu.v_slotS, Pu.v_peekV, Pu.v_peekO, Pu.v_peekS, Pu.v_non, Pu.v_bl, Pu.v_int, Pu.v_str, Pu.v_const, Pu.v_fn, Pu.v_tup, Pu.v_lst, Pu.v_neg, Pu.v_nott, Pu.t_nott, Pu.v_bin, Pu.v_cmp, Pu.t_cmp', Pu.v_andd, Pu.t_andd, Pu.v_orr, Pu.t_orr, Pu.v_ite, Pu.v_call, Pu.v_callv0, Pu.v_prim, Pu.v_isi, Pu.v_idx, Pu.v_slc, Pu.v_comp, Pu.o_non, Pu.o_som, Pu.c_non, Pu.c_som, Pu.e_nil, Pu.e_cons, Pu.av_one, Pu.av_cons, Pu.ov_one, Pu.ov_cons, Pu.at_nil, Pu.at_cons, Pu.ot_nil, Pu.ot_cons, Pu.i_seq', Pu.i_rng1, Pu.i_rng2, Pu.i_zip', Pu.i_enum', Pu.t_slot, Pu.t_peek, Pu.t_bl, Pu.t_call, Pu.t_callv, Pu.t_prim, Pu.t_isi, Pu.t_idx, Pu.b_addI, Pu.b_addT, Pu.b_addL, Pu.b_subI, Pu.b_mulI, Pu.b_divI, Pu.b_modI, Pu.c_lt, Pu.c_le, Pu.c_gt, Pu.c_ge, Pu.c_eqI, Pu.c_neI, Pu.c_eqB, Pu.c_neB, Pu.c_isN, Pu.c_notN, Pu.d_bl, Pu.d_int, Pu.u_bl, Pu.u_int, Pu.u_non, Pu.u_tup, Pu.u_lst, Pu.x_tup, Pu.x_lst, Pu.at0, Pu.at1, Pu.at2, Pu.s_some, Pu.s_none, Pu.p_len, Pu.p_lenL, Pu.p_abs, Pu.p_int, Pu.p_all, Pu.p_any, Pu.p_tupL, Pu.p_tupT, Pu.p_lstL, Pu.p_lstT, Pu.q_tup, Pu.q_lst, Pu.q_scr, Pu.s_nil, Pu.s_wipe, Pu.s_freeze, Pu.s_ret, Pu.s_raise, Pu.s_pass, Pu.s_brk, Pu.s_cont, Pu.s_set, Pu.s_setOwn, Pu.own_lst, Pu.s_par, Pu.a_next, Pu.a_ret, Pu.a_brk, Pu.a_cont, Pu.s_iff, Pu.s_for, Pu.s_while, Pu.s_expr, Pu.s_try, Pu.s_aug, Pu.aug_some, Pu.aug_int, Pu.s_app, Pu.app_own, Pu.p_name, Pu.p_tup, Pu.ps_nil, Pu.ps_cons, Pu.v_tp, Pu.tp_val, Pu.tp_cell, Pu.s_tput, Pu.tput_val, Pu.s_tpop, Pu.tpop_val, Pu.s_tnew, Pu.tnew_lst, Pu.z_pure, Pu.z_seed, Pu.z_head, Pu.z_len, Pu.z_pseed, Pu.z_phead, Pu.z_pop, Pu.M.pure_bind, Pu.M.bind_assoc, Pu.M.bind_pure, Pu.M.stuck_bind, Pu.M.throw_bind, Pu.end_bind, Pu.end_ite, Pu.m_ite, Pu.noExc_pure, List.set_cons_zero, List.set_cons_succ, List.getElem?_cons_zero, List.getElem?_cons_succ, List.length_cons, List.length_nil, List.map_cons, List.map_nil, List.cons_append, List.nil_append, Pu.freezeE, Pu.wipeE, Pu.setsE, if_true, if_false, Bool.false_eq_true, reduceIte, Nat.reduceAdd, Nat.reduceSub, Nat.reduceEqDiff, decide_true, decide_false, Bool.not_true, Bool.not_false, Bool.true_and, Bool.and_true, Bool.false_and, Bool.and_false, Bool.true_or, Bool.or_true, Bool.false_or, Bool.or_false, gd_pos (mok hx.1 hy.2), gd_pos (mok hy.1 hx.2)]
theorem negative_ok (k : Nat) (x : Rat) : callF T (k + 1) "negative" [qD x] = pure (qD (-x)) := by
  rw [c_negative, run_df _ ⟨rfl, by decide⟩]
  simp only [df_negative, qD, Gk_call, Gk_const, List.replicate, Pu.end_ret, Pu.end_next, Pu.end_stuck, Pu.end_throw, Pu.v_slot0, Pu.v_slotS, Pu.v_peekV, Pu.v_peekO, Pu.v_peekS, Pu.v_non, Pu.v_bl, Pu.v_int, Pu.v_str, Pu.v_const, Pu.v_fn, Pu.v_tup, Pu.v_lst, Pu.v_neg, Pu.v_nott, Pu.t_nott, Pu.v_bin, Pu.v_cmp, Pu.t_cmp', Pu.v_andd, Pu.t_andd, Pu.v_orr, Pu.t_orr, Pu.v_ite, Pu.v_call, Pu.v_callv0, Pu.v_prim, Pu.v_isi, Pu.v_idx, Pu.v_slc, Pu.v_comp, Pu.o_non, Pu.o_som, Pu.c_non, Pu.c_som, Pu.e_nil, Pu.e_cons, Pu.av_one, Pu.av_cons, Pu.ov_one, Pu.ov_cons, Pu.at_nil, Pu.at_cons, Pu.ot_nil, Pu.ot_cons, Pu.i_seq', Pu.i_rng1, Pu.i_rng2, Pu.i_zip', Pu.i_enum', Pu.t_slot, Pu.t_peek, Pu.t_bl, Pu.t_call, Pu.t_callv, Pu.t_prim, Pu.t_isi, Pu.t_idx, Pu.b_addI, Pu.b_addT, Pu.b_addL, Pu.b_subI, Pu.b_mulI, Pu.b_divI, Pu.b_modI, Pu.c_lt, Pu.c_le, Pu.c_gt, Pu.c_ge, Pu.c_eqI, Pu.c_neI, Pu.c_eqB, Pu.c_neB, Pu.c_isN, Pu.c_notN, Pu.d_bl, Pu.d_int, Pu.u_bl, Pu.u_int, Pu.u_non, Pu.u_tup, Pu.u_lst, Pu.x_tup, Pu.x_lst, Pu.at0, Pu.at1, Pu.at2, Pu.s_some, Pu.s_none, Pu.p_len, Pu.p_lenL, Pu.p_abs, Pu.p_int, Pu.p_all, Pu.p_any, Pu.p_tupL, Pu.p_tupT, Pu.p_lstL, Pu.p_lstT, Pu.q_tup, Pu.q_lst, Pu.q_scr, Pu.s_nil, Pu.s_wipe, Pu.s_freeze, Pu.s_ret, Pu.s_raise, Pu.s_pass, Pu.s_brk, Pu.s_cont, Pu.s_set, Pu.s_setOwn, Pu.own_lst, Pu.s_par, Pu.a_next, Pu.a_ret, Pu.a_brk, Pu.a_cont, Pu.s_iff, Pu.s_for, Pu.s_while, Pu.s_expr, Pu.s_try, Pu.s_aug, Pu.aug_some, Pu.aug_int, Pu.s_app, Pu.app_own, Pu.p_name, Pu.p_tup, Pu.ps_nil, Pu.ps_cons, Pu.v_tp, Pu.tp_val, Pu.tp_cell, Pu.s_tput, Pu.tput_val, Pu.s_tpop, Pu.tpop_val, Pu.s_tnew, Pu.tnew_lst, Pu.z_pure, Pu.z_seed, Pu.z_head, Pu.z_len, Pu.z_pseed, Pu.z_phead, Pu.z_pop, Pu.M.pure_bind, Pu.M.bind_assoc, Pu.M.bind_pure, Pu.M.stuck_bind, Pu.M.throw_bind, Pu.end_bind, Pu.end_ite, Pu.m_ite, Pu.noExc_pure, List.set_cons_zero, List.set_cons_succ, List.getElem?_cons_zero, List.getElem?_cons_succ, List.length_cons, List.length_nil, List.map_cons, List.map_nil, List.cons_append, List.nil_append, Pu.freezeE, Pu.wipeE, Pu.setsE, if_true, if_false, Bool.false_eq_true, reduceIte, Nat.reduceAdd, Nat.reduceSub, Nat.reduceEqDiff, decide_true, decide_false, Bool.not_true, Bool.not_false, Bool.true_and, Bool.and_true, Bool.false_and, Bool.and_false, Bool.true_or, Bool.or_true, Bool.false_or, Bool.or_false, gd_pos le2, Rat.neg_num, Rat.neg_den]
theorem sign_ok (k : Nat) (x : Rat) : callF T (k + 1) "sign" [qD x] = pure (.int (if 0 < x.num then 1 else if x.num < 0 then -1 else 0)) := by
  rw [c_sign, run_df _ ⟨rfl, by decide⟩]
  simp only [df_sign, qD, Gk_call, Gk_const, List.replicate, Pu.end_ret, Pu.end_next, Pu.end_stuck, Pu.end_throw, Pu.v_slot0, Pu.v_slotS, Pu.v_peekV, Pu.v_peekO, Pu.v_peekS, Pu.v_non, Pu.v_bl, Pu.v_int, Pu.v_str, Pu.v_const, Pu.v_fn, Pu.v_tup, Pu.v_lst, Pu.v_neg, Pu.v_nott, Pu.t_nott, Pu.v_bin, Pu.v_cmp, Pu.t_cmp', Pu.v_andd, Pu.t_andd, Pu.v_orr, Pu.t_orr, Pu.v_ite, Pu.v_call, Pu.v_callv0, Pu.v_prim, Pu.v_isi, Pu.v_idx, Pu.v_slc, Pu.v_comp, Pu.o_non, Pu.o_som, Pu.c_non, Pu.c_som, Pu.e_nil, Pu.e_cons, Pu.av_one, Pu.av_cons, Pu.ov_one, Pu.ov_cons, Pu.at_nil, Pu.at_cons, Pu.ot_nil, Pu.ot_cons, Pu.i_seq', Pu.i_rng1, Pu.i_rng2, Pu.i_zip', Pu.i_enum', Pu.t_slot, Pu.t_peek, Pu.t_bl, Pu.t_call, Pu.t_callv, Pu.t_prim, Pu.t_isi, Pu.t_idx, Pu.b_addI, Pu.b_addT, Pu.b_addL, Pu.b_subI, Pu.b_mulI, Pu.b_divI, Pu.b_modI, Pu.c_lt, Pu.c_le, Pu.c_gt, Pu.c_ge, Pu.c_eqI, Pu.c_neI, Pu.c_eqB, Pu.c_neB, Pu.c_isN, Pu.c_notN, Pu.d_bl, Pu.d_int, Pu.u_bl, Pu.u_int, Pu.u_non, Pu.u_tup, Pu.u_lst, Pu.x_tup, Pu.x_lst, Pu.at0, Pu.at1, Pu.at2, Pu.s_some, Pu.s_none, Pu.p_len, Pu.p_lenL, Pu.p_abs, Pu.p_int, Pu.p_all, Pu.p_any, Pu.p_tupL, Pu.p_tupT, Pu.p_lstL, Pu.p_lstT, Pu.q_tup, Pu.q_lst, Pu.q_scr, Pu.s_nil, Pu.s_wipe, Pu.s_freeze, Pu.s_ret, Pu.s_raise, Pu.s_pass, Pu.s_brk, Pu.s_cont, Pu.s_set, Pu.s_setOwn, Pu.own_lst, Pu.s_par, Pu.a_next, Pu.a_ret, Pu.a_brk, Pu.a_cont, Pu.s_iff, Pu.s_for, Pu.s_while, Pu.s_expr, Pu.s_try, Pu.s_aug, Pu.aug_some, Pu.aug_int, Pu.s_app, Pu.app_own, Pu.p_name, Pu.p_tup, Pu.ps_nil, Pu.ps_cons, Pu.v_tp, Pu.tp_val, Pu.tp_cell, Pu.s_tput, Pu.tput_val, Pu.s_tpop, Pu.tpop_val, Pu.s_tnew, Pu.tnew_lst, Pu.z_pure, Pu.z_seed, Pu.z_head, Pu.z_len, Pu.z_pseed, Pu.z_phead, Pu.z_pop, Pu.M.pure_bind, Pu.M.bind_assoc, Pu.M.bind_pure, Pu.M.stuck_bind, Pu.M.throw_bind, Pu.end_bind, Pu.end_ite, Pu.m_ite, Pu.noExc_pure, List.set_cons_zero, List.set_cons_succ, List.getElem?_cons_zero, List.getElem?_cons_succ, List.length_cons, List.length_nil, List.map_cons, List.map_nil, List.cons_append, List.nil_append, Pu.freezeE, Pu.wipeE, Pu.setsE, if_true, if_false, Bool.false_eq_true, reduceIte, Nat.reduceAdd, Nat.reduceSub, Nat.reduceEqDiff, decide_true, decide_false, Bool.not_true, Bool.not_false, Bool.true_and, Bool.and_true, Bool.false_and, Bool.and_false, Bool.true_or, Bool.or_true, Bool.false_or, Bool.or_false]
  by_cases h : 0 < x.num <;> by_cases h' : x.num < 0 <;> simp only [h, h', Pu.end_ret, Pu.end_next, Pu.end_stuck, Pu.end_throw, Pu.v_slot0, Pu.v_slotS, Pu.v_peekV, Pu.v_peekO, Pu.v_peekS, Pu.v_non, Pu.v_bl, Pu.v_int, Pu.v_str, Pu.v_const, Pu.v_fn, Pu.v_tup, Pu.v_lst, Pu.v_neg, Pu.v_nott, Pu.t_nott, Pu.v_bin, Pu.v_cmp, Pu.t_cmp', Pu.v_andd, Pu.t_andd, Pu.v_orr, Pu.t_orr, Pu.v_ite, Pu.v_call, Pu.v_callv0, Pu.v_prim, Pu.v_isi, Pu.v_idx, Pu.v_slc, Pu.v_comp, Pu.o_non, Pu.o_som, Pu.c_non, Pu.c_som, Pu.e_nil, Pu.e_cons, Pu.av_one, Pu.av_cons, Pu.ov_one, Pu.ov_cons, Pu.at_nil, Pu.at_cons, Pu.ot_nil, Pu.ot_cons, Pu.i_seq', Pu.i_rng1, Pu.i_rng2, Pu.i_zip', Pu.i_enum', Pu.t_slot, Pu.t_peek, Pu.t_bl, Pu.t_call, Pu.t_callv, Pu.t_prim, Pu.t_isi, Pu.t_idx, Pu.b_addI, Pu.b_addT, Pu.b_addL, Pu.b_subI, Pu.b_mulI, Pu.b_divI, Pu.b_modI, Pu.c_lt, Pu.c_le, Pu.c_gt, Pu.c_ge, Pu.c_eqI, Pu.c_neI, Pu.c_eqB, Pu.c_neB, Pu.c_isN, Pu.c_notN, Pu.d_bl, Pu.d_int, Pu.u_bl, Pu.u_int, Pu.u_non, Pu.u_tup, Pu.u_lst, Pu.x_tup, Pu.x_lst, Pu.at0, Pu.at1, Pu.at2, Pu.s_some, Pu.s_none, Pu.p_len, Pu.p_lenL, Pu.p_abs, Pu.p_int, Pu.p_all, Pu.p_any, Pu.p_tupL, Pu.p_tupT, Pu.p_lstL, Pu.p_lstT, Pu.q_tup, Pu.q_lst, Pu.q_scr, Pu.s_nil, Pu.s_wipe, Pu.s_freeze, Pu.s_ret, Pu.s_raise, Pu.s_pass, Pu.s_brk, Pu.s_cont, Pu.s_set, Pu.s_setOwn, Pu.own_lst, Pu.s_par, Pu.a_next, Pu.a_ret, Pu.a_brk, Pu.a_cont, Pu.s_iff, Pu.s_for, Pu.s_while, Pu.s_expr, Pu.s_try, Pu.s_aug, Pu.aug_some, Pu.aug_int, Pu.s_app, Pu.app_own, Pu.p_name, Pu.p_tup, Pu.ps_nil, Pu.ps_cons, Pu.v_tp, Pu.tp_val, Pu.tp_cell, Pu.s_tput, Pu.tput_val, Pu.s_tpop, Pu.tpop_val, Pu.s_tnew, Pu.tnew_lst, Pu.z_pure, Pu.z_seed, Pu.z_head, Pu.z_len, Pu.z_pseed, Pu.z_phead, Pu.z_pop, Pu.M.pure_bind, Pu.M.bind_assoc, Pu.M.bind_pure, Pu.M.stuck_bind, Pu.M.throw_bind, Pu.end_bind, Pu.end_ite, Pu.m_ite, Pu.noExc_pure, List.set_cons_zero, List.set_cons_succ, List.getElem?_cons_zero, List.getElem?_cons_succ, List.length_cons, List.length_nil, List.map_cons, List.map_nil, List.cons_append, List.nil_append, Pu.freezeE, Pu.wipeE, Pu.setsE, if_true, if_false, Bool.false_eq_true, reduceIte, Nat.reduceAdd, Nat.reduceSub, Nat.reduceEqDiff, decide_true, decide_false, Bool.not_true, Bool.not_false, Bool.true_and, Bool.and_true, Bool.false_and, Bool.and_false, Bool.true_or, Bool.or_true, Bool.false_or, Bool.or_false]
theorem of_ok (k : Nat) (a : Int) : callF T (k + 1) "of" [.int a] = pure (.tup [.int a, .int 1]) := by
  rw [c_of, run_df _ ⟨rfl, by decide⟩]
  simp only [df_of, Gk_call, Gk_const, List.replicate, Pu.end_ret, Pu.end_next, Pu.end_stuck, Pu.end_throw, Pu.v_slot0, Pu.v_slotS, Pu.v_peekV, Pu.v_peekO, Pu.v_peekS, Pu.v_non, Pu.v_bl, Pu.v_int, Pu.v_str, Pu.v_const, Pu.v_fn, Pu.v_tup, Pu.v_lst, Pu.v_neg, Pu.v_nott, Pu.t_nott, Pu.v_bin, Pu.v_cmp, Pu.t_cmp', Pu.v_andd, Pu.t_andd, Pu.v_orr, Pu.t_orr, Pu.v_ite, Pu.v_call, Pu.v_callv0, Pu.v_prim, Pu.v_isi, Pu.v_idx, Pu.v_slc, Pu.v_comp, Pu.o_non, Pu.o_som, Pu.c_non, Pu.c_som, Pu.e_nil, Pu.e_cons, Pu.av_one, Pu.av_cons, Pu.ov_one, Pu.ov_cons, Pu.at_nil, Pu.at_cons, Pu.ot_nil, Pu.ot_cons, Pu.i_seq', Pu.i_rng1, Pu.i_rng2, Pu.i_zip', Pu.i_enum', Pu.t_slot, Pu.t_peek, Pu.t_bl, Pu.t_call, Pu.t_callv, Pu.t_prim, Pu.t_isi, Pu.t_idx, Pu.b_addI, Pu.b_addT, Pu.b_addL, Pu.b_subI, Pu.b_mulI, Pu.b_divI, Pu.b_modI, Pu.c_lt, Pu.c_le, Pu.c_gt, Pu.c_ge, Pu.c_eqI, Pu.c_neI, Pu.c_eqB, Pu.c_neB, Pu.c_isN, Pu.c_notN, Pu.d_bl, Pu.d_int, Pu.u_bl, Pu.u_int, Pu.u_non, Pu.u_tup, Pu.u_lst, Pu.x_tup, Pu.x_lst, Pu.at0, Pu.at1, Pu.at2, Pu.s_some, Pu.s_none, Pu.p_len, Pu.p_lenL, Pu.p_abs, Pu.p_int, Pu.p_all, Pu.p_any, Pu.p_tupL, Pu.p_tupT, Pu.p_lstL, Pu.p_lstT, Pu.q_tup, Pu.q_lst, Pu.q_scr, Pu.s_nil, Pu.s_wipe, Pu.s_freeze, Pu.s_ret, Pu.s_raise, Pu.s_pass, Pu.s_brk, Pu.s_cont, Pu.s_set, Pu.s_setOwn, Pu.own_lst, Pu.s_par, Pu.a_next, Pu.a_ret, Pu.a_brk, Pu.a_cont, Pu.s_iff, Pu.s_for, Pu.s_while, Pu.s_expr, Pu.s_try, Pu.s_aug, Pu.aug_some, Pu.aug_int, Pu.s_app, Pu.app_own, Pu.p_name, Pu.p_tup, Pu.ps_nil, Pu.ps_cons, Pu.v_tp, Pu.tp_val, Pu.tp_cell, Pu.s_tput, Pu.tput_val, Pu.s_tpop, Pu.tpop_val, Pu.s_tnew, Pu.tnew_lst, Pu.z_pure, Pu.z_seed, Pu.z_head, Pu.z_len, Pu.z_pseed, Pu.z_phead, Pu.z_pop, Pu.M.pure_bind, Pu.M.bind_assoc, Pu.M.bind_pure, Pu.M.stuck_bind, Pu.M.throw_bind, Pu.end_bind, Pu.end_ite, Pu.m_ite, Pu.noExc_pure, List.set_cons_zero, List.set_cons_succ, List.getElem?_cons_zero, List.getElem?_cons_succ, List.length_cons, List.length_nil, List.map_cons, List.map_nil, List.cons_append, List.nil_append, Pu.freezeE, Pu.wipeE, Pu.setsE, if_true, if_false, Bool.false_eq_true, reduceIte, Nat.reduceAdd, Nat.reduceSub, Nat.reduceEqDiff, decide_true, decide_false, Bool.not_true, Bool.not_false, Bool.true_and, Bool.and_true, Bool.false_and, Bool.and_false, Bool.true_or, Bool.or_true, Bool.false_or, Bool.or_false, gd_pos le2]
end K00

namespace K00
open PySem PySem.Spec PyProof.Rows L2 Pu
/-! ### the tape -/
def dropZ : List Int → List Int
  | [] => []
  | n :: r => if n = 0 then dropZ r else n :: r
theorem dropZ_len : ∀ c : List Int, (dropZ c).length ≤ c.length
  | [] => Nat.le_refl _
  | n :: r => by
    unfold dropZ
    split
    · exact Nat.le_succ_of_le (dropZ_len r)
    · exact Nat.le_refl _
theorem dropZ_head : ∀ {c : List Int} {n : Int} {r : List Int}, dropZ c = n :: r → n ≠ 0
  | [], _, _, h => by unfold dropZ at h; cases h
  | m :: c, n, r, h => by
    unfold dropZ at h
    split at h
    · exact dropZ_head h
    · cases h; assumption
theorem draw_loop {G : Gam} {U : Sub} {x y z : Option SV} {s : Int} : ∀ (n : Nat) (c : List Int), c.length < n → whileM (ev G (.andd (.cons (.cmp .gt (.tp .len 2) (.int 0)) (.cons (.cmp .eq (.tp .head 2) (.int 0)) .nil)))).t (exSs G U (.cons (.tpop 2) .nil)) n [x, y, some (.val .cells), z] (some (c, s)) =
    .ok (.next [x, y, some (.val .cells), z]) (some (dropZ c, s))
  | 0, c, h => absurd h (Nat.not_lt_zero _)
  | n + 1, [], _ => rfl
  | n + 1, m :: c, h => by
    rw [while_step, M.bind_eq]
    have e : (0 : Int) < (c.length : Int) + 1 := by omega
    simp only [Pu.end_ret, Pu.end_next, Pu.end_stuck, Pu.end_throw, Pu.v_slot0, Pu.v_slotS, Pu.v_peekV, Pu.v_peekO, Pu.v_peekS, Pu.v_non, Pu.v_bl, Pu.v_int, Pu.v_str, Pu.v_const, Pu.v_fn, Pu.v_tup, Pu.v_lst, Pu.v_neg, Pu.v_nott, Pu.t_nott, Pu.v_bin, Pu.v_cmp, Pu.t_cmp', Pu.v_andd, Pu.t_andd, Pu.v_orr, Pu.t_orr, Pu.v_ite, Pu.v_call, Pu.v_callv0, Pu.v_prim, Pu.v_isi, Pu.v_idx, Pu.v_slc, Pu.v_comp, Pu.o_non, Pu.o_som, Pu.c_non, Pu.c_som, Pu.e_nil, Pu.e_cons, Pu.av_one, Pu.av_cons, Pu.ov_one, Pu.ov_cons, Pu.at_nil, Pu.at_cons, Pu.ot_nil, Pu.ot_cons, Pu.i_seq', Pu.i_rng1, Pu.i_rng2, Pu.i_zip', Pu.i_enum', Pu.t_slot, Pu.t_peek, Pu.t_bl, Pu.t_call, Pu.t_callv, Pu.t_prim, Pu.t_isi, Pu.t_idx, Pu.b_addI, Pu.b_addT, Pu.b_addL, Pu.b_subI, Pu.b_mulI, Pu.b_divI, Pu.b_modI, Pu.c_lt, Pu.c_le, Pu.c_gt, Pu.c_ge, Pu.c_eqI, Pu.c_neI, Pu.c_eqB, Pu.c_neB, Pu.c_isN, Pu.c_notN, Pu.d_bl, Pu.d_int, Pu.u_bl, Pu.u_int, Pu.u_non, Pu.u_tup, Pu.u_lst, Pu.x_tup, Pu.x_lst, Pu.at0, Pu.at1, Pu.at2, Pu.s_some, Pu.s_none, Pu.p_len, Pu.p_lenL, Pu.p_abs, Pu.p_int, Pu.p_all, Pu.p_any, Pu.p_tupL, Pu.p_tupT, Pu.p_lstL, Pu.p_lstT, Pu.q_tup, Pu.q_lst, Pu.q_scr, Pu.s_nil, Pu.s_wipe, Pu.s_freeze, Pu.s_ret, Pu.s_raise, Pu.s_pass, Pu.s_brk, Pu.s_cont, Pu.s_set, Pu.s_setOwn, Pu.own_lst, Pu.s_par, Pu.a_next, Pu.a_ret, Pu.a_brk, Pu.a_cont, Pu.s_iff, Pu.s_for, Pu.s_while, Pu.s_expr, Pu.s_try, Pu.s_aug, Pu.aug_some, Pu.aug_int, Pu.s_app, Pu.app_own, Pu.p_name, Pu.p_tup, Pu.ps_nil, Pu.ps_cons, Pu.v_tp, Pu.tp_val, Pu.tp_cell, Pu.s_tput, Pu.tput_val, Pu.s_tpop, Pu.tpop_val, Pu.s_tnew, Pu.tnew_lst, Pu.z_pure, Pu.z_seed, Pu.z_head, Pu.z_len, Pu.z_pseed, Pu.z_phead, Pu.z_pop, Pu.M.pure_bind, Pu.M.bind_assoc, Pu.M.bind_pure, Pu.M.stuck_bind, Pu.M.throw_bind, Pu.end_bind, Pu.end_ite, Pu.m_ite, Pu.noExc_pure, List.set_cons_zero, List.set_cons_succ, List.getElem?_cons_zero, List.getElem?_cons_succ, List.length_cons, List.length_nil, List.map_cons, List.map_nil, List.cons_append, List.nil_append, Pu.freezeE, Pu.wipeE, Pu.setsE, if_true, if_false, Bool.false_eq_true, reduceIte, Nat.reduceAdd, Nat.reduceSub, Nat.reduceEqDiff, decide_true, decide_false, Bool.not_true, Bool.not_false, Bool.true_and, Bool.and_true, Bool.false_and, Bool.and_false, Bool.true_or, Bool.or_true, Bool.false_or, Bool.or_false, M.bind_eq, Int.natCast_add, Int.natCast_succ, Int.cast_ofNat_Int, e]
    have ih := draw_loop (G := G) (U := U) (x := x) (y := y) (z := z) (s := s) n c (by rw [List.length_cons] at h; omega)
    by_cases hm : m = 0
    · subst hm
      simp only [Pu.end_ret, Pu.end_next, Pu.end_stuck, Pu.end_throw, Pu.v_slot0, Pu.v_slotS, Pu.v_peekV, Pu.v_peekO, Pu.v_peekS, Pu.v_non, Pu.v_bl, Pu.v_int, Pu.v_str, Pu.v_const, Pu.v_fn, Pu.v_tup, Pu.v_lst, Pu.v_neg, Pu.v_nott, Pu.t_nott, Pu.v_bin, Pu.v_cmp, Pu.t_cmp', Pu.v_andd, Pu.t_andd, Pu.v_orr, Pu.t_orr, Pu.v_ite, Pu.v_call, Pu.v_callv0, Pu.v_prim, Pu.v_isi, Pu.v_idx, Pu.v_slc, Pu.v_comp, Pu.o_non, Pu.o_som, Pu.c_non, Pu.c_som, Pu.e_nil, Pu.e_cons, Pu.av_one, Pu.av_cons, Pu.ov_one, Pu.ov_cons, Pu.at_nil, Pu.at_cons, Pu.ot_nil, Pu.ot_cons, Pu.i_seq', Pu.i_rng1, Pu.i_rng2, Pu.i_zip', Pu.i_enum', Pu.t_slot, Pu.t_peek, Pu.t_bl, Pu.t_call, Pu.t_callv, Pu.t_prim, Pu.t_isi, Pu.t_idx, Pu.b_addI, Pu.b_addT, Pu.b_addL, Pu.b_subI, Pu.b_mulI, Pu.b_divI, Pu.b_modI, Pu.c_lt, Pu.c_le, Pu.c_gt, Pu.c_ge, Pu.c_eqI, Pu.c_neI, Pu.c_eqB, Pu.c_neB, Pu.c_isN, Pu.c_notN, Pu.d_bl, Pu.d_int, Pu.u_bl, Pu.u_int, Pu.u_non, Pu.u_tup, Pu.u_lst, Pu.x_tup, Pu.x_lst, Pu.at0, Pu.at1, Pu.at2, Pu.s_some, Pu.s_none, Pu.p_len, Pu.p_lenL, Pu.p_abs, Pu.p_int, Pu.p_all, Pu.p_any, Pu.p_tupL, Pu.p_tupT, Pu.p_lstL, Pu.p_lstT, Pu.q_tup, Pu.q_lst, Pu.q_scr, Pu.s_nil, Pu.s_wipe, Pu.s_freeze, Pu.s_ret, Pu.s_raise, Pu.s_pass, Pu.s_brk, Pu.s_cont, Pu.s_set, Pu.s_setOwn, Pu.own_lst, Pu.s_par, Pu.a_next, Pu.a_ret, Pu.a_brk, Pu.a_cont, Pu.s_iff, Pu.s_for, Pu.s_while, Pu.s_expr, Pu.s_try, Pu.s_aug, Pu.aug_some, Pu.aug_int, Pu.s_app, Pu.app_own, Pu.p_name, Pu.p_tup, Pu.ps_nil, Pu.ps_cons, Pu.v_tp, Pu.tp_val, Pu.tp_cell, Pu.s_tput, Pu.tput_val, Pu.s_tpop, Pu.tpop_val, Pu.s_tnew, Pu.tnew_lst, Pu.z_pure, Pu.z_seed, Pu.z_head, Pu.z_len, Pu.z_pseed, Pu.z_phead, Pu.z_pop, Pu.M.pure_bind, Pu.M.bind_assoc, Pu.M.bind_pure, Pu.M.stuck_bind, Pu.M.throw_bind, Pu.end_bind, Pu.end_ite, Pu.m_ite, Pu.noExc_pure, List.set_cons_zero, List.set_cons_succ, List.getElem?_cons_zero, List.getElem?_cons_succ, List.length_cons, List.length_nil, List.map_cons, List.map_nil, List.cons_append, List.nil_append, Pu.freezeE, Pu.wipeE, Pu.setsE, if_true, if_false, Bool.false_eq_true, reduceIte, Nat.reduceAdd, Nat.reduceSub, Nat.reduceEqDiff, decide_true, decide_false, Bool.not_true, Bool.not_false, Bool.true_and, Bool.and_true, Bool.false_and, Bool.and_false, Bool.true_or, Bool.or_true, Bool.false_or, Bool.or_false, M.bind_eq, show ((0 : Int) == 0) = true from rfl, ih]
      rfl
    · simp only [Pu.end_ret, Pu.end_next, Pu.end_stuck, Pu.end_throw, Pu.v_slot0, Pu.v_slotS, Pu.v_peekV, Pu.v_peekO, Pu.v_peekS, Pu.v_non, Pu.v_bl, Pu.v_int, Pu.v_str, Pu.v_const, Pu.v_fn, Pu.v_tup, Pu.v_lst, Pu.v_neg, Pu.v_nott, Pu.t_nott, Pu.v_bin, Pu.v_cmp, Pu.t_cmp', Pu.v_andd, Pu.t_andd, Pu.v_orr, Pu.t_orr, Pu.v_ite, Pu.v_call, Pu.v_callv0, Pu.v_prim, Pu.v_isi, Pu.v_idx, Pu.v_slc, Pu.v_comp, Pu.o_non, Pu.o_som, Pu.c_non, Pu.c_som, Pu.e_nil, Pu.e_cons, Pu.av_one, Pu.av_cons, Pu.ov_one, Pu.ov_cons, Pu.at_nil, Pu.at_cons, Pu.ot_nil, Pu.ot_cons, Pu.i_seq', Pu.i_rng1, Pu.i_rng2, Pu.i_zip', Pu.i_enum', Pu.t_slot, Pu.t_peek, Pu.t_bl, Pu.t_call, Pu.t_callv, Pu.t_prim, Pu.t_isi, Pu.t_idx, Pu.b_addI, Pu.b_addT, Pu.b_addL, Pu.b_subI, Pu.b_mulI, Pu.b_divI, Pu.b_modI, Pu.c_lt, Pu.c_le, Pu.c_gt, Pu.c_ge, Pu.c_eqI, Pu.c_neI, Pu.c_eqB, Pu.c_neB, Pu.c_isN, Pu.c_notN, Pu.d_bl, Pu.d_int, Pu.u_bl, Pu.u_int, Pu.u_non, Pu.u_tup, Pu.u_lst, Pu.x_tup, Pu.x_lst, Pu.at0, Pu.at1, Pu.at2, Pu.s_some, Pu.s_none, Pu.p_len, Pu.p_lenL, Pu.p_abs, Pu.p_int, Pu.p_all, Pu.p_any, Pu.p_tupL, Pu.p_tupT, Pu.p_lstL, Pu.p_lstT, Pu.q_tup, Pu.q_lst, Pu.q_scr, Pu.s_nil, Pu.s_wipe, Pu.s_freeze, Pu.s_ret, Pu.s_raise, Pu.s_pass, Pu.s_brk, Pu.s_cont, Pu.s_set, Pu.s_setOwn, Pu.own_lst, Pu.s_par, Pu.a_next, Pu.a_ret, Pu.a_brk, Pu.a_cont, Pu.s_iff, Pu.s_for, Pu.s_while, Pu.s_expr, Pu.s_try, Pu.s_aug, Pu.aug_some, Pu.aug_int, Pu.s_app, Pu.app_own, Pu.p_name, Pu.p_tup, Pu.ps_nil, Pu.ps_cons, Pu.v_tp, Pu.tp_val, Pu.tp_cell, Pu.s_tput, Pu.tput_val, Pu.s_tpop, Pu.tpop_val, Pu.s_tnew, Pu.tnew_lst, Pu.z_pure, Pu.z_seed, Pu.z_head, Pu.z_len, Pu.z_pseed, Pu.z_phead, Pu.z_pop, Pu.M.pure_bind, Pu.M.bind_assoc, Pu.M.bind_pure, Pu.M.stuck_bind, Pu.M.throw_bind, Pu.end_bind, Pu.end_ite, Pu.m_ite, Pu.noExc_pure, List.set_cons_zero, List.set_cons_succ, List.getElem?_cons_zero, List.getElem?_cons_succ, List.length_cons, List.length_nil, List.map_cons, List.map_nil, List.cons_append, List.nil_append, Pu.freezeE, Pu.wipeE, Pu.setsE, if_true, if_false, Bool.false_eq_true, reduceIte, Nat.reduceAdd, Nat.reduceSub, Nat.reduceEqDiff, decide_true, decide_false, Bool.not_true, Bool.not_false, Bool.true_and, Bool.and_true, Bool.false_and, Bool.and_false, Bool.true_or, Bool.or_true, Bool.false_or, Bool.or_false, M.bind_eq, show (m == 0) = false by simpa using hm]
      unfold dropZ
      rw [if_neg hm]
/-- a tape as the law holds it -/
def TOk (t : Tp) : Prop := ∃ c s, t = some (c, s) ∧ c.length ≤ 63
theorem fu63 {n : Nat} (h : n ≤ 63) : n < FU := by
  unfold FU
  exact Nat.lt_of_le_of_lt h (Nat.lt_of_lt_of_le (by decide : 63 < 2 ^ 6) (Nat.pow_le_pow_right (by decide) (by decide)))
theorem fmod_lt {a b : Int} (h : 0 < b) : 0 ≤ a.fmod b ∧ a.fmod b < b := by
  rw [Int.fmod_eq_emod_of_nonneg _ (by omega)]
  exact ⟨Int.emod_nonneg _ (by omega), Int.emod_lt_of_pos _ h⟩
theorem draw_ok (k : Nat) {m : Int} {t : Tp} (hm : 0 < m) (hb : Bd 30 m) (ht : TOk t) : ∃ r t', callF T (k + 1) "_law_draw" [.tape, .int m] t = .ok (.int r) t' ∧ 0 ≤ r ∧ r < m ∧ TOk t' := by
  obtain ⟨c, s, rfl, hc⟩ := ht
  have hne : m ≠ 0 := by omega
  rw [c__law_draw, run_df _ ⟨rfl, by decide⟩]
  simp only [df__law_draw, Gk_call, Gk_const, List.replicate, Pu.end_ret, Pu.end_next, Pu.end_stuck, Pu.end_throw, Pu.v_slot0, Pu.v_slotS, Pu.v_peekV, Pu.v_peekO, Pu.v_peekS, Pu.v_non, Pu.v_bl, Pu.v_int, Pu.v_str, Pu.v_const, Pu.v_fn, Pu.v_tup, Pu.v_lst, Pu.v_neg, Pu.v_nott, Pu.t_nott, Pu.v_bin, Pu.v_cmp, Pu.t_cmp', Pu.v_andd, Pu.t_andd, Pu.v_orr, Pu.t_orr, Pu.v_ite, Pu.v_call, Pu.v_callv0, Pu.v_prim, Pu.v_isi, Pu.v_idx, Pu.v_slc, Pu.v_comp, Pu.o_non, Pu.o_som, Pu.c_non, Pu.c_som, Pu.e_nil, Pu.e_cons, Pu.av_one, Pu.av_cons, Pu.ov_one, Pu.ov_cons, Pu.at_nil, Pu.at_cons, Pu.ot_nil, Pu.ot_cons, Pu.i_seq', Pu.i_rng1, Pu.i_rng2, Pu.i_zip', Pu.i_enum', Pu.t_slot, Pu.t_peek, Pu.t_bl, Pu.t_call, Pu.t_callv, Pu.t_prim, Pu.t_isi, Pu.t_idx, Pu.b_addI, Pu.b_addT, Pu.b_addL, Pu.b_subI, Pu.b_mulI, Pu.b_divI, Pu.b_modI, Pu.c_lt, Pu.c_le, Pu.c_gt, Pu.c_ge, Pu.c_eqI, Pu.c_neI, Pu.c_eqB, Pu.c_neB, Pu.c_isN, Pu.c_notN, Pu.d_bl, Pu.d_int, Pu.u_bl, Pu.u_int, Pu.u_non, Pu.u_tup, Pu.u_lst, Pu.x_tup, Pu.x_lst, Pu.at0, Pu.at1, Pu.at2, Pu.s_some, Pu.s_none, Pu.p_len, Pu.p_lenL, Pu.p_abs, Pu.p_int, Pu.p_all, Pu.p_any, Pu.p_tupL, Pu.p_tupT, Pu.p_lstL, Pu.p_lstT, Pu.q_tup, Pu.q_lst, Pu.q_scr, Pu.s_nil, Pu.s_wipe, Pu.s_freeze, Pu.s_ret, Pu.s_raise, Pu.s_pass, Pu.s_brk, Pu.s_cont, Pu.s_set, Pu.s_setOwn, Pu.own_lst, Pu.s_par, Pu.a_next, Pu.a_ret, Pu.a_brk, Pu.a_cont, Pu.s_iff, Pu.s_for, Pu.s_while, Pu.s_expr, Pu.s_try, Pu.s_aug, Pu.aug_some, Pu.aug_int, Pu.s_app, Pu.app_own, Pu.p_name, Pu.p_tup, Pu.ps_nil, Pu.ps_cons, Pu.v_tp, Pu.tp_val, Pu.tp_cell, Pu.s_tput, Pu.tput_val, Pu.s_tpop, Pu.tpop_val, Pu.s_tnew, Pu.tnew_lst, Pu.z_pure, Pu.z_seed, Pu.z_head, Pu.z_len, Pu.z_pseed, Pu.z_phead, Pu.z_pop, Pu.M.pure_bind, Pu.M.bind_assoc, Pu.M.bind_pure, Pu.M.stuck_bind, Pu.M.throw_bind, Pu.end_bind, Pu.end_ite, Pu.m_ite, Pu.noExc_pure, List.set_cons_zero, List.set_cons_succ, List.getElem?_cons_zero, List.getElem?_cons_succ, List.length_cons, List.length_nil, List.map_cons, List.map_nil, List.cons_append, List.nil_append, Pu.freezeE, Pu.wipeE, Pu.setsE, if_true, if_false, Bool.false_eq_true, reduceIte, Nat.reduceAdd, Nat.reduceSub, Nat.reduceEqDiff, decide_true, decide_false, Bool.not_true, Bool.not_false, Bool.true_and, Bool.and_true, Bool.false_and, Bool.and_false, Bool.true_or, Bool.or_true, Bool.false_or, Bool.or_false, M.bind_eq, draw_loop FU c (fu63 hc)]
  cases hd : dropZ c with
  | nil =>
    have hk : mulOk s 48271 := mulOk_r (by show (48271 : Int).natAbs < 2 ^ 64; decide)
    have hk2 : ∀ z : Int, divOk z 64 = true := fun z => Bd.divOk (Bd.mono (n := 30) (by show (64 : Int).natAbs < 2 ^ 30; decide) (by decide)) (by decide)
    have h0 : ¬ ((0 : Int) < ((([] : List Int).length : Nat) : Int)) := by decide
    simp only [Pu.end_ret, Pu.end_next, Pu.end_stuck, Pu.end_throw, Pu.v_slot0, Pu.v_slotS, Pu.v_peekV, Pu.v_peekO, Pu.v_peekS, Pu.v_non, Pu.v_bl, Pu.v_int, Pu.v_str, Pu.v_const, Pu.v_fn, Pu.v_tup, Pu.v_lst, Pu.v_neg, Pu.v_nott, Pu.t_nott, Pu.v_bin, Pu.v_cmp, Pu.t_cmp', Pu.v_andd, Pu.t_andd, Pu.v_orr, Pu.t_orr, Pu.v_ite, Pu.v_call, Pu.v_callv0, Pu.v_prim, Pu.v_isi, Pu.v_idx, Pu.v_slc, Pu.v_comp, Pu.o_non, Pu.o_som, Pu.c_non, Pu.c_som, Pu.e_nil, Pu.e_cons, Pu.av_one, Pu.av_cons, Pu.ov_one, Pu.ov_cons, Pu.at_nil, Pu.at_cons, Pu.ot_nil, Pu.ot_cons, Pu.i_seq', Pu.i_rng1, Pu.i_rng2, Pu.i_zip', Pu.i_enum', Pu.t_slot, Pu.t_peek, Pu.t_bl, Pu.t_call, Pu.t_callv, Pu.t_prim, Pu.t_isi, Pu.t_idx, Pu.b_addI, Pu.b_addT, Pu.b_addL, Pu.b_subI, Pu.b_mulI, Pu.b_divI, Pu.b_modI, Pu.c_lt, Pu.c_le, Pu.c_gt, Pu.c_ge, Pu.c_eqI, Pu.c_neI, Pu.c_eqB, Pu.c_neB, Pu.c_isN, Pu.c_notN, Pu.d_bl, Pu.d_int, Pu.u_bl, Pu.u_int, Pu.u_non, Pu.u_tup, Pu.u_lst, Pu.x_tup, Pu.x_lst, Pu.at0, Pu.at1, Pu.at2, Pu.s_some, Pu.s_none, Pu.p_len, Pu.p_lenL, Pu.p_abs, Pu.p_int, Pu.p_all, Pu.p_any, Pu.p_tupL, Pu.p_tupT, Pu.p_lstL, Pu.p_lstT, Pu.q_tup, Pu.q_lst, Pu.q_scr, Pu.s_nil, Pu.s_wipe, Pu.s_freeze, Pu.s_ret, Pu.s_raise, Pu.s_pass, Pu.s_brk, Pu.s_cont, Pu.s_set, Pu.s_setOwn, Pu.own_lst, Pu.s_par, Pu.a_next, Pu.a_ret, Pu.a_brk, Pu.a_cont, Pu.s_iff, Pu.s_for, Pu.s_while, Pu.s_expr, Pu.s_try, Pu.s_aug, Pu.aug_some, Pu.aug_int, Pu.s_app, Pu.app_own, Pu.p_name, Pu.p_tup, Pu.ps_nil, Pu.ps_cons, Pu.v_tp, Pu.tp_val, Pu.tp_cell, Pu.s_tput, Pu.tput_val, Pu.s_tpop, Pu.tpop_val, Pu.s_tnew, Pu.tnew_lst, Pu.z_pure, Pu.z_seed, Pu.z_head, Pu.z_len, Pu.z_pseed, Pu.z_phead, Pu.z_pop, Pu.M.pure_bind, Pu.M.bind_assoc, Pu.M.bind_pure, Pu.M.stuck_bind, Pu.M.throw_bind, Pu.end_bind, Pu.end_ite, Pu.m_ite, Pu.noExc_pure, List.set_cons_zero, List.set_cons_succ, List.getElem?_cons_zero, List.getElem?_cons_succ, List.length_cons, List.length_nil, List.map_cons, List.map_nil, List.cons_append, List.nil_append, Pu.freezeE, Pu.wipeE, Pu.setsE, if_true, if_false, Bool.false_eq_true, reduceIte, Nat.reduceAdd, Nat.reduceSub, Nat.reduceEqDiff, decide_true, decide_false, Bool.not_true, Bool.not_false, Bool.true_and, Bool.and_true, Bool.false_and, Bool.and_false, Bool.true_or, Bool.or_true, Bool.false_or, Bool.or_false, M.bind_eq, h0, gd_pos hk, gd_pos (hk2 _), gd_pos hne, gd_pos (show (2147483647 : Int) ≠ 0 by decide), Int.cast_ofNat_Int, Int.natCast_zero, Int.lt_irrefl, end_next, end_ret]
    exact ⟨_, _, rfl, (fmod_lt hm).1, (fmod_lt hm).2, [], _, rfl, by decide⟩
  | cons n r =>
    have h1 : (0 : Int) < (r.length : Int) + 1 := by omega
    have hl : (n :: r).length ≤ 63 := by rw [← hd]; exact Nat.le_trans (dropZ_len c) hc
    have hd2 : divOk n m = true := Bd.divOk (hb.mono (by decide)) hne
    simp only [Pu.end_ret, Pu.end_next, Pu.end_stuck, Pu.end_throw, Pu.v_slot0, Pu.v_slotS, Pu.v_peekV, Pu.v_peekO, Pu.v_peekS, Pu.v_non, Pu.v_bl, Pu.v_int, Pu.v_str, Pu.v_const, Pu.v_fn, Pu.v_tup, Pu.v_lst, Pu.v_neg, Pu.v_nott, Pu.t_nott, Pu.v_bin, Pu.v_cmp, Pu.t_cmp', Pu.v_andd, Pu.t_andd, Pu.v_orr, Pu.t_orr, Pu.v_ite, Pu.v_call, Pu.v_callv0, Pu.v_prim, Pu.v_isi, Pu.v_idx, Pu.v_slc, Pu.v_comp, Pu.o_non, Pu.o_som, Pu.c_non, Pu.c_som, Pu.e_nil, Pu.e_cons, Pu.av_one, Pu.av_cons, Pu.ov_one, Pu.ov_cons, Pu.at_nil, Pu.at_cons, Pu.ot_nil, Pu.ot_cons, Pu.i_seq', Pu.i_rng1, Pu.i_rng2, Pu.i_zip', Pu.i_enum', Pu.t_slot, Pu.t_peek, Pu.t_bl, Pu.t_call, Pu.t_callv, Pu.t_prim, Pu.t_isi, Pu.t_idx, Pu.b_addI, Pu.b_addT, Pu.b_addL, Pu.b_subI, Pu.b_mulI, Pu.b_divI, Pu.b_modI, Pu.c_lt, Pu.c_le, Pu.c_gt, Pu.c_ge, Pu.c_eqI, Pu.c_neI, Pu.c_eqB, Pu.c_neB, Pu.c_isN, Pu.c_notN, Pu.d_bl, Pu.d_int, Pu.u_bl, Pu.u_int, Pu.u_non, Pu.u_tup, Pu.u_lst, Pu.x_tup, Pu.x_lst, Pu.at0, Pu.at1, Pu.at2, Pu.s_some, Pu.s_none, Pu.p_len, Pu.p_lenL, Pu.p_abs, Pu.p_int, Pu.p_all, Pu.p_any, Pu.p_tupL, Pu.p_tupT, Pu.p_lstL, Pu.p_lstT, Pu.q_tup, Pu.q_lst, Pu.q_scr, Pu.s_nil, Pu.s_wipe, Pu.s_freeze, Pu.s_ret, Pu.s_raise, Pu.s_pass, Pu.s_brk, Pu.s_cont, Pu.s_set, Pu.s_setOwn, Pu.own_lst, Pu.s_par, Pu.a_next, Pu.a_ret, Pu.a_brk, Pu.a_cont, Pu.s_iff, Pu.s_for, Pu.s_while, Pu.s_expr, Pu.s_try, Pu.s_aug, Pu.aug_some, Pu.aug_int, Pu.s_app, Pu.app_own, Pu.p_name, Pu.p_tup, Pu.ps_nil, Pu.ps_cons, Pu.v_tp, Pu.tp_val, Pu.tp_cell, Pu.s_tput, Pu.tput_val, Pu.s_tpop, Pu.tpop_val, Pu.s_tnew, Pu.tnew_lst, Pu.z_pure, Pu.z_seed, Pu.z_head, Pu.z_len, Pu.z_pseed, Pu.z_phead, Pu.z_pop, Pu.M.pure_bind, Pu.M.bind_assoc, Pu.M.bind_pure, Pu.M.stuck_bind, Pu.M.throw_bind, Pu.end_bind, Pu.end_ite, Pu.m_ite, Pu.noExc_pure, List.set_cons_zero, List.set_cons_succ, List.getElem?_cons_zero, List.getElem?_cons_succ, List.length_cons, List.length_nil, List.map_cons, List.map_nil, List.cons_append, List.nil_append, Pu.freezeE, Pu.wipeE, Pu.setsE, if_true, if_false, Bool.false_eq_true, reduceIte, Nat.reduceAdd, Nat.reduceSub, Nat.reduceEqDiff, decide_true, decide_false, Bool.not_true, Bool.not_false, Bool.true_and, Bool.and_true, Bool.false_and, Bool.and_false, Bool.true_or, Bool.or_true, Bool.false_or, Bool.or_false, M.bind_eq, Int.natCast_add, Int.natCast_succ, Int.cast_ofNat_Int, h1, gd_pos hd2, gd_pos hne]
    exact ⟨_, _, rfl, (fmod_lt hm).1, (fmod_lt hm).2, _, _, rfl, hl⟩
theorem draw_is (k : Nat) {m : Int} {t : Tp} {Q : D → Tp → Prop} {E : Str → Tp → Prop} (hm : 0 < m) (hb : Bd 30 m) (ht : TOk t) (h : ∀ r t', 0 ≤ r → r < m → TOk t' → Q (.int r) t') : (callF T (k + 1) "_law_draw" [.tape, .int m] t).is Q E := by
  obtain ⟨r, t', e, h1, h2, h3⟩ := draw_ok k hm hb ht
  exact is_of e (h r t' h1 h2 h3)
theorem bd30 {m : Int} (h : m.natAbs < 2 ^ 30 := by decide) : Bd 30 m := h
theorem run_ex {m : M D} {t : Tp} {Q : D → Tp → Prop} (h : (m t).is Q fun _ _ => False) : ∃ d t', m t = .ok d t' ∧ Q d t' := is_run h
theorem ints_map (ns : List Int) (g : Int → Int) : intsD (ns.map fun i => D.int (g i)) = some (ns.map g) := by
  induction ns with
  | nil => rfl
  | cons n r ih =>
    rw [List.map_cons, List.map_cons]
    show (intsD (r.map fun i => D.int (g i))).map (g n :: ·) = _
    rw [ih]; rfl
def absI : D → D
  | .int i => .int (if i < 0 then -i else i)
  | d => d
theorem len63 {α : Type} {xs : List α} (h : xs.length ≤ 63) : xs.length ≤ sizeLine := Nat.le_trans h (by decide)
/-- the tape is made of the script -/
theorem tape_ok (k : Nat) (ns : List Int) (hl : ns.length ≤ 63) : ∃ t, callF T (k + 1) "_law_tape" [.scr ns] none = .ok .tape t ∧ TOk t := by
  have key : (callF T (k + 1) "_law_tape" [.scr ns] none).is (fun d t => d = D.tape ∧ TOk t) fun _ _ => False := by
    rw [c__law_tape, run_df _ ⟨rfl, by decide⟩]
    simp only [df__law_tape, Gk_call, Gk_const, List.replicate, Pu.end_ret, Pu.end_next, Pu.end_stuck, Pu.end_throw, Pu.v_slot0, Pu.v_slotS, Pu.v_peekV, Pu.v_peekO, Pu.v_peekS, Pu.v_non, Pu.v_bl, Pu.v_int, Pu.v_str, Pu.v_const, Pu.v_fn, Pu.v_tup, Pu.v_lst, Pu.v_neg, Pu.v_nott, Pu.t_nott, Pu.v_bin, Pu.v_cmp, Pu.t_cmp', Pu.v_andd, Pu.t_andd, Pu.v_orr, Pu.t_orr, Pu.v_ite, Pu.v_call, Pu.v_callv0, Pu.v_prim, Pu.v_isi, Pu.v_idx, Pu.v_slc, Pu.v_comp, Pu.o_non, Pu.o_som, Pu.c_non, Pu.c_som, Pu.e_nil, Pu.e_cons, Pu.av_one, Pu.av_cons, Pu.ov_one, Pu.ov_cons, Pu.at_nil, Pu.at_cons, Pu.ot_nil, Pu.ot_cons, Pu.i_seq', Pu.i_rng1, Pu.i_rng2, Pu.i_zip', Pu.i_enum', Pu.t_slot, Pu.t_peek, Pu.t_bl, Pu.t_call, Pu.t_callv, Pu.t_prim, Pu.t_isi, Pu.t_idx, Pu.b_addI, Pu.b_addT, Pu.b_addL, Pu.b_subI, Pu.b_mulI, Pu.b_divI, Pu.b_modI, Pu.c_lt, Pu.c_le, Pu.c_gt, Pu.c_ge, Pu.c_eqI, Pu.c_neI, Pu.c_eqB, Pu.c_neB, Pu.c_isN, Pu.c_notN, Pu.d_bl, Pu.d_int, Pu.u_bl, Pu.u_int, Pu.u_non, Pu.u_tup, Pu.u_lst, Pu.x_tup, Pu.x_lst, Pu.at0, Pu.at1, Pu.at2, Pu.s_some, Pu.s_none, Pu.p_len, Pu.p_lenL, Pu.p_abs, Pu.p_int, Pu.p_all, Pu.p_any, Pu.p_tupL, Pu.p_tupT, Pu.p_lstL, Pu.p_lstT, Pu.q_tup, Pu.q_lst, Pu.q_scr, Pu.s_nil, Pu.s_wipe, Pu.s_freeze, Pu.s_ret, Pu.s_raise, Pu.s_pass, Pu.s_brk, Pu.s_cont, Pu.s_set, Pu.s_setOwn, Pu.own_lst, Pu.s_par, Pu.a_next, Pu.a_ret, Pu.a_brk, Pu.a_cont, Pu.s_iff, Pu.s_for, Pu.s_while, Pu.s_expr, Pu.s_try, Pu.s_aug, Pu.aug_some, Pu.aug_int, Pu.s_app, Pu.app_own, Pu.p_name, Pu.p_tup, Pu.ps_nil, Pu.ps_cons, Pu.v_tp, Pu.tp_val, Pu.tp_cell, Pu.s_tput, Pu.tput_val, Pu.s_tpop, Pu.tpop_val, Pu.s_tnew, Pu.tnew_lst, Pu.z_pure, Pu.z_seed, Pu.z_head, Pu.z_len, Pu.z_pseed, Pu.z_phead, Pu.z_pop, Pu.M.pure_bind, Pu.M.bind_assoc, Pu.M.bind_pure, Pu.M.stuck_bind, Pu.M.throw_bind, Pu.end_bind, Pu.end_ite, Pu.m_ite, Pu.noExc_pure, List.set_cons_zero, List.set_cons_succ, List.getElem?_cons_zero, List.getElem?_cons_succ, List.length_cons, List.length_nil, List.map_cons, List.map_nil, List.cons_append, List.nil_append, Pu.freezeE, Pu.wipeE, Pu.setsE, if_true, if_false, Bool.false_eq_true, reduceIte, Nat.reduceAdd, Nat.reduceSub, Nat.reduceEqDiff, decide_true, decide_false, Bool.not_true, Bool.not_false, Bool.true_and, Bool.and_true, Bool.false_and, Bool.and_false, Bool.true_or, Bool.or_true, Bool.false_or, Bool.or_false]
    refine is_seq (forM_is _ (fun xs σ t => (∃ ms : List Int, xs = ms.map D.int) ∧ (∃ s : Int, σ = [some (.val (.scr ns)), some (.val (.int s)), none]) ∧ t = none) ?_ ?_ _ _ ⟨⟨ns, rfl⟩, ⟨7, rfl⟩, rfl⟩)
    · rintro x r σ t ⟨⟨ms, e⟩, ⟨s, rfl⟩, rfl⟩
      cases ms with
      | nil => cases e
      | cons m ms =>
        cases e
        have hk : mulOk s 31 := mulOk_r (by show (31 : Int).natAbs < 2 ^ 64; decide)
        simp only [Pu.end_ret, Pu.end_next, Pu.end_stuck, Pu.end_throw, Pu.v_slot0, Pu.v_slotS, Pu.v_peekV, Pu.v_peekO, Pu.v_peekS, Pu.v_non, Pu.v_bl, Pu.v_int, Pu.v_str, Pu.v_const, Pu.v_fn, Pu.v_tup, Pu.v_lst, Pu.v_neg, Pu.v_nott, Pu.t_nott, Pu.v_bin, Pu.v_cmp, Pu.t_cmp', Pu.v_andd, Pu.t_andd, Pu.v_orr, Pu.t_orr, Pu.v_ite, Pu.v_call, Pu.v_callv0, Pu.v_prim, Pu.v_isi, Pu.v_idx, Pu.v_slc, Pu.v_comp, Pu.o_non, Pu.o_som, Pu.c_non, Pu.c_som, Pu.e_nil, Pu.e_cons, Pu.av_one, Pu.av_cons, Pu.ov_one, Pu.ov_cons, Pu.at_nil, Pu.at_cons, Pu.ot_nil, Pu.ot_cons, Pu.i_seq', Pu.i_rng1, Pu.i_rng2, Pu.i_zip', Pu.i_enum', Pu.t_slot, Pu.t_peek, Pu.t_bl, Pu.t_call, Pu.t_callv, Pu.t_prim, Pu.t_isi, Pu.t_idx, Pu.b_addI, Pu.b_addT, Pu.b_addL, Pu.b_subI, Pu.b_mulI, Pu.b_divI, Pu.b_modI, Pu.c_lt, Pu.c_le, Pu.c_gt, Pu.c_ge, Pu.c_eqI, Pu.c_neI, Pu.c_eqB, Pu.c_neB, Pu.c_isN, Pu.c_notN, Pu.d_bl, Pu.d_int, Pu.u_bl, Pu.u_int, Pu.u_non, Pu.u_tup, Pu.u_lst, Pu.x_tup, Pu.x_lst, Pu.at0, Pu.at1, Pu.at2, Pu.s_some, Pu.s_none, Pu.p_len, Pu.p_lenL, Pu.p_abs, Pu.p_int, Pu.p_all, Pu.p_any, Pu.p_tupL, Pu.p_tupT, Pu.p_lstL, Pu.p_lstT, Pu.q_tup, Pu.q_lst, Pu.q_scr, Pu.s_nil, Pu.s_wipe, Pu.s_freeze, Pu.s_ret, Pu.s_raise, Pu.s_pass, Pu.s_brk, Pu.s_cont, Pu.s_set, Pu.s_setOwn, Pu.own_lst, Pu.s_par, Pu.a_next, Pu.a_ret, Pu.a_brk, Pu.a_cont, Pu.s_iff, Pu.s_for, Pu.s_while, Pu.s_expr, Pu.s_try, Pu.s_aug, Pu.aug_some, Pu.aug_int, Pu.s_app, Pu.app_own, Pu.p_name, Pu.p_tup, Pu.ps_nil, Pu.ps_cons, Pu.v_tp, Pu.tp_val, Pu.tp_cell, Pu.s_tput, Pu.tput_val, Pu.s_tpop, Pu.tpop_val, Pu.s_tnew, Pu.tnew_lst, Pu.z_pure, Pu.z_seed, Pu.z_head, Pu.z_len, Pu.z_pseed, Pu.z_phead, Pu.z_pop, Pu.M.pure_bind, Pu.M.bind_assoc, Pu.M.bind_pure, Pu.M.stuck_bind, Pu.M.throw_bind, Pu.end_bind, Pu.end_ite, Pu.m_ite, Pu.noExc_pure, List.set_cons_zero, List.set_cons_succ, List.getElem?_cons_zero, List.getElem?_cons_succ, List.length_cons, List.length_nil, List.map_cons, List.map_nil, List.cons_append, List.nil_append, Pu.freezeE, Pu.wipeE, Pu.setsE, if_true, if_false, Bool.false_eq_true, reduceIte, Nat.reduceAdd, Nat.reduceSub, Nat.reduceEqDiff, decide_true, decide_false, Bool.not_true, Bool.not_false, Bool.true_and, Bool.and_true, Bool.false_and, Bool.and_false, Bool.true_or, Bool.or_true, Bool.false_or, Bool.or_false, gd_pos hk, gd_pos (show (1000003 : Int) ≠ 0 by decide)]
        exact ⟨⟨ms, rfl⟩, ⟨_, rfl⟩, rfl⟩
    · rintro σ t ⟨_, ⟨s, rfl⟩, rfl⟩
      simp only [Pu.end_ret, Pu.end_next, Pu.end_stuck, Pu.end_throw, Pu.v_slot0, Pu.v_slotS, Pu.v_peekV, Pu.v_peekO, Pu.v_peekS, Pu.v_non, Pu.v_bl, Pu.v_int, Pu.v_str, Pu.v_const, Pu.v_fn, Pu.v_tup, Pu.v_lst, Pu.v_neg, Pu.v_nott, Pu.t_nott, Pu.v_bin, Pu.v_cmp, Pu.t_cmp', Pu.v_andd, Pu.t_andd, Pu.v_orr, Pu.t_orr, Pu.v_ite, Pu.v_call, Pu.v_callv0, Pu.v_prim, Pu.v_isi, Pu.v_idx, Pu.v_slc, Pu.v_comp, Pu.o_non, Pu.o_som, Pu.c_non, Pu.c_som, Pu.e_nil, Pu.e_cons, Pu.av_one, Pu.av_cons, Pu.ov_one, Pu.ov_cons, Pu.at_nil, Pu.at_cons, Pu.ot_nil, Pu.ot_cons, Pu.i_seq', Pu.i_rng1, Pu.i_rng2, Pu.i_zip', Pu.i_enum', Pu.t_slot, Pu.t_peek, Pu.t_bl, Pu.t_call, Pu.t_callv, Pu.t_prim, Pu.t_isi, Pu.t_idx, Pu.b_addI, Pu.b_addT, Pu.b_addL, Pu.b_subI, Pu.b_mulI, Pu.b_divI, Pu.b_modI, Pu.c_lt, Pu.c_le, Pu.c_gt, Pu.c_ge, Pu.c_eqI, Pu.c_neI, Pu.c_eqB, Pu.c_neB, Pu.c_isN, Pu.c_notN, Pu.d_bl, Pu.d_int, Pu.u_bl, Pu.u_int, Pu.u_non, Pu.u_tup, Pu.u_lst, Pu.x_tup, Pu.x_lst, Pu.at0, Pu.at1, Pu.at2, Pu.s_some, Pu.s_none, Pu.p_len, Pu.p_lenL, Pu.p_abs, Pu.p_int, Pu.p_all, Pu.p_any, Pu.p_tupL, Pu.p_tupT, Pu.p_lstL, Pu.p_lstT, Pu.q_tup, Pu.q_lst, Pu.q_scr, Pu.s_nil, Pu.s_wipe, Pu.s_freeze, Pu.s_ret, Pu.s_raise, Pu.s_pass, Pu.s_brk, Pu.s_cont, Pu.s_set, Pu.s_setOwn, Pu.own_lst, Pu.s_par, Pu.a_next, Pu.a_ret, Pu.a_brk, Pu.a_cont, Pu.s_iff, Pu.s_for, Pu.s_while, Pu.s_expr, Pu.s_try, Pu.s_aug, Pu.aug_some, Pu.aug_int, Pu.s_app, Pu.app_own, Pu.p_name, Pu.p_tup, Pu.ps_nil, Pu.ps_cons, Pu.v_tp, Pu.tp_val, Pu.tp_cell, Pu.s_tput, Pu.tput_val, Pu.s_tpop, Pu.tpop_val, Pu.s_tnew, Pu.tnew_lst, Pu.z_pure, Pu.z_seed, Pu.z_head, Pu.z_len, Pu.z_pseed, Pu.z_phead, Pu.z_pop, Pu.M.pure_bind, Pu.M.bind_assoc, Pu.M.bind_pure, Pu.M.stuck_bind, Pu.M.throw_bind, Pu.end_bind, Pu.end_ite, Pu.m_ite, Pu.noExc_pure, List.set_cons_zero, List.set_cons_succ, List.getElem?_cons_zero, List.getElem?_cons_succ, List.length_cons, List.length_nil, List.map_cons, List.map_nil, List.cons_append, List.nil_append, Pu.freezeE, Pu.wipeE, Pu.setsE, if_true, if_false, Bool.false_eq_true, reduceIte, Nat.reduceAdd, Nat.reduceSub, Nat.reduceEqDiff, decide_true, decide_false, Bool.not_true, Bool.not_false, Bool.true_and, Bool.and_true, Bool.false_and, Bool.and_false, Bool.true_or, Bool.or_true, Bool.false_or, Bool.or_false]
      rw [compM_map0 absI (ns.map D.int) (fun x hx => ?_) (by rw [List.length_map]; exact len63 hl)]
      · rw [List.map_map]
        have e : (ns.map (absI ∘ D.int)) = ns.map fun i => D.int (if i < 0 then -i else i) := rfl
        rw [e]
        simp only [Pu.end_ret, Pu.end_next, Pu.end_stuck, Pu.end_throw, Pu.v_slot0, Pu.v_slotS, Pu.v_peekV, Pu.v_peekO, Pu.v_peekS, Pu.v_non, Pu.v_bl, Pu.v_int, Pu.v_str, Pu.v_const, Pu.v_fn, Pu.v_tup, Pu.v_lst, Pu.v_neg, Pu.v_nott, Pu.t_nott, Pu.v_bin, Pu.v_cmp, Pu.t_cmp', Pu.v_andd, Pu.t_andd, Pu.v_orr, Pu.t_orr, Pu.v_ite, Pu.v_call, Pu.v_callv0, Pu.v_prim, Pu.v_isi, Pu.v_idx, Pu.v_slc, Pu.v_comp, Pu.o_non, Pu.o_som, Pu.c_non, Pu.c_som, Pu.e_nil, Pu.e_cons, Pu.av_one, Pu.av_cons, Pu.ov_one, Pu.ov_cons, Pu.at_nil, Pu.at_cons, Pu.ot_nil, Pu.ot_cons, Pu.i_seq', Pu.i_rng1, Pu.i_rng2, Pu.i_zip', Pu.i_enum', Pu.t_slot, Pu.t_peek, Pu.t_bl, Pu.t_call, Pu.t_callv, Pu.t_prim, Pu.t_isi, Pu.t_idx, Pu.b_addI, Pu.b_addT, Pu.b_addL, Pu.b_subI, Pu.b_mulI, Pu.b_divI, Pu.b_modI, Pu.c_lt, Pu.c_le, Pu.c_gt, Pu.c_ge, Pu.c_eqI, Pu.c_neI, Pu.c_eqB, Pu.c_neB, Pu.c_isN, Pu.c_notN, Pu.d_bl, Pu.d_int, Pu.u_bl, Pu.u_int, Pu.u_non, Pu.u_tup, Pu.u_lst, Pu.x_tup, Pu.x_lst, Pu.at0, Pu.at1, Pu.at2, Pu.s_some, Pu.s_none, Pu.p_len, Pu.p_lenL, Pu.p_abs, Pu.p_int, Pu.p_all, Pu.p_any, Pu.p_tupL, Pu.p_tupT, Pu.p_lstL, Pu.p_lstT, Pu.q_tup, Pu.q_lst, Pu.q_scr, Pu.s_nil, Pu.s_wipe, Pu.s_freeze, Pu.s_ret, Pu.s_raise, Pu.s_pass, Pu.s_brk, Pu.s_cont, Pu.s_set, Pu.s_setOwn, Pu.own_lst, Pu.s_par, Pu.a_next, Pu.a_ret, Pu.a_brk, Pu.a_cont, Pu.s_iff, Pu.s_for, Pu.s_while, Pu.s_expr, Pu.s_try, Pu.s_aug, Pu.aug_some, Pu.aug_int, Pu.s_app, Pu.app_own, Pu.p_name, Pu.p_tup, Pu.ps_nil, Pu.ps_cons, Pu.v_tp, Pu.tp_val, Pu.tp_cell, Pu.s_tput, Pu.tput_val, Pu.s_tpop, Pu.tpop_val, Pu.s_tnew, Pu.tnew_lst, Pu.z_pure, Pu.z_seed, Pu.z_head, Pu.z_len, Pu.z_pseed, Pu.z_phead, Pu.z_pop, Pu.M.pure_bind, Pu.M.bind_assoc, Pu.M.bind_pure, Pu.M.stuck_bind, Pu.M.throw_bind, Pu.end_bind, Pu.end_ite, Pu.m_ite, Pu.noExc_pure, List.set_cons_zero, List.set_cons_succ, List.getElem?_cons_zero, List.getElem?_cons_succ, List.length_cons, List.length_nil, List.map_cons, List.map_nil, List.cons_append, List.nil_append, Pu.freezeE, Pu.wipeE, Pu.setsE, if_true, if_false, Bool.false_eq_true, reduceIte, Nat.reduceAdd, Nat.reduceSub, Nat.reduceEqDiff, decide_true, decide_false, Bool.not_true, Bool.not_false, Bool.true_and, Bool.and_true, Bool.false_and, Bool.and_false, Bool.true_or, Bool.or_true, Bool.false_or, Bool.or_false]
        refine is_seq ?_
        show (match (none : Tp), intsD (ns.map fun i => D.int (if i < 0 then -i else i)) with
          | none, some ns => Res.ok () (some (ns, s + 1))
          | _, _ => .stuck).is _ _
        rw [ints_map]
        exact ⟨rfl, _, _, rfl, by rw [List.length_map]; exact hl⟩
      · obtain ⟨i, hi, rfl⟩ := List.mem_map.mp hx
        simp only [compF, P.slots, Pu.end_ret, Pu.end_next, Pu.end_stuck, Pu.end_throw, Pu.v_slot0, Pu.v_slotS, Pu.v_peekV, Pu.v_peekO, Pu.v_peekS, Pu.v_non, Pu.v_bl, Pu.v_int, Pu.v_str, Pu.v_const, Pu.v_fn, Pu.v_tup, Pu.v_lst, Pu.v_neg, Pu.v_nott, Pu.t_nott, Pu.v_bin, Pu.v_cmp, Pu.t_cmp', Pu.v_andd, Pu.t_andd, Pu.v_orr, Pu.t_orr, Pu.v_ite, Pu.v_call, Pu.v_callv0, Pu.v_prim, Pu.v_isi, Pu.v_idx, Pu.v_slc, Pu.v_comp, Pu.o_non, Pu.o_som, Pu.c_non, Pu.c_som, Pu.e_nil, Pu.e_cons, Pu.av_one, Pu.av_cons, Pu.ov_one, Pu.ov_cons, Pu.at_nil, Pu.at_cons, Pu.ot_nil, Pu.ot_cons, Pu.i_seq', Pu.i_rng1, Pu.i_rng2, Pu.i_zip', Pu.i_enum', Pu.t_slot, Pu.t_peek, Pu.t_bl, Pu.t_call, Pu.t_callv, Pu.t_prim, Pu.t_isi, Pu.t_idx, Pu.b_addI, Pu.b_addT, Pu.b_addL, Pu.b_subI, Pu.b_mulI, Pu.b_divI, Pu.b_modI, Pu.c_lt, Pu.c_le, Pu.c_gt, Pu.c_ge, Pu.c_eqI, Pu.c_neI, Pu.c_eqB, Pu.c_neB, Pu.c_isN, Pu.c_notN, Pu.d_bl, Pu.d_int, Pu.u_bl, Pu.u_int, Pu.u_non, Pu.u_tup, Pu.u_lst, Pu.x_tup, Pu.x_lst, Pu.at0, Pu.at1, Pu.at2, Pu.s_some, Pu.s_none, Pu.p_len, Pu.p_lenL, Pu.p_abs, Pu.p_int, Pu.p_all, Pu.p_any, Pu.p_tupL, Pu.p_tupT, Pu.p_lstL, Pu.p_lstT, Pu.q_tup, Pu.q_lst, Pu.q_scr, Pu.s_nil, Pu.s_wipe, Pu.s_freeze, Pu.s_ret, Pu.s_raise, Pu.s_pass, Pu.s_brk, Pu.s_cont, Pu.s_set, Pu.s_setOwn, Pu.own_lst, Pu.s_par, Pu.a_next, Pu.a_ret, Pu.a_brk, Pu.a_cont, Pu.s_iff, Pu.s_for, Pu.s_while, Pu.s_expr, Pu.s_try, Pu.s_aug, Pu.aug_some, Pu.aug_int, Pu.s_app, Pu.app_own, Pu.p_name, Pu.p_tup, Pu.ps_nil, Pu.ps_cons, Pu.v_tp, Pu.tp_val, Pu.tp_cell, Pu.s_tput, Pu.tput_val, Pu.s_tpop, Pu.tpop_val, Pu.s_tnew, Pu.tnew_lst, Pu.z_pure, Pu.z_seed, Pu.z_head, Pu.z_len, Pu.z_pseed, Pu.z_phead, Pu.z_pop, Pu.M.pure_bind, Pu.M.bind_assoc, Pu.M.bind_pure, Pu.M.stuck_bind, Pu.M.throw_bind, Pu.end_bind, Pu.end_ite, Pu.m_ite, Pu.noExc_pure, List.set_cons_zero, List.set_cons_succ, List.getElem?_cons_zero, List.getElem?_cons_succ, List.length_cons, List.length_nil, List.map_cons, List.map_nil, List.cons_append, List.nil_append, Pu.freezeE, Pu.wipeE, Pu.setsE, if_true, if_false, Bool.false_eq_true, reduceIte, Nat.reduceAdd, Nat.reduceSub, Nat.reduceEqDiff, decide_true, decide_false, Bool.not_true, Bool.not_false, Bool.true_and, Bool.and_true, Bool.false_and, Bool.and_false, Bool.true_or, Bool.or_true, Bool.false_or, Bool.or_false]
        rfl
  obtain ⟨d, t, e, rfl, h⟩ := run_ex key
  exact ⟨t, e, h⟩
/-- a whole number is drawn -/
theorem whole_is (k : Nat) {t : Tp} {Q : D → Tp → Prop} {E : Str → Tp → Prop} (ht : TOk t) (h : ∀ r t', Bd 100 r → TOk t' → Q (.int r) t') : (callF T (k + 2) "_law_whole" [.tape] t).is Q E := by
  rw [c__law_whole, run_df _ ⟨rfl, by decide⟩]
  simp only [df__law_whole, Gk_call, Gk_const, List.replicate, Pu.end_ret, Pu.end_next, Pu.end_stuck, Pu.end_throw, Pu.v_slot0, Pu.v_slotS, Pu.v_peekV, Pu.v_peekO, Pu.v_peekS, Pu.v_non, Pu.v_bl, Pu.v_int, Pu.v_str, Pu.v_const, Pu.v_fn, Pu.v_tup, Pu.v_lst, Pu.v_neg, Pu.v_nott, Pu.t_nott, Pu.v_bin, Pu.v_cmp, Pu.t_cmp', Pu.v_andd, Pu.t_andd, Pu.v_orr, Pu.t_orr, Pu.v_ite, Pu.v_call, Pu.v_callv0, Pu.v_prim, Pu.v_isi, Pu.v_idx, Pu.v_slc, Pu.v_comp, Pu.o_non, Pu.o_som, Pu.c_non, Pu.c_som, Pu.e_nil, Pu.e_cons, Pu.av_one, Pu.av_cons, Pu.ov_one, Pu.ov_cons, Pu.at_nil, Pu.at_cons, Pu.ot_nil, Pu.ot_cons, Pu.i_seq', Pu.i_rng1, Pu.i_rng2, Pu.i_zip', Pu.i_enum', Pu.t_slot, Pu.t_peek, Pu.t_bl, Pu.t_call, Pu.t_callv, Pu.t_prim, Pu.t_isi, Pu.t_idx, Pu.b_addI, Pu.b_addT, Pu.b_addL, Pu.b_subI, Pu.b_mulI, Pu.b_divI, Pu.b_modI, Pu.c_lt, Pu.c_le, Pu.c_gt, Pu.c_ge, Pu.c_eqI, Pu.c_neI, Pu.c_eqB, Pu.c_neB, Pu.c_isN, Pu.c_notN, Pu.d_bl, Pu.d_int, Pu.u_bl, Pu.u_int, Pu.u_non, Pu.u_tup, Pu.u_lst, Pu.x_tup, Pu.x_lst, Pu.at0, Pu.at1, Pu.at2, Pu.s_some, Pu.s_none, Pu.p_len, Pu.p_lenL, Pu.p_abs, Pu.p_int, Pu.p_all, Pu.p_any, Pu.p_tupL, Pu.p_tupT, Pu.p_lstL, Pu.p_lstT, Pu.q_tup, Pu.q_lst, Pu.q_scr, Pu.s_nil, Pu.s_wipe, Pu.s_freeze, Pu.s_ret, Pu.s_raise, Pu.s_pass, Pu.s_brk, Pu.s_cont, Pu.s_set, Pu.s_setOwn, Pu.own_lst, Pu.s_par, Pu.a_next, Pu.a_ret, Pu.a_brk, Pu.a_cont, Pu.s_iff, Pu.s_for, Pu.s_while, Pu.s_expr, Pu.s_try, Pu.s_aug, Pu.aug_some, Pu.aug_int, Pu.s_app, Pu.app_own, Pu.p_name, Pu.p_tup, Pu.ps_nil, Pu.ps_cons, Pu.v_tp, Pu.tp_val, Pu.tp_cell, Pu.s_tput, Pu.tput_val, Pu.s_tpop, Pu.tpop_val, Pu.s_tnew, Pu.tnew_lst, Pu.z_pure, Pu.z_seed, Pu.z_head, Pu.z_len, Pu.z_pseed, Pu.z_phead, Pu.z_pop, Pu.M.pure_bind, Pu.M.bind_assoc, Pu.M.bind_pure, Pu.M.stuck_bind, Pu.M.throw_bind, Pu.end_bind, Pu.end_ite, Pu.m_ite, Pu.noExc_pure, List.set_cons_zero, List.set_cons_succ, List.getElem?_cons_zero, List.getElem?_cons_succ, List.length_cons, List.length_nil, List.map_cons, List.map_nil, List.cons_append, List.nil_append, Pu.freezeE, Pu.wipeE, Pu.setsE, if_true, if_false, Bool.false_eq_true, reduceIte, Nat.reduceAdd, Nat.reduceSub, Nat.reduceEqDiff, decide_true, decide_false, Bool.not_true, Bool.not_false, Bool.true_and, Bool.and_true, Bool.false_and, Bool.and_false, Bool.true_or, Bool.or_true, Bool.false_or, Bool.or_false]
  refine is_seq (draw_is k (by decide) bd30 ht fun r t1 h1 h2 ht1 => ?_)
  simp only [Pu.end_ret, Pu.end_next, Pu.end_stuck, Pu.end_throw, Pu.v_slot0, Pu.v_slotS, Pu.v_peekV, Pu.v_peekO, Pu.v_peekS, Pu.v_non, Pu.v_bl, Pu.v_int, Pu.v_str, Pu.v_const, Pu.v_fn, Pu.v_tup, Pu.v_lst, Pu.v_neg, Pu.v_nott, Pu.t_nott, Pu.v_bin, Pu.v_cmp, Pu.t_cmp', Pu.v_andd, Pu.t_andd, Pu.v_orr, Pu.t_orr, Pu.v_ite, Pu.v_call, Pu.v_callv0, Pu.v_prim, Pu.v_isi, Pu.v_idx, Pu.v_slc, Pu.v_comp, Pu.o_non, Pu.o_som, Pu.c_non, Pu.c_som, Pu.e_nil, Pu.e_cons, Pu.av_one, Pu.av_cons, Pu.ov_one, Pu.ov_cons, Pu.at_nil, Pu.at_cons, Pu.ot_nil, Pu.ot_cons, Pu.i_seq', Pu.i_rng1, Pu.i_rng2, Pu.i_zip', Pu.i_enum', Pu.t_slot, Pu.t_peek, Pu.t_bl, Pu.t_call, Pu.t_callv, Pu.t_prim, Pu.t_isi, Pu.t_idx, Pu.b_addI, Pu.b_addT, Pu.b_addL, Pu.b_subI, Pu.b_mulI, Pu.b_divI, Pu.b_modI, Pu.c_lt, Pu.c_le, Pu.c_gt, Pu.c_ge, Pu.c_eqI, Pu.c_neI, Pu.c_eqB, Pu.c_neB, Pu.c_isN, Pu.c_notN, Pu.d_bl, Pu.d_int, Pu.u_bl, Pu.u_int, Pu.u_non, Pu.u_tup, Pu.u_lst, Pu.x_tup, Pu.x_lst, Pu.at0, Pu.at1, Pu.at2, Pu.s_some, Pu.s_none, Pu.p_len, Pu.p_lenL, Pu.p_abs, Pu.p_int, Pu.p_all, Pu.p_any, Pu.p_tupL, Pu.p_tupT, Pu.p_lstL, Pu.p_lstT, Pu.q_tup, Pu.q_lst, Pu.q_scr, Pu.s_nil, Pu.s_wipe, Pu.s_freeze, Pu.s_ret, Pu.s_raise, Pu.s_pass, Pu.s_brk, Pu.s_cont, Pu.s_set, Pu.s_setOwn, Pu.own_lst, Pu.s_par, Pu.a_next, Pu.a_ret, Pu.a_brk, Pu.a_cont, Pu.s_iff, Pu.s_for, Pu.s_while, Pu.s_expr, Pu.s_try, Pu.s_aug, Pu.aug_some, Pu.aug_int, Pu.s_app, Pu.app_own, Pu.p_name, Pu.p_tup, Pu.ps_nil, Pu.ps_cons, Pu.v_tp, Pu.tp_val, Pu.tp_cell, Pu.s_tput, Pu.tput_val, Pu.s_tpop, Pu.tpop_val, Pu.s_tnew, Pu.tnew_lst, Pu.z_pure, Pu.z_seed, Pu.z_head, Pu.z_len, Pu.z_pseed, Pu.z_phead, Pu.z_pop, Pu.M.pure_bind, Pu.M.bind_assoc, Pu.M.bind_pure, Pu.M.stuck_bind, Pu.M.throw_bind, Pu.end_bind, Pu.end_ite, Pu.m_ite, Pu.noExc_pure, List.set_cons_zero, List.set_cons_succ, List.getElem?_cons_zero, List.getElem?_cons_succ, List.length_cons, List.length_nil, List.map_cons, List.map_nil, List.cons_append, List.nil_append, Pu.freezeE, Pu.wipeE, Pu.setsE, if_true, if_false, Bool.false_eq_true, reduceIte, Nat.reduceAdd, Nat.reduceSub, Nat.reduceEqDiff, decide_true, decide_false, Bool.not_true, Bool.not_false, Bool.true_and, Bool.and_true, Bool.false_and, Bool.and_false, Bool.true_or, Bool.or_true, Bool.false_or, Bool.or_false]
  by_cases e0 : r = 0
  · subst e0
    simp only [Pu.end_ret, Pu.end_next, Pu.end_stuck, Pu.end_throw, Pu.v_slot0, Pu.v_slotS, Pu.v_peekV, Pu.v_peekO, Pu.v_peekS, Pu.v_non, Pu.v_bl, Pu.v_int, Pu.v_str, Pu.v_const, Pu.v_fn, Pu.v_tup, Pu.v_lst, Pu.v_neg, Pu.v_nott, Pu.t_nott, Pu.v_bin, Pu.v_cmp, Pu.t_cmp', Pu.v_andd, Pu.t_andd, Pu.v_orr, Pu.t_orr, Pu.v_ite, Pu.v_call, Pu.v_callv0, Pu.v_prim, Pu.v_isi, Pu.v_idx, Pu.v_slc, Pu.v_comp, Pu.o_non, Pu.o_som, Pu.c_non, Pu.c_som, Pu.e_nil, Pu.e_cons, Pu.av_one, Pu.av_cons, Pu.ov_one, Pu.ov_cons, Pu.at_nil, Pu.at_cons, Pu.ot_nil, Pu.ot_cons, Pu.i_seq', Pu.i_rng1, Pu.i_rng2, Pu.i_zip', Pu.i_enum', Pu.t_slot, Pu.t_peek, Pu.t_bl, Pu.t_call, Pu.t_callv, Pu.t_prim, Pu.t_isi, Pu.t_idx, Pu.b_addI, Pu.b_addT, Pu.b_addL, Pu.b_subI, Pu.b_mulI, Pu.b_divI, Pu.b_modI, Pu.c_lt, Pu.c_le, Pu.c_gt, Pu.c_ge, Pu.c_eqI, Pu.c_neI, Pu.c_eqB, Pu.c_neB, Pu.c_isN, Pu.c_notN, Pu.d_bl, Pu.d_int, Pu.u_bl, Pu.u_int, Pu.u_non, Pu.u_tup, Pu.u_lst, Pu.x_tup, Pu.x_lst, Pu.at0, Pu.at1, Pu.at2, Pu.s_some, Pu.s_none, Pu.p_len, Pu.p_lenL, Pu.p_abs, Pu.p_int, Pu.p_all, Pu.p_any, Pu.p_tupL, Pu.p_tupT, Pu.p_lstL, Pu.p_lstT, Pu.q_tup, Pu.q_lst, Pu.q_scr, Pu.s_nil, Pu.s_wipe, Pu.s_freeze, Pu.s_ret, Pu.s_raise, Pu.s_pass, Pu.s_brk, Pu.s_cont, Pu.s_set, Pu.s_setOwn, Pu.own_lst, Pu.s_par, Pu.a_next, Pu.a_ret, Pu.a_brk, Pu.a_cont, Pu.s_iff, Pu.s_for, Pu.s_while, Pu.s_expr, Pu.s_try, Pu.s_aug, Pu.aug_some, Pu.aug_int, Pu.s_app, Pu.app_own, Pu.p_name, Pu.p_tup, Pu.ps_nil, Pu.ps_cons, Pu.v_tp, Pu.tp_val, Pu.tp_cell, Pu.s_tput, Pu.tput_val, Pu.s_tpop, Pu.tpop_val, Pu.s_tnew, Pu.tnew_lst, Pu.z_pure, Pu.z_seed, Pu.z_head, Pu.z_len, Pu.z_pseed, Pu.z_phead, Pu.z_pop, Pu.M.pure_bind, Pu.M.bind_assoc, Pu.M.bind_pure, Pu.M.stuck_bind, Pu.M.throw_bind, Pu.end_bind, Pu.end_ite, Pu.m_ite, Pu.noExc_pure, List.set_cons_zero, List.set_cons_succ, List.getElem?_cons_zero, List.getElem?_cons_succ, List.length_cons, List.length_nil, List.map_cons, List.map_nil, List.cons_append, List.nil_append, Pu.freezeE, Pu.wipeE, Pu.setsE, if_true, if_false, Bool.false_eq_true, reduceIte, Nat.reduceAdd, Nat.reduceSub, Nat.reduceEqDiff, decide_true, decide_false, Bool.not_true, Bool.not_false, Bool.true_and, Bool.and_true, Bool.false_and, Bool.and_false, Bool.true_or, Bool.or_true, Bool.false_or, Bool.or_false, show ((0 : Int) == 0) = true from rfl]
    refine is_seq (draw_is k (by decide) bd30 ht1 fun r t2 h1 h2 ht2 => ?_)
    exact h _ t2 (by unfold Bd; exact Nat.lt_of_lt_of_le (show _ < 2 ^ 10 by omega) (Nat.pow_le_pow_right (by decide) (by decide))) ht2
  simp only [Pu.end_ret, Pu.end_next, Pu.end_stuck, Pu.end_throw, Pu.v_slot0, Pu.v_slotS, Pu.v_peekV, Pu.v_peekO, Pu.v_peekS, Pu.v_non, Pu.v_bl, Pu.v_int, Pu.v_str, Pu.v_const, Pu.v_fn, Pu.v_tup, Pu.v_lst, Pu.v_neg, Pu.v_nott, Pu.t_nott, Pu.v_bin, Pu.v_cmp, Pu.t_cmp', Pu.v_andd, Pu.t_andd, Pu.v_orr, Pu.t_orr, Pu.v_ite, Pu.v_call, Pu.v_callv0, Pu.v_prim, Pu.v_isi, Pu.v_idx, Pu.v_slc, Pu.v_comp, Pu.o_non, Pu.o_som, Pu.c_non, Pu.c_som, Pu.e_nil, Pu.e_cons, Pu.av_one, Pu.av_cons, Pu.ov_one, Pu.ov_cons, Pu.at_nil, Pu.at_cons, Pu.ot_nil, Pu.ot_cons, Pu.i_seq', Pu.i_rng1, Pu.i_rng2, Pu.i_zip', Pu.i_enum', Pu.t_slot, Pu.t_peek, Pu.t_bl, Pu.t_call, Pu.t_callv, Pu.t_prim, Pu.t_isi, Pu.t_idx, Pu.b_addI, Pu.b_addT, Pu.b_addL, Pu.b_subI, Pu.b_mulI, Pu.b_divI, Pu.b_modI, Pu.c_lt, Pu.c_le, Pu.c_gt, Pu.c_ge, Pu.c_eqI, Pu.c_neI, Pu.c_eqB, Pu.c_neB, Pu.c_isN, Pu.c_notN, Pu.d_bl, Pu.d_int, Pu.u_bl, Pu.u_int, Pu.u_non, Pu.u_tup, Pu.u_lst, Pu.x_tup, Pu.x_lst, Pu.at0, Pu.at1, Pu.at2, Pu.s_some, Pu.s_none, Pu.p_len, Pu.p_lenL, Pu.p_abs, Pu.p_int, Pu.p_all, Pu.p_any, Pu.p_tupL, Pu.p_tupT, Pu.p_lstL, Pu.p_lstT, Pu.q_tup, Pu.q_lst, Pu.q_scr, Pu.s_nil, Pu.s_wipe, Pu.s_freeze, Pu.s_ret, Pu.s_raise, Pu.s_pass, Pu.s_brk, Pu.s_cont, Pu.s_set, Pu.s_setOwn, Pu.own_lst, Pu.s_par, Pu.a_next, Pu.a_ret, Pu.a_brk, Pu.a_cont, Pu.s_iff, Pu.s_for, Pu.s_while, Pu.s_expr, Pu.s_try, Pu.s_aug, Pu.aug_some, Pu.aug_int, Pu.s_app, Pu.app_own, Pu.p_name, Pu.p_tup, Pu.ps_nil, Pu.ps_cons, Pu.v_tp, Pu.tp_val, Pu.tp_cell, Pu.s_tput, Pu.tput_val, Pu.s_tpop, Pu.tpop_val, Pu.s_tnew, Pu.tnew_lst, Pu.z_pure, Pu.z_seed, Pu.z_head, Pu.z_len, Pu.z_pseed, Pu.z_phead, Pu.z_pop, Pu.M.pure_bind, Pu.M.bind_assoc, Pu.M.bind_pure, Pu.M.stuck_bind, Pu.M.throw_bind, Pu.end_bind, Pu.end_ite, Pu.m_ite, Pu.noExc_pure, List.set_cons_zero, List.set_cons_succ, List.getElem?_cons_zero, List.getElem?_cons_succ, List.length_cons, List.length_nil, List.map_cons, List.map_nil, List.cons_append, List.nil_append, Pu.freezeE, Pu.wipeE, Pu.setsE, if_true, if_false, Bool.false_eq_true, reduceIte, Nat.reduceAdd, Nat.reduceSub, Nat.reduceEqDiff, decide_true, decide_false, Bool.not_true, Bool.not_false, Bool.true_and, Bool.and_true, Bool.false_and, Bool.and_false, Bool.true_or, Bool.or_true, Bool.false_or, Bool.or_false, show (r == 0) = false by simpa using e0]
  by_cases e1 : r = 1
  · subst e1
    simp only [Pu.end_ret, Pu.end_next, Pu.end_stuck, Pu.end_throw, Pu.v_slot0, Pu.v_slotS, Pu.v_peekV, Pu.v_peekO, Pu.v_peekS, Pu.v_non, Pu.v_bl, Pu.v_int, Pu.v_str, Pu.v_const, Pu.v_fn, Pu.v_tup, Pu.v_lst, Pu.v_neg, Pu.v_nott, Pu.t_nott, Pu.v_bin, Pu.v_cmp, Pu.t_cmp', Pu.v_andd, Pu.t_andd, Pu.v_orr, Pu.t_orr, Pu.v_ite, Pu.v_call, Pu.v_callv0, Pu.v_prim, Pu.v_isi, Pu.v_idx, Pu.v_slc, Pu.v_comp, Pu.o_non, Pu.o_som, Pu.c_non, Pu.c_som, Pu.e_nil, Pu.e_cons, Pu.av_one, Pu.av_cons, Pu.ov_one, Pu.ov_cons, Pu.at_nil, Pu.at_cons, Pu.ot_nil, Pu.ot_cons, Pu.i_seq', Pu.i_rng1, Pu.i_rng2, Pu.i_zip', Pu.i_enum', Pu.t_slot, Pu.t_peek, Pu.t_bl, Pu.t_call, Pu.t_callv, Pu.t_prim, Pu.t_isi, Pu.t_idx, Pu.b_addI, Pu.b_addT, Pu.b_addL, Pu.b_subI, Pu.b_mulI, Pu.b_divI, Pu.b_modI, Pu.c_lt, Pu.c_le, Pu.c_gt, Pu.c_ge, Pu.c_eqI, Pu.c_neI, Pu.c_eqB, Pu.c_neB, Pu.c_isN, Pu.c_notN, Pu.d_bl, Pu.d_int, Pu.u_bl, Pu.u_int, Pu.u_non, Pu.u_tup, Pu.u_lst, Pu.x_tup, Pu.x_lst, Pu.at0, Pu.at1, Pu.at2, Pu.s_some, Pu.s_none, Pu.p_len, Pu.p_lenL, Pu.p_abs, Pu.p_int, Pu.p_all, Pu.p_any, Pu.p_tupL, Pu.p_tupT, Pu.p_lstL, Pu.p_lstT, Pu.q_tup, Pu.q_lst, Pu.q_scr, Pu.s_nil, Pu.s_wipe, Pu.s_freeze, Pu.s_ret, Pu.s_raise, Pu.s_pass, Pu.s_brk, Pu.s_cont, Pu.s_set, Pu.s_setOwn, Pu.own_lst, Pu.s_par, Pu.a_next, Pu.a_ret, Pu.a_brk, Pu.a_cont, Pu.s_iff, Pu.s_for, Pu.s_while, Pu.s_expr, Pu.s_try, Pu.s_aug, Pu.aug_some, Pu.aug_int, Pu.s_app, Pu.app_own, Pu.p_name, Pu.p_tup, Pu.ps_nil, Pu.ps_cons, Pu.v_tp, Pu.tp_val, Pu.tp_cell, Pu.s_tput, Pu.tput_val, Pu.s_tpop, Pu.tpop_val, Pu.s_tnew, Pu.tnew_lst, Pu.z_pure, Pu.z_seed, Pu.z_head, Pu.z_len, Pu.z_pseed, Pu.z_phead, Pu.z_pop, Pu.M.pure_bind, Pu.M.bind_assoc, Pu.M.bind_pure, Pu.M.stuck_bind, Pu.M.throw_bind, Pu.end_bind, Pu.end_ite, Pu.m_ite, Pu.noExc_pure, List.set_cons_zero, List.set_cons_succ, List.getElem?_cons_zero, List.getElem?_cons_succ, List.length_cons, List.length_nil, List.map_cons, List.map_nil, List.cons_append, List.nil_append, Pu.freezeE, Pu.wipeE, Pu.setsE, if_true, if_false, Bool.false_eq_true, reduceIte, Nat.reduceAdd, Nat.reduceSub, Nat.reduceEqDiff, decide_true, decide_false, Bool.not_true, Bool.not_false, Bool.true_and, Bool.and_true, Bool.false_and, Bool.and_false, Bool.true_or, Bool.or_true, Bool.false_or, Bool.or_false, show ((1 : Int) == 1) = true from rfl]
    refine is_seq (draw_is k (by decide) bd30 ht1 fun r t2 h1 h2 ht2 => ?_)
    exact h _ t2 (by unfold Bd; exact Nat.lt_of_lt_of_le (show _ < 2 ^ 12 by omega) (Nat.pow_le_pow_right (by decide) (by decide))) ht2
  simp only [Pu.end_ret, Pu.end_next, Pu.end_stuck, Pu.end_throw, Pu.v_slot0, Pu.v_slotS, Pu.v_peekV, Pu.v_peekO, Pu.v_peekS, Pu.v_non, Pu.v_bl, Pu.v_int, Pu.v_str, Pu.v_const, Pu.v_fn, Pu.v_tup, Pu.v_lst, Pu.v_neg, Pu.v_nott, Pu.t_nott, Pu.v_bin, Pu.v_cmp, Pu.t_cmp', Pu.v_andd, Pu.t_andd, Pu.v_orr, Pu.t_orr, Pu.v_ite, Pu.v_call, Pu.v_callv0, Pu.v_prim, Pu.v_isi, Pu.v_idx, Pu.v_slc, Pu.v_comp, Pu.o_non, Pu.o_som, Pu.c_non, Pu.c_som, Pu.e_nil, Pu.e_cons, Pu.av_one, Pu.av_cons, Pu.ov_one, Pu.ov_cons, Pu.at_nil, Pu.at_cons, Pu.ot_nil, Pu.ot_cons, Pu.i_seq', Pu.i_rng1, Pu.i_rng2, Pu.i_zip', Pu.i_enum', Pu.t_slot, Pu.t_peek, Pu.t_bl, Pu.t_call, Pu.t_callv, Pu.t_prim, Pu.t_isi, Pu.t_idx, Pu.b_addI, Pu.b_addT, Pu.b_addL, Pu.b_subI, Pu.b_mulI, Pu.b_divI, Pu.b_modI, Pu.c_lt, Pu.c_le, Pu.c_gt, Pu.c_ge, Pu.c_eqI, Pu.c_neI, Pu.c_eqB, Pu.c_neB, Pu.c_isN, Pu.c_notN, Pu.d_bl, Pu.d_int, Pu.u_bl, Pu.u_int, Pu.u_non, Pu.u_tup, Pu.u_lst, Pu.x_tup, Pu.x_lst, Pu.at0, Pu.at1, Pu.at2, Pu.s_some, Pu.s_none, Pu.p_len, Pu.p_lenL, Pu.p_abs, Pu.p_int, Pu.p_all, Pu.p_any, Pu.p_tupL, Pu.p_tupT, Pu.p_lstL, Pu.p_lstT, Pu.q_tup, Pu.q_lst, Pu.q_scr, Pu.s_nil, Pu.s_wipe, Pu.s_freeze, Pu.s_ret, Pu.s_raise, Pu.s_pass, Pu.s_brk, Pu.s_cont, Pu.s_set, Pu.s_setOwn, Pu.own_lst, Pu.s_par, Pu.a_next, Pu.a_ret, Pu.a_brk, Pu.a_cont, Pu.s_iff, Pu.s_for, Pu.s_while, Pu.s_expr, Pu.s_try, Pu.s_aug, Pu.aug_some, Pu.aug_int, Pu.s_app, Pu.app_own, Pu.p_name, Pu.p_tup, Pu.ps_nil, Pu.ps_cons, Pu.v_tp, Pu.tp_val, Pu.tp_cell, Pu.s_tput, Pu.tput_val, Pu.s_tpop, Pu.tpop_val, Pu.s_tnew, Pu.tnew_lst, Pu.z_pure, Pu.z_seed, Pu.z_head, Pu.z_len, Pu.z_pseed, Pu.z_phead, Pu.z_pop, Pu.M.pure_bind, Pu.M.bind_assoc, Pu.M.bind_pure, Pu.M.stuck_bind, Pu.M.throw_bind, Pu.end_bind, Pu.end_ite, Pu.m_ite, Pu.noExc_pure, List.set_cons_zero, List.set_cons_succ, List.getElem?_cons_zero, List.getElem?_cons_succ, List.length_cons, List.length_nil, List.map_cons, List.map_nil, List.cons_append, List.nil_append, Pu.freezeE, Pu.wipeE, Pu.setsE, if_true, if_false, Bool.false_eq_true, reduceIte, Nat.reduceAdd, Nat.reduceSub, Nat.reduceEqDiff, decide_true, decide_false, Bool.not_true, Bool.not_false, Bool.true_and, Bool.and_true, Bool.false_and, Bool.and_false, Bool.true_or, Bool.or_true, Bool.false_or, Bool.or_false, show (r == 1) = false by simpa using e1]
  have hk : mulOk 2 r := mulOk_l (by show (2 : Int).natAbs < 2 ^ 64; decide)
  have hrg : -2 ^ 62 ≤ 2 * r ∧ 2 * r < 2 ^ 62 := by omega
  simp only [Pu.end_ret, Pu.end_next, Pu.end_stuck, Pu.end_throw, Pu.v_slot0, Pu.v_slotS, Pu.v_peekV, Pu.v_peekO, Pu.v_peekS, Pu.v_non, Pu.v_bl, Pu.v_int, Pu.v_str, Pu.v_const, Pu.v_fn, Pu.v_tup, Pu.v_lst, Pu.v_neg, Pu.v_nott, Pu.t_nott, Pu.v_bin, Pu.v_cmp, Pu.t_cmp', Pu.v_andd, Pu.t_andd, Pu.v_orr, Pu.t_orr, Pu.v_ite, Pu.v_call, Pu.v_callv0, Pu.v_prim, Pu.v_isi, Pu.v_idx, Pu.v_slc, Pu.v_comp, Pu.o_non, Pu.o_som, Pu.c_non, Pu.c_som, Pu.e_nil, Pu.e_cons, Pu.av_one, Pu.av_cons, Pu.ov_one, Pu.ov_cons, Pu.at_nil, Pu.at_cons, Pu.ot_nil, Pu.ot_cons, Pu.i_seq', Pu.i_rng1, Pu.i_rng2, Pu.i_zip', Pu.i_enum', Pu.t_slot, Pu.t_peek, Pu.t_bl, Pu.t_call, Pu.t_callv, Pu.t_prim, Pu.t_isi, Pu.t_idx, Pu.b_addI, Pu.b_addT, Pu.b_addL, Pu.b_subI, Pu.b_mulI, Pu.b_divI, Pu.b_modI, Pu.c_lt, Pu.c_le, Pu.c_gt, Pu.c_ge, Pu.c_eqI, Pu.c_neI, Pu.c_eqB, Pu.c_neB, Pu.c_isN, Pu.c_notN, Pu.d_bl, Pu.d_int, Pu.u_bl, Pu.u_int, Pu.u_non, Pu.u_tup, Pu.u_lst, Pu.x_tup, Pu.x_lst, Pu.at0, Pu.at1, Pu.at2, Pu.s_some, Pu.s_none, Pu.p_len, Pu.p_lenL, Pu.p_abs, Pu.p_int, Pu.p_all, Pu.p_any, Pu.p_tupL, Pu.p_tupT, Pu.p_lstL, Pu.p_lstT, Pu.q_tup, Pu.q_lst, Pu.q_scr, Pu.s_nil, Pu.s_wipe, Pu.s_freeze, Pu.s_ret, Pu.s_raise, Pu.s_pass, Pu.s_brk, Pu.s_cont, Pu.s_set, Pu.s_setOwn, Pu.own_lst, Pu.s_par, Pu.a_next, Pu.a_ret, Pu.a_brk, Pu.a_cont, Pu.s_iff, Pu.s_for, Pu.s_while, Pu.s_expr, Pu.s_try, Pu.s_aug, Pu.aug_some, Pu.aug_int, Pu.s_app, Pu.app_own, Pu.p_name, Pu.p_tup, Pu.ps_nil, Pu.ps_cons, Pu.v_tp, Pu.tp_val, Pu.tp_cell, Pu.s_tput, Pu.tput_val, Pu.s_tpop, Pu.tpop_val, Pu.s_tnew, Pu.tnew_lst, Pu.z_pure, Pu.z_seed, Pu.z_head, Pu.z_len, Pu.z_pseed, Pu.z_phead, Pu.z_pop, Pu.M.pure_bind, Pu.M.bind_assoc, Pu.M.bind_pure, Pu.M.stuck_bind, Pu.M.throw_bind, Pu.end_bind, Pu.end_ite, Pu.m_ite, Pu.noExc_pure, List.set_cons_zero, List.set_cons_succ, List.getElem?_cons_zero, List.getElem?_cons_succ, List.length_cons, List.length_nil, List.map_cons, List.map_nil, List.cons_append, List.nil_append, Pu.freezeE, Pu.wipeE, Pu.setsE, if_true, if_false, Bool.false_eq_true, reduceIte, Nat.reduceAdd, Nat.reduceSub, Nat.reduceEqDiff, decide_true, decide_false, Bool.not_true, Bool.not_false, Bool.true_and, Bool.and_true, Bool.false_and, Bool.and_false, Bool.true_or, Bool.or_true, Bool.false_or, Bool.or_false, gd_pos hk, gd_pos hrg]
  have hlen : (rangeL 0 (2 * r).toNat).length ≤ 6 := by
    unfold rangeL
    rw [List.length_map, List.length_range]
    omega
  refine is_seq (forM_is _ (fun xs σ t => xs.length ≤ 6 ∧ ∃ n : Int, σ = [some (.val .tape), some (.val (.int r)), some (.val (.int n)), none] ∧ 0 ≤ n ∧ Bd (10 * (6 - xs.length) + 1) n ∧ TOk t) ?_ ?_ _ _ ⟨hlen, 1, rfl, by decide, ?_, ht1⟩)
  · rintro x rs σ t ⟨hl, n, rfl, hn0, hn, htt⟩
    rw [List.length_cons] at hl hn
    have hk : mulOk n 1009 := mulOk_r (by show (1009 : Int).natAbs < 2 ^ 64; decide)
    simp only [Pu.end_ret, Pu.end_next, Pu.end_stuck, Pu.end_throw, Pu.v_slot0, Pu.v_slotS, Pu.v_peekV, Pu.v_peekO, Pu.v_peekS, Pu.v_non, Pu.v_bl, Pu.v_int, Pu.v_str, Pu.v_const, Pu.v_fn, Pu.v_tup, Pu.v_lst, Pu.v_neg, Pu.v_nott, Pu.t_nott, Pu.v_bin, Pu.v_cmp, Pu.t_cmp', Pu.v_andd, Pu.t_andd, Pu.v_orr, Pu.t_orr, Pu.v_ite, Pu.v_call, Pu.v_callv0, Pu.v_prim, Pu.v_isi, Pu.v_idx, Pu.v_slc, Pu.v_comp, Pu.o_non, Pu.o_som, Pu.c_non, Pu.c_som, Pu.e_nil, Pu.e_cons, Pu.av_one, Pu.av_cons, Pu.ov_one, Pu.ov_cons, Pu.at_nil, Pu.at_cons, Pu.ot_nil, Pu.ot_cons, Pu.i_seq', Pu.i_rng1, Pu.i_rng2, Pu.i_zip', Pu.i_enum', Pu.t_slot, Pu.t_peek, Pu.t_bl, Pu.t_call, Pu.t_callv, Pu.t_prim, Pu.t_isi, Pu.t_idx, Pu.b_addI, Pu.b_addT, Pu.b_addL, Pu.b_subI, Pu.b_mulI, Pu.b_divI, Pu.b_modI, Pu.c_lt, Pu.c_le, Pu.c_gt, Pu.c_ge, Pu.c_eqI, Pu.c_neI, Pu.c_eqB, Pu.c_neB, Pu.c_isN, Pu.c_notN, Pu.d_bl, Pu.d_int, Pu.u_bl, Pu.u_int, Pu.u_non, Pu.u_tup, Pu.u_lst, Pu.x_tup, Pu.x_lst, Pu.at0, Pu.at1, Pu.at2, Pu.s_some, Pu.s_none, Pu.p_len, Pu.p_lenL, Pu.p_abs, Pu.p_int, Pu.p_all, Pu.p_any, Pu.p_tupL, Pu.p_tupT, Pu.p_lstL, Pu.p_lstT, Pu.q_tup, Pu.q_lst, Pu.q_scr, Pu.s_nil, Pu.s_wipe, Pu.s_freeze, Pu.s_ret, Pu.s_raise, Pu.s_pass, Pu.s_brk, Pu.s_cont, Pu.s_set, Pu.s_setOwn, Pu.own_lst, Pu.s_par, Pu.a_next, Pu.a_ret, Pu.a_brk, Pu.a_cont, Pu.s_iff, Pu.s_for, Pu.s_while, Pu.s_expr, Pu.s_try, Pu.s_aug, Pu.aug_some, Pu.aug_int, Pu.s_app, Pu.app_own, Pu.p_name, Pu.p_tup, Pu.ps_nil, Pu.ps_cons, Pu.v_tp, Pu.tp_val, Pu.tp_cell, Pu.s_tput, Pu.tput_val, Pu.s_tpop, Pu.tpop_val, Pu.s_tnew, Pu.tnew_lst, Pu.z_pure, Pu.z_seed, Pu.z_head, Pu.z_len, Pu.z_pseed, Pu.z_phead, Pu.z_pop, Pu.M.pure_bind, Pu.M.bind_assoc, Pu.M.bind_pure, Pu.M.stuck_bind, Pu.M.throw_bind, Pu.end_bind, Pu.end_ite, Pu.m_ite, Pu.noExc_pure, List.set_cons_zero, List.set_cons_succ, List.getElem?_cons_zero, List.getElem?_cons_succ, List.length_cons, List.length_nil, List.map_cons, List.map_nil, List.cons_append, List.nil_append, Pu.freezeE, Pu.wipeE, Pu.setsE, if_true, if_false, Bool.false_eq_true, reduceIte, Nat.reduceAdd, Nat.reduceSub, Nat.reduceEqDiff, decide_true, decide_false, Bool.not_true, Bool.not_false, Bool.true_and, Bool.and_true, Bool.false_and, Bool.and_false, Bool.true_or, Bool.or_true, Bool.false_or, Bool.or_false, gd_pos hk]
    refine is_seq (draw_is k (by decide) bd30 htt fun d t2 h1 h2 ht2 => ?_)
    simp only [Pu.end_ret, Pu.end_next, Pu.end_stuck, Pu.end_throw, Pu.v_slot0, Pu.v_slotS, Pu.v_peekV, Pu.v_peekO, Pu.v_peekS, Pu.v_non, Pu.v_bl, Pu.v_int, Pu.v_str, Pu.v_const, Pu.v_fn, Pu.v_tup, Pu.v_lst, Pu.v_neg, Pu.v_nott, Pu.t_nott, Pu.v_bin, Pu.v_cmp, Pu.t_cmp', Pu.v_andd, Pu.t_andd, Pu.v_orr, Pu.t_orr, Pu.v_ite, Pu.v_call, Pu.v_callv0, Pu.v_prim, Pu.v_isi, Pu.v_idx, Pu.v_slc, Pu.v_comp, Pu.o_non, Pu.o_som, Pu.c_non, Pu.c_som, Pu.e_nil, Pu.e_cons, Pu.av_one, Pu.av_cons, Pu.ov_one, Pu.ov_cons, Pu.at_nil, Pu.at_cons, Pu.ot_nil, Pu.ot_cons, Pu.i_seq', Pu.i_rng1, Pu.i_rng2, Pu.i_zip', Pu.i_enum', Pu.t_slot, Pu.t_peek, Pu.t_bl, Pu.t_call, Pu.t_callv, Pu.t_prim, Pu.t_isi, Pu.t_idx, Pu.b_addI, Pu.b_addT, Pu.b_addL, Pu.b_subI, Pu.b_mulI, Pu.b_divI, Pu.b_modI, Pu.c_lt, Pu.c_le, Pu.c_gt, Pu.c_ge, Pu.c_eqI, Pu.c_neI, Pu.c_eqB, Pu.c_neB, Pu.c_isN, Pu.c_notN, Pu.d_bl, Pu.d_int, Pu.u_bl, Pu.u_int, Pu.u_non, Pu.u_tup, Pu.u_lst, Pu.x_tup, Pu.x_lst, Pu.at0, Pu.at1, Pu.at2, Pu.s_some, Pu.s_none, Pu.p_len, Pu.p_lenL, Pu.p_abs, Pu.p_int, Pu.p_all, Pu.p_any, Pu.p_tupL, Pu.p_tupT, Pu.p_lstL, Pu.p_lstT, Pu.q_tup, Pu.q_lst, Pu.q_scr, Pu.s_nil, Pu.s_wipe, Pu.s_freeze, Pu.s_ret, Pu.s_raise, Pu.s_pass, Pu.s_brk, Pu.s_cont, Pu.s_set, Pu.s_setOwn, Pu.own_lst, Pu.s_par, Pu.a_next, Pu.a_ret, Pu.a_brk, Pu.a_cont, Pu.s_iff, Pu.s_for, Pu.s_while, Pu.s_expr, Pu.s_try, Pu.s_aug, Pu.aug_some, Pu.aug_int, Pu.s_app, Pu.app_own, Pu.p_name, Pu.p_tup, Pu.ps_nil, Pu.ps_cons, Pu.v_tp, Pu.tp_val, Pu.tp_cell, Pu.s_tput, Pu.tput_val, Pu.s_tpop, Pu.tpop_val, Pu.s_tnew, Pu.tnew_lst, Pu.z_pure, Pu.z_seed, Pu.z_head, Pu.z_len, Pu.z_pseed, Pu.z_phead, Pu.z_pop, Pu.M.pure_bind, Pu.M.bind_assoc, Pu.M.bind_pure, Pu.M.stuck_bind, Pu.M.throw_bind, Pu.end_bind, Pu.end_ite, Pu.m_ite, Pu.noExc_pure, List.set_cons_zero, List.set_cons_succ, List.getElem?_cons_zero, List.getElem?_cons_succ, List.length_cons, List.length_nil, List.map_cons, List.map_nil, List.cons_append, List.nil_append, Pu.freezeE, Pu.wipeE, Pu.setsE, if_true, if_false, Bool.false_eq_true, reduceIte, Nat.reduceAdd, Nat.reduceSub, Nat.reduceEqDiff, decide_true, decide_false, Bool.not_true, Bool.not_false, Bool.true_and, Bool.and_true, Bool.false_and, Bool.and_false, Bool.true_or, Bool.or_true, Bool.false_or, Bool.or_false]
    refine is_pure ⟨by omega, _, rfl, by omega, ?_, ht2⟩
    unfold Bd at hn ⊢
    have e : 10 * (6 - rs.length) + 1 = (10 * (6 - (rs.length + 1)) + 1) + 10 := by omega
    rw [e, Nat.pow_add]
    generalize 2 ^ (10 * (6 - (rs.length + 1)) + 1) = P at hn ⊢
    show (n * 1009 + d).natAbs < P * 1024
    omega
  · rintro σ t ⟨_, n, rfl, hn0, hn, htt⟩
    have hn : Bd 100 n := hn.mono (by rw [List.length_nil]; decide)
    simp only [Pu.end_ret, Pu.end_next, Pu.end_stuck, Pu.end_throw, Pu.v_slot0, Pu.v_slotS, Pu.v_peekV, Pu.v_peekO, Pu.v_peekS, Pu.v_non, Pu.v_bl, Pu.v_int, Pu.v_str, Pu.v_const, Pu.v_fn, Pu.v_tup, Pu.v_lst, Pu.v_neg, Pu.v_nott, Pu.t_nott, Pu.v_bin, Pu.v_cmp, Pu.t_cmp', Pu.v_andd, Pu.t_andd, Pu.v_orr, Pu.t_orr, Pu.v_ite, Pu.v_call, Pu.v_callv0, Pu.v_prim, Pu.v_isi, Pu.v_idx, Pu.v_slc, Pu.v_comp, Pu.o_non, Pu.o_som, Pu.c_non, Pu.c_som, Pu.e_nil, Pu.e_cons, Pu.av_one, Pu.av_cons, Pu.ov_one, Pu.ov_cons, Pu.at_nil, Pu.at_cons, Pu.ot_nil, Pu.ot_cons, Pu.i_seq', Pu.i_rng1, Pu.i_rng2, Pu.i_zip', Pu.i_enum', Pu.t_slot, Pu.t_peek, Pu.t_bl, Pu.t_call, Pu.t_callv, Pu.t_prim, Pu.t_isi, Pu.t_idx, Pu.b_addI, Pu.b_addT, Pu.b_addL, Pu.b_subI, Pu.b_mulI, Pu.b_divI, Pu.b_modI, Pu.c_lt, Pu.c_le, Pu.c_gt, Pu.c_ge, Pu.c_eqI, Pu.c_neI, Pu.c_eqB, Pu.c_neB, Pu.c_isN, Pu.c_notN, Pu.d_bl, Pu.d_int, Pu.u_bl, Pu.u_int, Pu.u_non, Pu.u_tup, Pu.u_lst, Pu.x_tup, Pu.x_lst, Pu.at0, Pu.at1, Pu.at2, Pu.s_some, Pu.s_none, Pu.p_len, Pu.p_lenL, Pu.p_abs, Pu.p_int, Pu.p_all, Pu.p_any, Pu.p_tupL, Pu.p_tupT, Pu.p_lstL, Pu.p_lstT, Pu.q_tup, Pu.q_lst, Pu.q_scr, Pu.s_nil, Pu.s_wipe, Pu.s_freeze, Pu.s_ret, Pu.s_raise, Pu.s_pass, Pu.s_brk, Pu.s_cont, Pu.s_set, Pu.s_setOwn, Pu.own_lst, Pu.s_par, Pu.a_next, Pu.a_ret, Pu.a_brk, Pu.a_cont, Pu.s_iff, Pu.s_for, Pu.s_while, Pu.s_expr, Pu.s_try, Pu.s_aug, Pu.aug_some, Pu.aug_int, Pu.s_app, Pu.app_own, Pu.p_name, Pu.p_tup, Pu.ps_nil, Pu.ps_cons, Pu.v_tp, Pu.tp_val, Pu.tp_cell, Pu.s_tput, Pu.tput_val, Pu.s_tpop, Pu.tpop_val, Pu.s_tnew, Pu.tnew_lst, Pu.z_pure, Pu.z_seed, Pu.z_head, Pu.z_len, Pu.z_pseed, Pu.z_phead, Pu.z_pop, Pu.M.pure_bind, Pu.M.bind_assoc, Pu.M.bind_pure, Pu.M.stuck_bind, Pu.M.throw_bind, Pu.end_bind, Pu.end_ite, Pu.m_ite, Pu.noExc_pure, List.set_cons_zero, List.set_cons_succ, List.getElem?_cons_zero, List.getElem?_cons_succ, List.length_cons, List.length_nil, List.map_cons, List.map_nil, List.cons_append, List.nil_append, Pu.freezeE, Pu.wipeE, Pu.setsE, if_true, if_false, Bool.false_eq_true, reduceIte, Nat.reduceAdd, Nat.reduceSub, Nat.reduceEqDiff, decide_true, decide_false, Bool.not_true, Bool.not_false, Bool.true_and, Bool.and_true, Bool.false_and, Bool.and_false, Bool.true_or, Bool.or_true, Bool.false_or, Bool.or_false]
    refine is_seq (draw_is k (by decide) bd30 htt fun d t2 h1 h2 ht2 => ?_)
    simp only [Pu.end_ret, Pu.end_next, Pu.end_stuck, Pu.end_throw, Pu.v_slot0, Pu.v_slotS, Pu.v_peekV, Pu.v_peekO, Pu.v_peekS, Pu.v_non, Pu.v_bl, Pu.v_int, Pu.v_str, Pu.v_const, Pu.v_fn, Pu.v_tup, Pu.v_lst, Pu.v_neg, Pu.v_nott, Pu.t_nott, Pu.v_bin, Pu.v_cmp, Pu.t_cmp', Pu.v_andd, Pu.t_andd, Pu.v_orr, Pu.t_orr, Pu.v_ite, Pu.v_call, Pu.v_callv0, Pu.v_prim, Pu.v_isi, Pu.v_idx, Pu.v_slc, Pu.v_comp, Pu.o_non, Pu.o_som, Pu.c_non, Pu.c_som, Pu.e_nil, Pu.e_cons, Pu.av_one, Pu.av_cons, Pu.ov_one, Pu.ov_cons, Pu.at_nil, Pu.at_cons, Pu.ot_nil, Pu.ot_cons, Pu.i_seq', Pu.i_rng1, Pu.i_rng2, Pu.i_zip', Pu.i_enum', Pu.t_slot, Pu.t_peek, Pu.t_bl, Pu.t_call, Pu.t_callv, Pu.t_prim, Pu.t_isi, Pu.t_idx, Pu.b_addI, Pu.b_addT, Pu.b_addL, Pu.b_subI, Pu.b_mulI, Pu.b_divI, Pu.b_modI, Pu.c_lt, Pu.c_le, Pu.c_gt, Pu.c_ge, Pu.c_eqI, Pu.c_neI, Pu.c_eqB, Pu.c_neB, Pu.c_isN, Pu.c_notN, Pu.d_bl, Pu.d_int, Pu.u_bl, Pu.u_int, Pu.u_non, Pu.u_tup, Pu.u_lst, Pu.x_tup, Pu.x_lst, Pu.at0, Pu.at1, Pu.at2, Pu.s_some, Pu.s_none, Pu.p_len, Pu.p_lenL, Pu.p_abs, Pu.p_int, Pu.p_all, Pu.p_any, Pu.p_tupL, Pu.p_tupT, Pu.p_lstL, Pu.p_lstT, Pu.q_tup, Pu.q_lst, Pu.q_scr, Pu.s_nil, Pu.s_wipe, Pu.s_freeze, Pu.s_ret, Pu.s_raise, Pu.s_pass, Pu.s_brk, Pu.s_cont, Pu.s_set, Pu.s_setOwn, Pu.own_lst, Pu.s_par, Pu.a_next, Pu.a_ret, Pu.a_brk, Pu.a_cont, Pu.s_iff, Pu.s_for, Pu.s_while, Pu.s_expr, Pu.s_try, Pu.s_aug, Pu.aug_some, Pu.aug_int, Pu.s_app, Pu.app_own, Pu.p_name, Pu.p_tup, Pu.ps_nil, Pu.ps_cons, Pu.v_tp, Pu.tp_val, Pu.tp_cell, Pu.s_tput, Pu.tput_val, Pu.s_tpop, Pu.tpop_val, Pu.s_tnew, Pu.tnew_lst, Pu.z_pure, Pu.z_seed, Pu.z_head, Pu.z_len, Pu.z_pseed, Pu.z_phead, Pu.z_pop, Pu.M.pure_bind, Pu.M.bind_assoc, Pu.M.bind_pure, Pu.M.stuck_bind, Pu.M.throw_bind, Pu.end_bind, Pu.end_ite, Pu.m_ite, Pu.noExc_pure, List.set_cons_zero, List.set_cons_succ, List.getElem?_cons_zero, List.getElem?_cons_succ, List.length_cons, List.length_nil, List.map_cons, List.map_nil, List.cons_append, List.nil_append, Pu.freezeE, Pu.wipeE, Pu.setsE, if_true, if_false, Bool.false_eq_true, reduceIte, Nat.reduceAdd, Nat.reduceSub, Nat.reduceEqDiff, decide_true, decide_false, Bool.not_true, Bool.not_false, Bool.true_and, Bool.and_true, Bool.false_and, Bool.and_false, Bool.true_or, Bool.or_true, Bool.false_or, Bool.or_false]
    by_cases hd : (d == 0) = true
    · simp only [Pu.end_ret, Pu.end_next, Pu.end_stuck, Pu.end_throw, Pu.v_slot0, Pu.v_slotS, Pu.v_peekV, Pu.v_peekO, Pu.v_peekS, Pu.v_non, Pu.v_bl, Pu.v_int, Pu.v_str, Pu.v_const, Pu.v_fn, Pu.v_tup, Pu.v_lst, Pu.v_neg, Pu.v_nott, Pu.t_nott, Pu.v_bin, Pu.v_cmp, Pu.t_cmp', Pu.v_andd, Pu.t_andd, Pu.v_orr, Pu.t_orr, Pu.v_ite, Pu.v_call, Pu.v_callv0, Pu.v_prim, Pu.v_isi, Pu.v_idx, Pu.v_slc, Pu.v_comp, Pu.o_non, Pu.o_som, Pu.c_non, Pu.c_som, Pu.e_nil, Pu.e_cons, Pu.av_one, Pu.av_cons, Pu.ov_one, Pu.ov_cons, Pu.at_nil, Pu.at_cons, Pu.ot_nil, Pu.ot_cons, Pu.i_seq', Pu.i_rng1, Pu.i_rng2, Pu.i_zip', Pu.i_enum', Pu.t_slot, Pu.t_peek, Pu.t_bl, Pu.t_call, Pu.t_callv, Pu.t_prim, Pu.t_isi, Pu.t_idx, Pu.b_addI, Pu.b_addT, Pu.b_addL, Pu.b_subI, Pu.b_mulI, Pu.b_divI, Pu.b_modI, Pu.c_lt, Pu.c_le, Pu.c_gt, Pu.c_ge, Pu.c_eqI, Pu.c_neI, Pu.c_eqB, Pu.c_neB, Pu.c_isN, Pu.c_notN, Pu.d_bl, Pu.d_int, Pu.u_bl, Pu.u_int, Pu.u_non, Pu.u_tup, Pu.u_lst, Pu.x_tup, Pu.x_lst, Pu.at0, Pu.at1, Pu.at2, Pu.s_some, Pu.s_none, Pu.p_len, Pu.p_lenL, Pu.p_abs, Pu.p_int, Pu.p_all, Pu.p_any, Pu.p_tupL, Pu.p_tupT, Pu.p_lstL, Pu.p_lstT, Pu.q_tup, Pu.q_lst, Pu.q_scr, Pu.s_nil, Pu.s_wipe, Pu.s_freeze, Pu.s_ret, Pu.s_raise, Pu.s_pass, Pu.s_brk, Pu.s_cont, Pu.s_set, Pu.s_setOwn, Pu.own_lst, Pu.s_par, Pu.a_next, Pu.a_ret, Pu.a_brk, Pu.a_cont, Pu.s_iff, Pu.s_for, Pu.s_while, Pu.s_expr, Pu.s_try, Pu.s_aug, Pu.aug_some, Pu.aug_int, Pu.s_app, Pu.app_own, Pu.p_name, Pu.p_tup, Pu.ps_nil, Pu.ps_cons, Pu.v_tp, Pu.tp_val, Pu.tp_cell, Pu.s_tput, Pu.tput_val, Pu.s_tpop, Pu.tpop_val, Pu.s_tnew, Pu.tnew_lst, Pu.z_pure, Pu.z_seed, Pu.z_head, Pu.z_len, Pu.z_pseed, Pu.z_phead, Pu.z_pop, Pu.M.pure_bind, Pu.M.bind_assoc, Pu.M.bind_pure, Pu.M.stuck_bind, Pu.M.throw_bind, Pu.end_bind, Pu.end_ite, Pu.m_ite, Pu.noExc_pure, List.set_cons_zero, List.set_cons_succ, List.getElem?_cons_zero, List.getElem?_cons_succ, List.length_cons, List.length_nil, List.map_cons, List.map_nil, List.cons_append, List.nil_append, Pu.freezeE, Pu.wipeE, Pu.setsE, if_true, if_false, Bool.false_eq_true, reduceIte, Nat.reduceAdd, Nat.reduceSub, Nat.reduceEqDiff, decide_true, decide_false, Bool.not_true, Bool.not_false, Bool.true_and, Bool.and_true, Bool.false_and, Bool.and_false, Bool.true_or, Bool.or_true, Bool.false_or, Bool.or_false, hd]
      exact h n t2 hn ht2
    · simp only [Pu.end_ret, Pu.end_next, Pu.end_stuck, Pu.end_throw, Pu.v_slot0, Pu.v_slotS, Pu.v_peekV, Pu.v_peekO, Pu.v_peekS, Pu.v_non, Pu.v_bl, Pu.v_int, Pu.v_str, Pu.v_const, Pu.v_fn, Pu.v_tup, Pu.v_lst, Pu.v_neg, Pu.v_nott, Pu.t_nott, Pu.v_bin, Pu.v_cmp, Pu.t_cmp', Pu.v_andd, Pu.t_andd, Pu.v_orr, Pu.t_orr, Pu.v_ite, Pu.v_call, Pu.v_callv0, Pu.v_prim, Pu.v_isi, Pu.v_idx, Pu.v_slc, Pu.v_comp, Pu.o_non, Pu.o_som, Pu.c_non, Pu.c_som, Pu.e_nil, Pu.e_cons, Pu.av_one, Pu.av_cons, Pu.ov_one, Pu.ov_cons, Pu.at_nil, Pu.at_cons, Pu.ot_nil, Pu.ot_cons, Pu.i_seq', Pu.i_rng1, Pu.i_rng2, Pu.i_zip', Pu.i_enum', Pu.t_slot, Pu.t_peek, Pu.t_bl, Pu.t_call, Pu.t_callv, Pu.t_prim, Pu.t_isi, Pu.t_idx, Pu.b_addI, Pu.b_addT, Pu.b_addL, Pu.b_subI, Pu.b_mulI, Pu.b_divI, Pu.b_modI, Pu.c_lt, Pu.c_le, Pu.c_gt, Pu.c_ge, Pu.c_eqI, Pu.c_neI, Pu.c_eqB, Pu.c_neB, Pu.c_isN, Pu.c_notN, Pu.d_bl, Pu.d_int, Pu.u_bl, Pu.u_int, Pu.u_non, Pu.u_tup, Pu.u_lst, Pu.x_tup, Pu.x_lst, Pu.at0, Pu.at1, Pu.at2, Pu.s_some, Pu.s_none, Pu.p_len, Pu.p_lenL, Pu.p_abs, Pu.p_int, Pu.p_all, Pu.p_any, Pu.p_tupL, Pu.p_tupT, Pu.p_lstL, Pu.p_lstT, Pu.q_tup, Pu.q_lst, Pu.q_scr, Pu.s_nil, Pu.s_wipe, Pu.s_freeze, Pu.s_ret, Pu.s_raise, Pu.s_pass, Pu.s_brk, Pu.s_cont, Pu.s_set, Pu.s_setOwn, Pu.own_lst, Pu.s_par, Pu.a_next, Pu.a_ret, Pu.a_brk, Pu.a_cont, Pu.s_iff, Pu.s_for, Pu.s_while, Pu.s_expr, Pu.s_try, Pu.s_aug, Pu.aug_some, Pu.aug_int, Pu.s_app, Pu.app_own, Pu.p_name, Pu.p_tup, Pu.ps_nil, Pu.ps_cons, Pu.v_tp, Pu.tp_val, Pu.tp_cell, Pu.s_tput, Pu.tput_val, Pu.s_tpop, Pu.tpop_val, Pu.s_tnew, Pu.tnew_lst, Pu.z_pure, Pu.z_seed, Pu.z_head, Pu.z_len, Pu.z_pseed, Pu.z_phead, Pu.z_pop, Pu.M.pure_bind, Pu.M.bind_assoc, Pu.M.bind_pure, Pu.M.stuck_bind, Pu.M.throw_bind, Pu.end_bind, Pu.end_ite, Pu.m_ite, Pu.noExc_pure, List.set_cons_zero, List.set_cons_succ, List.getElem?_cons_zero, List.getElem?_cons_succ, List.length_cons, List.length_nil, List.map_cons, List.map_nil, List.cons_append, List.nil_append, Pu.freezeE, Pu.wipeE, Pu.setsE, if_true, if_false, Bool.false_eq_true, reduceIte, Nat.reduceAdd, Nat.reduceSub, Nat.reduceEqDiff, decide_true, decide_false, Bool.not_true, Bool.not_false, Bool.true_and, Bool.and_true, Bool.false_and, Bool.and_false, Bool.true_or, Bool.or_true, Bool.false_or, Bool.or_false, hd]
      exact h (-n) t2 hn.neg ht2
  · unfold Bd
    exact Nat.one_lt_two_pow (by omega)
end K00

namespace K00
open PySem PySem.Spec PyProof.Rows L2 Pu
theorem same_int (k : Nat) (a b : Int) : callF T (k + 1) "_law_same" [.int a, .int b] = pure (.bl (a == b)) := by
  rw [c__law_same, run_df _ ⟨rfl, by decide⟩]
  simp only [df__law_same, Gk_call, Gk_const, List.replicate, Pu.end_ret, Pu.end_next, Pu.end_stuck, Pu.end_throw, Pu.v_slot0, Pu.v_slotS, Pu.v_peekV, Pu.v_peekO, Pu.v_peekS, Pu.v_non, Pu.v_bl, Pu.v_int, Pu.v_str, Pu.v_const, Pu.v_fn, Pu.v_tup, Pu.v_lst, Pu.v_neg, Pu.v_nott, Pu.t_nott, Pu.v_bin, Pu.v_cmp, Pu.t_cmp', Pu.v_andd, Pu.t_andd, Pu.v_orr, Pu.t_orr, Pu.v_ite, Pu.v_call, Pu.v_callv0, Pu.v_prim, Pu.v_isi, Pu.v_idx, Pu.v_slc, Pu.v_comp, Pu.o_non, Pu.o_som, Pu.c_non, Pu.c_som, Pu.e_nil, Pu.e_cons, Pu.av_one, Pu.av_cons, Pu.ov_one, Pu.ov_cons, Pu.at_nil, Pu.at_cons, Pu.ot_nil, Pu.ot_cons, Pu.i_seq', Pu.i_rng1, Pu.i_rng2, Pu.i_zip', Pu.i_enum', Pu.t_slot, Pu.t_peek, Pu.t_bl, Pu.t_call, Pu.t_callv, Pu.t_prim, Pu.t_isi, Pu.t_idx, Pu.b_addI, Pu.b_addT, Pu.b_addL, Pu.b_subI, Pu.b_mulI, Pu.b_divI, Pu.b_modI, Pu.c_lt, Pu.c_le, Pu.c_gt, Pu.c_ge, Pu.c_eqI, Pu.c_neI, Pu.c_eqB, Pu.c_neB, Pu.c_isN, Pu.c_notN, Pu.d_bl, Pu.d_int, Pu.u_bl, Pu.u_int, Pu.u_non, Pu.u_tup, Pu.u_lst, Pu.x_tup, Pu.x_lst, Pu.at0, Pu.at1, Pu.at2, Pu.s_some, Pu.s_none, Pu.p_len, Pu.p_lenL, Pu.p_abs, Pu.p_int, Pu.p_all, Pu.p_any, Pu.p_tupL, Pu.p_tupT, Pu.p_lstL, Pu.p_lstT, Pu.q_tup, Pu.q_lst, Pu.q_scr, Pu.s_nil, Pu.s_wipe, Pu.s_freeze, Pu.s_ret, Pu.s_raise, Pu.s_pass, Pu.s_brk, Pu.s_cont, Pu.s_set, Pu.s_setOwn, Pu.own_lst, Pu.s_par, Pu.a_next, Pu.a_ret, Pu.a_brk, Pu.a_cont, Pu.s_iff, Pu.s_for, Pu.s_while, Pu.s_expr, Pu.s_try, Pu.s_aug, Pu.aug_some, Pu.aug_int, Pu.s_app, Pu.app_own, Pu.p_name, Pu.p_tup, Pu.ps_nil, Pu.ps_cons, Pu.v_tp, Pu.tp_val, Pu.tp_cell, Pu.s_tput, Pu.tput_val, Pu.s_tpop, Pu.tpop_val, Pu.s_tnew, Pu.tnew_lst, Pu.z_pure, Pu.z_seed, Pu.z_head, Pu.z_len, Pu.z_pseed, Pu.z_phead, Pu.z_pop, Pu.M.pure_bind, Pu.M.bind_assoc, Pu.M.bind_pure, Pu.M.stuck_bind, Pu.M.throw_bind, Pu.end_bind, Pu.end_ite, Pu.m_ite, Pu.noExc_pure, List.set_cons_zero, List.set_cons_succ, List.getElem?_cons_zero, List.getElem?_cons_succ, List.length_cons, List.length_nil, List.map_cons, List.map_nil, List.cons_append, List.nil_append, Pu.freezeE, Pu.wipeE, Pu.setsE, if_true, if_false, Bool.false_eq_true, reduceIte, Nat.reduceAdd, Nat.reduceSub, Nat.reduceEqDiff, decide_true, decide_false, Bool.not_true, Bool.not_false, Bool.true_and, Bool.and_true, Bool.false_and, Bool.and_false, Bool.true_or, Bool.or_true, Bool.false_or, Bool.or_false, isNon, isTys, isTy]
theorem same_bl (k : Nat) (a b : Bool) : callF T (k + 1) "_law_same" [.bl a, .bl b] = pure (.bl (a == b)) := by
  rw [c__law_same, run_df _ ⟨rfl, by decide⟩]
  simp only [df__law_same, Gk_call, Gk_const, List.replicate, Pu.end_ret, Pu.end_next, Pu.end_stuck, Pu.end_throw, Pu.v_slot0, Pu.v_slotS, Pu.v_peekV, Pu.v_peekO, Pu.v_peekS, Pu.v_non, Pu.v_bl, Pu.v_int, Pu.v_str, Pu.v_const, Pu.v_fn, Pu.v_tup, Pu.v_lst, Pu.v_neg, Pu.v_nott, Pu.t_nott, Pu.v_bin, Pu.v_cmp, Pu.t_cmp', Pu.v_andd, Pu.t_andd, Pu.v_orr, Pu.t_orr, Pu.v_ite, Pu.v_call, Pu.v_callv0, Pu.v_prim, Pu.v_isi, Pu.v_idx, Pu.v_slc, Pu.v_comp, Pu.o_non, Pu.o_som, Pu.c_non, Pu.c_som, Pu.e_nil, Pu.e_cons, Pu.av_one, Pu.av_cons, Pu.ov_one, Pu.ov_cons, Pu.at_nil, Pu.at_cons, Pu.ot_nil, Pu.ot_cons, Pu.i_seq', Pu.i_rng1, Pu.i_rng2, Pu.i_zip', Pu.i_enum', Pu.t_slot, Pu.t_peek, Pu.t_bl, Pu.t_call, Pu.t_callv, Pu.t_prim, Pu.t_isi, Pu.t_idx, Pu.b_addI, Pu.b_addT, Pu.b_addL, Pu.b_subI, Pu.b_mulI, Pu.b_divI, Pu.b_modI, Pu.c_lt, Pu.c_le, Pu.c_gt, Pu.c_ge, Pu.c_eqI, Pu.c_neI, Pu.c_eqB, Pu.c_neB, Pu.c_isN, Pu.c_notN, Pu.d_bl, Pu.d_int, Pu.u_bl, Pu.u_int, Pu.u_non, Pu.u_tup, Pu.u_lst, Pu.x_tup, Pu.x_lst, Pu.at0, Pu.at1, Pu.at2, Pu.s_some, Pu.s_none, Pu.p_len, Pu.p_lenL, Pu.p_abs, Pu.p_int, Pu.p_all, Pu.p_any, Pu.p_tupL, Pu.p_tupT, Pu.p_lstL, Pu.p_lstT, Pu.q_tup, Pu.q_lst, Pu.q_scr, Pu.s_nil, Pu.s_wipe, Pu.s_freeze, Pu.s_ret, Pu.s_raise, Pu.s_pass, Pu.s_brk, Pu.s_cont, Pu.s_set, Pu.s_setOwn, Pu.own_lst, Pu.s_par, Pu.a_next, Pu.a_ret, Pu.a_brk, Pu.a_cont, Pu.s_iff, Pu.s_for, Pu.s_while, Pu.s_expr, Pu.s_try, Pu.s_aug, Pu.aug_some, Pu.aug_int, Pu.s_app, Pu.app_own, Pu.p_name, Pu.p_tup, Pu.ps_nil, Pu.ps_cons, Pu.v_tp, Pu.tp_val, Pu.tp_cell, Pu.s_tput, Pu.tput_val, Pu.s_tpop, Pu.tpop_val, Pu.s_tnew, Pu.tnew_lst, Pu.z_pure, Pu.z_seed, Pu.z_head, Pu.z_len, Pu.z_pseed, Pu.z_phead, Pu.z_pop, Pu.M.pure_bind, Pu.M.bind_assoc, Pu.M.bind_pure, Pu.M.stuck_bind, Pu.M.throw_bind, Pu.end_bind, Pu.end_ite, Pu.m_ite, Pu.noExc_pure, List.set_cons_zero, List.set_cons_succ, List.getElem?_cons_zero, List.getElem?_cons_succ, List.length_cons, List.length_nil, List.map_cons, List.map_nil, List.cons_append, List.nil_append, Pu.freezeE, Pu.wipeE, Pu.setsE, if_true, if_false, Bool.false_eq_true, reduceIte, Nat.reduceAdd, Nat.reduceSub, Nat.reduceEqDiff, decide_true, decide_false, Bool.not_true, Bool.not_false, Bool.true_and, Bool.and_true, Bool.false_and, Bool.and_false, Bool.true_or, Bool.or_true, Bool.false_or, Bool.or_false, isNon, isTys, isTy]
theorem gcd_red (r : Rat) : Int.gcd r.num r.den = 1 := by
  have := r.reduced
  unfold Int.gcd
  rw [Int.natAbs_natCast]
  exact this
theorem is_ok (k : Nat) {r : Rat} {a b : Int} (hr : BR 9000 r) (ha : Bd 60000000 a) (hb : Bd 60000000 b) : callF T (k + 2) "_law_is" [qD r, .int a, .int b] = pure (.bl (r.num * b == a * r.den)) := by
  have h1 : mulOk r.num b := (hr.1.mono (by decide)).mulOk hb
  have h2 : mulOk a r.den := ha.mulOk (hr.2.mono (by decide))
  have hd := den_pos r
  rw [c__law_is, run_df _ ⟨rfl, by decide⟩]
  simp only [df__law_is, qD, Gk_call, Gk_const, List.replicate, Pu.end_ret, Pu.end_next, Pu.end_stuck, Pu.end_throw, Pu.v_slot0, Pu.v_slotS, Pu.v_peekV, Pu.v_peekO, Pu.v_peekS, Pu.v_non, Pu.v_bl, Pu.v_int, Pu.v_str, Pu.v_const, Pu.v_fn, Pu.v_tup, Pu.v_lst, Pu.v_neg, Pu.v_nott, Pu.t_nott, Pu.v_bin, Pu.v_cmp, Pu.t_cmp', Pu.v_andd, Pu.t_andd, Pu.v_orr, Pu.t_orr, Pu.v_ite, Pu.v_call, Pu.v_callv0, Pu.v_prim, Pu.v_isi, Pu.v_idx, Pu.v_slc, Pu.v_comp, Pu.o_non, Pu.o_som, Pu.c_non, Pu.c_som, Pu.e_nil, Pu.e_cons, Pu.av_one, Pu.av_cons, Pu.ov_one, Pu.ov_cons, Pu.at_nil, Pu.at_cons, Pu.ot_nil, Pu.ot_cons, Pu.i_seq', Pu.i_rng1, Pu.i_rng2, Pu.i_zip', Pu.i_enum', Pu.t_slot, Pu.t_peek, Pu.t_bl, Pu.t_call, Pu.t_callv, Pu.t_prim, Pu.t_isi, Pu.t_idx, Pu.b_addI, Pu.b_addT, Pu.b_addL, Pu.b_subI, Pu.b_mulI, Pu.b_divI, Pu.b_modI, Pu.c_lt, Pu.c_le, Pu.c_gt, Pu.c_ge, Pu.c_eqI, Pu.c_neI, Pu.c_eqB, Pu.c_neB, Pu.c_isN, Pu.c_notN, Pu.d_bl, Pu.d_int, Pu.u_bl, Pu.u_int, Pu.u_non, Pu.u_tup, Pu.u_lst, Pu.x_tup, Pu.x_lst, Pu.at0, Pu.at1, Pu.at2, Pu.s_some, Pu.s_none, Pu.p_len, Pu.p_lenL, Pu.p_abs, Pu.p_int, Pu.p_all, Pu.p_any, Pu.p_tupL, Pu.p_tupT, Pu.p_lstL, Pu.p_lstT, Pu.q_tup, Pu.q_lst, Pu.q_scr, Pu.s_nil, Pu.s_wipe, Pu.s_freeze, Pu.s_ret, Pu.s_raise, Pu.s_pass, Pu.s_brk, Pu.s_cont, Pu.s_set, Pu.s_setOwn, Pu.own_lst, Pu.s_par, Pu.a_next, Pu.a_ret, Pu.a_brk, Pu.a_cont, Pu.s_iff, Pu.s_for, Pu.s_while, Pu.s_expr, Pu.s_try, Pu.s_aug, Pu.aug_some, Pu.aug_int, Pu.s_app, Pu.app_own, Pu.p_name, Pu.p_tup, Pu.ps_nil, Pu.ps_cons, Pu.v_tp, Pu.tp_val, Pu.tp_cell, Pu.s_tput, Pu.tput_val, Pu.s_tpop, Pu.tpop_val, Pu.s_tnew, Pu.tnew_lst, Pu.z_pure, Pu.z_seed, Pu.z_head, Pu.z_len, Pu.z_pseed, Pu.z_phead, Pu.z_pop, Pu.M.pure_bind, Pu.M.bind_assoc, Pu.M.bind_pure, Pu.M.stuck_bind, Pu.M.throw_bind, Pu.end_bind, Pu.end_ite, Pu.m_ite, Pu.noExc_pure, List.set_cons_zero, List.set_cons_succ, List.getElem?_cons_zero, List.getElem?_cons_succ, List.length_cons, List.length_nil, List.map_cons, List.map_nil, List.cons_append, List.nil_append, Pu.freezeE, Pu.wipeE, Pu.setsE, if_true, if_false, Bool.false_eq_true, reduceIte, Nat.reduceAdd, Nat.reduceSub, Nat.reduceEqDiff, decide_true, decide_false, Bool.not_true, Bool.not_false, Bool.true_and, Bool.and_true, Bool.false_and, Bool.and_false, Bool.true_or, Bool.or_true, Bool.false_or, Bool.or_false, isTys, isTy, show ((2 : Int) == 2) = true from rfl, Int.cast_ofNat_Int, Int.natCast_add, Int.natCast_succ, Int.zero_add, Int.reduceAdd, Int.reduceEq, beq_self_eq_true]
  rw [compM_map0 (fun _ => D.bl true) _ (fun x hx => ?_) sz2]
  · simp only [List.map_cons, List.map_nil, Pu.end_ret, Pu.end_next, Pu.end_stuck, Pu.end_throw, Pu.v_slot0, Pu.v_slotS, Pu.v_peekV, Pu.v_peekO, Pu.v_peekS, Pu.v_non, Pu.v_bl, Pu.v_int, Pu.v_str, Pu.v_const, Pu.v_fn, Pu.v_tup, Pu.v_lst, Pu.v_neg, Pu.v_nott, Pu.t_nott, Pu.v_bin, Pu.v_cmp, Pu.t_cmp', Pu.v_andd, Pu.t_andd, Pu.v_orr, Pu.t_orr, Pu.v_ite, Pu.v_call, Pu.v_callv0, Pu.v_prim, Pu.v_isi, Pu.v_idx, Pu.v_slc, Pu.v_comp, Pu.o_non, Pu.o_som, Pu.c_non, Pu.c_som, Pu.e_nil, Pu.e_cons, Pu.av_one, Pu.av_cons, Pu.ov_one, Pu.ov_cons, Pu.at_nil, Pu.at_cons, Pu.ot_nil, Pu.ot_cons, Pu.i_seq', Pu.i_rng1, Pu.i_rng2, Pu.i_zip', Pu.i_enum', Pu.t_slot, Pu.t_peek, Pu.t_bl, Pu.t_call, Pu.t_callv, Pu.t_prim, Pu.t_isi, Pu.t_idx, Pu.b_addI, Pu.b_addT, Pu.b_addL, Pu.b_subI, Pu.b_mulI, Pu.b_divI, Pu.b_modI, Pu.c_lt, Pu.c_le, Pu.c_gt, Pu.c_ge, Pu.c_eqI, Pu.c_neI, Pu.c_eqB, Pu.c_neB, Pu.c_isN, Pu.c_notN, Pu.d_bl, Pu.d_int, Pu.u_bl, Pu.u_int, Pu.u_non, Pu.u_tup, Pu.u_lst, Pu.x_tup, Pu.x_lst, Pu.at0, Pu.at1, Pu.at2, Pu.s_some, Pu.s_none, Pu.p_len, Pu.p_lenL, Pu.p_abs, Pu.p_int, Pu.p_all, Pu.p_any, Pu.p_tupL, Pu.p_tupT, Pu.p_lstL, Pu.p_lstT, Pu.q_tup, Pu.q_lst, Pu.q_scr, Pu.s_nil, Pu.s_wipe, Pu.s_freeze, Pu.s_ret, Pu.s_raise, Pu.s_pass, Pu.s_brk, Pu.s_cont, Pu.s_set, Pu.s_setOwn, Pu.own_lst, Pu.s_par, Pu.a_next, Pu.a_ret, Pu.a_brk, Pu.a_cont, Pu.s_iff, Pu.s_for, Pu.s_while, Pu.s_expr, Pu.s_try, Pu.s_aug, Pu.aug_some, Pu.aug_int, Pu.s_app, Pu.app_own, Pu.p_name, Pu.p_tup, Pu.ps_nil, Pu.ps_cons, Pu.v_tp, Pu.tp_val, Pu.tp_cell, Pu.s_tput, Pu.tput_val, Pu.s_tpop, Pu.tpop_val, Pu.s_tnew, Pu.tnew_lst, Pu.z_pure, Pu.z_seed, Pu.z_head, Pu.z_len, Pu.z_pseed, Pu.z_phead, Pu.z_pop, Pu.M.pure_bind, Pu.M.bind_assoc, Pu.M.bind_pure, Pu.M.stuck_bind, Pu.M.throw_bind, Pu.end_bind, Pu.end_ite, Pu.m_ite, Pu.noExc_pure, List.set_cons_zero, List.set_cons_succ, List.getElem?_cons_zero, List.getElem?_cons_succ, List.length_cons, List.length_nil, List.map_cons, List.map_nil, List.cons_append, List.nil_append, Pu.freezeE, Pu.wipeE, Pu.setsE, if_true, if_false, Bool.false_eq_true, reduceIte, Nat.reduceAdd, Nat.reduceSub, Nat.reduceEqDiff, decide_true, decide_false, Bool.not_true, Bool.not_false, Bool.true_and, Bool.and_true, Bool.false_and, Bool.and_false, Bool.true_or, Bool.or_true, Bool.false_or, Bool.or_false, shared_ok k _ _ hr.2, gcd_red, gd_pos h1, gd_pos h2, hd, show boolsD [D.bl true, D.bl true] = some [true, true] from rfl, show [true, true].all id = true from rfl, show (((1 : Nat) : Int) == 1) = true from rfl]
  · rcases List.mem_cons.mp hx with rfl | hx
    · simp only [compF, P.slots, Pu.end_ret, Pu.end_next, Pu.end_stuck, Pu.end_throw, Pu.v_slot0, Pu.v_slotS, Pu.v_peekV, Pu.v_peekO, Pu.v_peekS, Pu.v_non, Pu.v_bl, Pu.v_int, Pu.v_str, Pu.v_const, Pu.v_fn, Pu.v_tup, Pu.v_lst, Pu.v_neg, Pu.v_nott, Pu.t_nott, Pu.v_bin, Pu.v_cmp, Pu.t_cmp', Pu.v_andd, Pu.t_andd, Pu.v_orr, Pu.t_orr, Pu.v_ite, Pu.v_call, Pu.v_callv0, Pu.v_prim, Pu.v_isi, Pu.v_idx, Pu.v_slc, Pu.v_comp, Pu.o_non, Pu.o_som, Pu.c_non, Pu.c_som, Pu.e_nil, Pu.e_cons, Pu.av_one, Pu.av_cons, Pu.ov_one, Pu.ov_cons, Pu.at_nil, Pu.at_cons, Pu.ot_nil, Pu.ot_cons, Pu.i_seq', Pu.i_rng1, Pu.i_rng2, Pu.i_zip', Pu.i_enum', Pu.t_slot, Pu.t_peek, Pu.t_bl, Pu.t_call, Pu.t_callv, Pu.t_prim, Pu.t_isi, Pu.t_idx, Pu.b_addI, Pu.b_addT, Pu.b_addL, Pu.b_subI, Pu.b_mulI, Pu.b_divI, Pu.b_modI, Pu.c_lt, Pu.c_le, Pu.c_gt, Pu.c_ge, Pu.c_eqI, Pu.c_neI, Pu.c_eqB, Pu.c_neB, Pu.c_isN, Pu.c_notN, Pu.d_bl, Pu.d_int, Pu.u_bl, Pu.u_int, Pu.u_non, Pu.u_tup, Pu.u_lst, Pu.x_tup, Pu.x_lst, Pu.at0, Pu.at1, Pu.at2, Pu.s_some, Pu.s_none, Pu.p_len, Pu.p_lenL, Pu.p_abs, Pu.p_int, Pu.p_all, Pu.p_any, Pu.p_tupL, Pu.p_tupT, Pu.p_lstL, Pu.p_lstT, Pu.q_tup, Pu.q_lst, Pu.q_scr, Pu.s_nil, Pu.s_wipe, Pu.s_freeze, Pu.s_ret, Pu.s_raise, Pu.s_pass, Pu.s_brk, Pu.s_cont, Pu.s_set, Pu.s_setOwn, Pu.own_lst, Pu.s_par, Pu.a_next, Pu.a_ret, Pu.a_brk, Pu.a_cont, Pu.s_iff, Pu.s_for, Pu.s_while, Pu.s_expr, Pu.s_try, Pu.s_aug, Pu.aug_some, Pu.aug_int, Pu.s_app, Pu.app_own, Pu.p_name, Pu.p_tup, Pu.ps_nil, Pu.ps_cons, Pu.v_tp, Pu.tp_val, Pu.tp_cell, Pu.s_tput, Pu.tput_val, Pu.s_tpop, Pu.tpop_val, Pu.s_tnew, Pu.tnew_lst, Pu.z_pure, Pu.z_seed, Pu.z_head, Pu.z_len, Pu.z_pseed, Pu.z_phead, Pu.z_pop, Pu.M.pure_bind, Pu.M.bind_assoc, Pu.M.bind_pure, Pu.M.stuck_bind, Pu.M.throw_bind, Pu.end_bind, Pu.end_ite, Pu.m_ite, Pu.noExc_pure, List.set_cons_zero, List.set_cons_succ, List.getElem?_cons_zero, List.getElem?_cons_succ, List.length_cons, List.length_nil, List.map_cons, List.map_nil, List.cons_append, List.nil_append, Pu.freezeE, Pu.wipeE, Pu.setsE, if_true, if_false, Bool.false_eq_true, reduceIte, Nat.reduceAdd, Nat.reduceSub, Nat.reduceEqDiff, decide_true, decide_false, Bool.not_true, Bool.not_false, Bool.true_and, Bool.and_true, Bool.false_and, Bool.and_false, Bool.true_or, Bool.or_true, Bool.false_or, Bool.or_false, isTys, isTy]
    · rcases List.mem_cons.mp hx with rfl | hx
      · simp only [compF, P.slots, Pu.end_ret, Pu.end_next, Pu.end_stuck, Pu.end_throw, Pu.v_slot0, Pu.v_slotS, Pu.v_peekV, Pu.v_peekO, Pu.v_peekS, Pu.v_non, Pu.v_bl, Pu.v_int, Pu.v_str, Pu.v_const, Pu.v_fn, Pu.v_tup, Pu.v_lst, Pu.v_neg, Pu.v_nott, Pu.t_nott, Pu.v_bin, Pu.v_cmp, Pu.t_cmp', Pu.v_andd, Pu.t_andd, Pu.v_orr, Pu.t_orr, Pu.v_ite, Pu.v_call, Pu.v_callv0, Pu.v_prim, Pu.v_isi, Pu.v_idx, Pu.v_slc, Pu.v_comp, Pu.o_non, Pu.o_som, Pu.c_non, Pu.c_som, Pu.e_nil, Pu.e_cons, Pu.av_one, Pu.av_cons, Pu.ov_one, Pu.ov_cons, Pu.at_nil, Pu.at_cons, Pu.ot_nil, Pu.ot_cons, Pu.i_seq', Pu.i_rng1, Pu.i_rng2, Pu.i_zip', Pu.i_enum', Pu.t_slot, Pu.t_peek, Pu.t_bl, Pu.t_call, Pu.t_callv, Pu.t_prim, Pu.t_isi, Pu.t_idx, Pu.b_addI, Pu.b_addT, Pu.b_addL, Pu.b_subI, Pu.b_mulI, Pu.b_divI, Pu.b_modI, Pu.c_lt, Pu.c_le, Pu.c_gt, Pu.c_ge, Pu.c_eqI, Pu.c_neI, Pu.c_eqB, Pu.c_neB, Pu.c_isN, Pu.c_notN, Pu.d_bl, Pu.d_int, Pu.u_bl, Pu.u_int, Pu.u_non, Pu.u_tup, Pu.u_lst, Pu.x_tup, Pu.x_lst, Pu.at0, Pu.at1, Pu.at2, Pu.s_some, Pu.s_none, Pu.p_len, Pu.p_lenL, Pu.p_abs, Pu.p_int, Pu.p_all, Pu.p_any, Pu.p_tupL, Pu.p_tupT, Pu.p_lstL, Pu.p_lstT, Pu.q_tup, Pu.q_lst, Pu.q_scr, Pu.s_nil, Pu.s_wipe, Pu.s_freeze, Pu.s_ret, Pu.s_raise, Pu.s_pass, Pu.s_brk, Pu.s_cont, Pu.s_set, Pu.s_setOwn, Pu.own_lst, Pu.s_par, Pu.a_next, Pu.a_ret, Pu.a_brk, Pu.a_cont, Pu.s_iff, Pu.s_for, Pu.s_while, Pu.s_expr, Pu.s_try, Pu.s_aug, Pu.aug_some, Pu.aug_int, Pu.s_app, Pu.app_own, Pu.p_name, Pu.p_tup, Pu.ps_nil, Pu.ps_cons, Pu.v_tp, Pu.tp_val, Pu.tp_cell, Pu.s_tput, Pu.tput_val, Pu.s_tpop, Pu.tpop_val, Pu.s_tnew, Pu.tnew_lst, Pu.z_pure, Pu.z_seed, Pu.z_head, Pu.z_len, Pu.z_pseed, Pu.z_phead, Pu.z_pop, Pu.M.pure_bind, Pu.M.bind_assoc, Pu.M.bind_pure, Pu.M.stuck_bind, Pu.M.throw_bind, Pu.end_bind, Pu.end_ite, Pu.m_ite, Pu.noExc_pure, List.set_cons_zero, List.set_cons_succ, List.getElem?_cons_zero, List.getElem?_cons_succ, List.length_cons, List.length_nil, List.map_cons, List.map_nil, List.cons_append, List.nil_append, Pu.freezeE, Pu.wipeE, Pu.setsE, if_true, if_false, Bool.false_eq_true, reduceIte, Nat.reduceAdd, Nat.reduceSub, Nat.reduceEqDiff, decide_true, decide_false, Bool.not_true, Bool.not_false, Bool.true_and, Bool.and_true, Bool.false_and, Bool.and_false, Bool.true_or, Bool.or_true, Bool.false_or, Bool.or_false, isTys, isTy]
      · exact absurd hx List.not_mem_nil
theorem divInt_cross {a b : Int} (hb : b ≠ 0) : (Rat.divInt a b).num * b = a * (Rat.divInt a b).den := by
  have h : Rat.divInt (Rat.divInt a b).num (Rat.divInt a b).den = Rat.divInt a b := rat_eq _
  exact (Rat.divInt_eq_divInt_iff (den_ne _) hb).mp h
theorem isd_ok (k : Nat) {r : Rat} {a b : Int} (hb0 : b ≠ 0) (e : r = Rat.divInt a b) (hr : BR 9000 r) (ha : Bd 60000000 a) (hb : Bd 60000000 b) : callF T (k + 2) "_law_is" [qD r, .int a, .int b] = pure (.bl true) := by
  rw [is_ok k hr ha hb, e, divInt_cross hb0]
  simp
theorem try_throw {U : Pu.Sub} {hs : List (Str × Lf)} {c : Str} : tryM U hs (throwD c) = if U.ex c = true then handle U c hs else stuck := by
  funext t
  show (if U.ex c = true then handle U c hs t else Res.stuck) = _
  split <;> rfl
theorem try_pure {U : Pu.Sub} {hs : List (Str × Lf)} {f : Fl} : tryM U hs (pure f) = pure f := rfl
theorem refused_ok (k : Nat) {f : Str} {x y : D} (h : callF T k f [x, y] = throwD "BadNumber") : callF T (k + 1) "_law_refused" [.fn f, x, y] = pure (.bl true) := by
  have e1 : sb.ex "BadNumber" = true := by decide +kernel
  have e2 : sb.sub "BadNumber" "BadNumber" = true := by decide +kernel
  rw [c__law_refused, run_df _ ⟨rfl, by decide⟩]
  simp only [df__law_refused, Gk_call, Gk_const, List.replicate, Pu.end_ret, Pu.end_next, Pu.end_stuck, Pu.end_throw, Pu.v_slot0, Pu.v_slotS, Pu.v_peekV, Pu.v_peekO, Pu.v_peekS, Pu.v_non, Pu.v_bl, Pu.v_int, Pu.v_str, Pu.v_const, Pu.v_fn, Pu.v_tup, Pu.v_lst, Pu.v_neg, Pu.v_nott, Pu.t_nott, Pu.v_bin, Pu.v_cmp, Pu.t_cmp', Pu.v_andd, Pu.t_andd, Pu.v_orr, Pu.t_orr, Pu.v_ite, Pu.v_call, Pu.v_callv0, Pu.v_prim, Pu.v_isi, Pu.v_idx, Pu.v_slc, Pu.v_comp, Pu.o_non, Pu.o_som, Pu.c_non, Pu.c_som, Pu.e_nil, Pu.e_cons, Pu.av_one, Pu.av_cons, Pu.ov_one, Pu.ov_cons, Pu.at_nil, Pu.at_cons, Pu.ot_nil, Pu.ot_cons, Pu.i_seq', Pu.i_rng1, Pu.i_rng2, Pu.i_zip', Pu.i_enum', Pu.t_slot, Pu.t_peek, Pu.t_bl, Pu.t_call, Pu.t_callv, Pu.t_prim, Pu.t_isi, Pu.t_idx, Pu.b_addI, Pu.b_addT, Pu.b_addL, Pu.b_subI, Pu.b_mulI, Pu.b_divI, Pu.b_modI, Pu.c_lt, Pu.c_le, Pu.c_gt, Pu.c_ge, Pu.c_eqI, Pu.c_neI, Pu.c_eqB, Pu.c_neB, Pu.c_isN, Pu.c_notN, Pu.d_bl, Pu.d_int, Pu.u_bl, Pu.u_int, Pu.u_non, Pu.u_tup, Pu.u_lst, Pu.x_tup, Pu.x_lst, Pu.at0, Pu.at1, Pu.at2, Pu.s_some, Pu.s_none, Pu.p_len, Pu.p_lenL, Pu.p_abs, Pu.p_int, Pu.p_all, Pu.p_any, Pu.p_tupL, Pu.p_tupT, Pu.p_lstL, Pu.p_lstT, Pu.q_tup, Pu.q_lst, Pu.q_scr, Pu.s_nil, Pu.s_wipe, Pu.s_freeze, Pu.s_ret, Pu.s_raise, Pu.s_pass, Pu.s_brk, Pu.s_cont, Pu.s_set, Pu.s_setOwn, Pu.own_lst, Pu.s_par, Pu.a_next, Pu.a_ret, Pu.a_brk, Pu.a_cont, Pu.s_iff, Pu.s_for, Pu.s_while, Pu.s_expr, Pu.s_try, Pu.s_aug, Pu.aug_some, Pu.aug_int, Pu.s_app, Pu.app_own, Pu.p_name, Pu.p_tup, Pu.ps_nil, Pu.ps_cons, Pu.v_tp, Pu.tp_val, Pu.tp_cell, Pu.s_tput, Pu.tput_val, Pu.s_tpop, Pu.tpop_val, Pu.s_tnew, Pu.tnew_lst, Pu.z_pure, Pu.z_seed, Pu.z_head, Pu.z_len, Pu.z_pseed, Pu.z_phead, Pu.z_pop, Pu.M.pure_bind, Pu.M.bind_assoc, Pu.M.bind_pure, Pu.M.stuck_bind, Pu.M.throw_bind, Pu.end_bind, Pu.end_ite, Pu.m_ite, Pu.noExc_pure, List.set_cons_zero, List.set_cons_succ, List.getElem?_cons_zero, List.getElem?_cons_succ, List.length_cons, List.length_nil, List.map_cons, List.map_nil, List.cons_append, List.nil_append, Pu.freezeE, Pu.wipeE, Pu.setsE, if_true, if_false, Bool.false_eq_true, reduceIte, Nat.reduceAdd, Nat.reduceSub, Nat.reduceEqDiff, decide_true, decide_false, Bool.not_true, Bool.not_false, Bool.true_and, Bool.and_true, Bool.false_and, Bool.and_false, Bool.true_or, Bool.or_true, Bool.false_or, Bool.or_false, h, try_throw, e1, handle, e2, Lf.d]
/-! ### powers -/
def powR (x : Rat) : Nat → Rat
  | 0 => 1
  | n + 1 => powR x n * x
theorem powR_succ (y : Rat) (n : Nat) : powR y (n + 1) = powR y n * y := rfl
theorem powR_sq (y : Rat) : ∀ q, powR (y * y) q = powR y (2 * q)
  | 0 => rfl
  | q + 1 => by
    have e : 2 * (q + 1) = 2 * q + 1 + 1 := by omega
    rw [e, powR_succ, powR_succ, powR_succ, powR_sq y q, Rat.mul_assoc]
theorem BR.add' {n m : Nat} {x y : Rat} (hx : BR n x) (hy : BR m y) : BR (n + m + 1) (x + y) := by
  rw [← rat_add]
  exact BR.div (den2 x y) ((hx.1.mul hy.2).add ((hy.1.mul hx.2).mono (by omega))) ((hx.2.mul hy.2).mono (by omega))
theorem BR.one : BR 1 1 := ⟨by unfold Bd; decide, by unfold Bd; decide⟩
theorem BR.zero : BR 1 0 := ⟨by unfold Bd; decide, by unfold Bd; decide⟩
theorem qD_one : (D.tup [.int 1, .int 1]) = qD 1 := rfl
theorem qD_zero : (D.tup [.int 0, .int 1]) = qD 0 := rfl
theorem pow_loop (k : Nat) : ∀ (n e : Nat) (y z : Rat) (a b : Nat), e < n → BR a y → BR b z → 2 * e * a + b ≤ 4500 →
    ∃ y' : Rat, whileM (ev (Gk (k + 3)) (.cmp .gt (.slot 1) (.int 0))).t (exSs (Gk (k + 3)) sb (.cons (.iff (.cmp .eq (.bin .mod (.slot 1) (.int 2)) (.int 1))
(.cons (.set (.name 2) (.call "multiply" (.cons (.slot 2) (.cons (.slot 0) .nil)))) .nil) .nil)
(.cons (.set (.name 0) (.call "multiply" (.cons (.slot 0) (.cons (.slot 0) .nil)))) (.cons (.aug 1 .fdiv (.int 2)) .nil)))) n [some (.val (qD y)), some (.val (.int e)), some (.val (qD z))] = pure (.next [some (.val (qD y')), some (.val (.int 0)), some (.val (qD (z * powR y e)))])
  | 0, e, y, z, a, b, h, _, _, _ => absurd h (Nat.not_lt_zero _)
  | n + 1, 0, y, z, a, b, h, _, _, _ => by
    refine ⟨y, ?_⟩
    rw [while_stop (by simp only [Pu.end_ret, Pu.end_next, Pu.end_stuck, Pu.end_throw, Pu.v_slot0, Pu.v_slotS, Pu.v_peekV, Pu.v_peekO, Pu.v_peekS, Pu.v_non, Pu.v_bl, Pu.v_int, Pu.v_str, Pu.v_const, Pu.v_fn, Pu.v_tup, Pu.v_lst, Pu.v_neg, Pu.v_nott, Pu.t_nott, Pu.v_bin, Pu.v_cmp, Pu.t_cmp', Pu.v_andd, Pu.t_andd, Pu.v_orr, Pu.t_orr, Pu.v_ite, Pu.v_call, Pu.v_callv0, Pu.v_prim, Pu.v_isi, Pu.v_idx, Pu.v_slc, Pu.v_comp, Pu.o_non, Pu.o_som, Pu.c_non, Pu.c_som, Pu.e_nil, Pu.e_cons, Pu.av_one, Pu.av_cons, Pu.ov_one, Pu.ov_cons, Pu.at_nil, Pu.at_cons, Pu.ot_nil, Pu.ot_cons, Pu.i_seq', Pu.i_rng1, Pu.i_rng2, Pu.i_zip', Pu.i_enum', Pu.t_slot, Pu.t_peek, Pu.t_bl, Pu.t_call, Pu.t_callv, Pu.t_prim, Pu.t_isi, Pu.t_idx, Pu.b_addI, Pu.b_addT, Pu.b_addL, Pu.b_subI, Pu.b_mulI, Pu.b_divI, Pu.b_modI, Pu.c_lt, Pu.c_le, Pu.c_gt, Pu.c_ge, Pu.c_eqI, Pu.c_neI, Pu.c_eqB, Pu.c_neB, Pu.c_isN, Pu.c_notN, Pu.d_bl, Pu.d_int, Pu.u_bl, Pu.u_int, Pu.u_non, Pu.u_tup, Pu.u_lst, Pu.x_tup, Pu.x_lst, Pu.at0, Pu.at1, Pu.at2, Pu.s_some, Pu.s_none, Pu.p_len, Pu.p_lenL, Pu.p_abs, Pu.p_int, Pu.p_all, Pu.p_any, Pu.p_tupL, Pu.p_tupT, Pu.p_lstL, Pu.p_lstT, Pu.q_tup, Pu.q_lst, Pu.q_scr, Pu.s_nil, Pu.s_wipe, Pu.s_freeze, Pu.s_ret, Pu.s_raise, Pu.s_pass, Pu.s_brk, Pu.s_cont, Pu.s_set, Pu.s_setOwn, Pu.own_lst, Pu.s_par, Pu.a_next, Pu.a_ret, Pu.a_brk, Pu.a_cont, Pu.s_iff, Pu.s_for, Pu.s_while, Pu.s_expr, Pu.s_try, Pu.s_aug, Pu.aug_some, Pu.aug_int, Pu.s_app, Pu.app_own, Pu.p_name, Pu.p_tup, Pu.ps_nil, Pu.ps_cons, Pu.v_tp, Pu.tp_val, Pu.tp_cell, Pu.s_tput, Pu.tput_val, Pu.s_tpop, Pu.tpop_val, Pu.s_tnew, Pu.tnew_lst, Pu.z_pure, Pu.z_seed, Pu.z_head, Pu.z_len, Pu.z_pseed, Pu.z_phead, Pu.z_pop, Pu.M.pure_bind, Pu.M.bind_assoc, Pu.M.bind_pure, Pu.M.stuck_bind, Pu.M.throw_bind, Pu.end_bind, Pu.end_ite, Pu.m_ite, Pu.noExc_pure, List.set_cons_zero, List.set_cons_succ, List.getElem?_cons_zero, List.getElem?_cons_succ, List.length_cons, List.length_nil, List.map_cons, List.map_nil, List.cons_append, List.nil_append, Pu.freezeE, Pu.wipeE, Pu.setsE, if_true, if_false, Bool.false_eq_true, reduceIte, Nat.reduceAdd, Nat.reduceSub, Nat.reduceEqDiff, decide_true, decide_false, Bool.not_true, Bool.not_false, Bool.true_and, Bool.and_true, Bool.false_and, Bool.and_false, Bool.true_or, Bool.or_true, Bool.false_or, Bool.or_false]; rfl)]
    unfold powR
    rw [Rat.mul_one]
    rfl
  | n + 1, e + 1, y, z, a, b, h, hy, hz, hb => by
    have hy' : BR 4500 y := hy.mono (by
      have : a ≤ 2 * (e + 1) * a := Nat.le_mul_of_pos_left _ (by omega)
      omega)
    have hz' : BR 4500 z := hz.mono (by omega)
    have h0 : (0 : Int) < ((e + 1 : Nat) : Int) := by omega
    have h2 : divOk ((e + 1 : Nat) : Int) 2 = true := Bd.divOk (Bd.mono (n := 30) (by show (2 : Int).natAbs < 2 ^ 30; decide) (by decide)) (by decide)
    have f2 : ((e + 1 : Nat) : Int).fdiv 2 = (((e + 1) / 2 : Nat) : Int) := by
      rw [Int.fdiv_eq_ediv_of_nonneg _ (by decide)]; rfl
    have m2 : ((e + 1 : Nat) : Int).fmod 2 = (((e + 1) % 2 : Nat) : Int) := by
      rw [Int.fmod_eq_emod_of_nonneg _ (by decide)]; rfl
    by_cases hp : (e + 1) % 2 = 1
    · have hq : e + 1 = 2 * ((e + 1) / 2) + 1 := by omega
      obtain ⟨y', ih⟩ := pow_loop k n ((e + 1) / 2) (y * y) (z * y) (a + a) (b + a) (by omega) (hy.mul hy) (hz.mul hy) (by
        have e1 : 2 * (e + 1) * a = 4 * (((e + 1) / 2) * a) + 2 * a := by
          conv => lhs; rw [hq]
          grind
        have e2 : 2 * ((e + 1) / 2) * (a + a) = 4 * (((e + 1) / 2) * a) := by grind
        omega)
      refine ⟨y', ?_⟩
      rw [while_go (σ' := [some (.val (qD (y * y))), some (.val (.int (((e + 1) / 2 : Nat) : Int))), some (.val (qD (z * y)))]) (by simp only [Pu.end_ret, Pu.end_next, Pu.end_stuck, Pu.end_throw, Pu.v_slot0, Pu.v_slotS, Pu.v_peekV, Pu.v_peekO, Pu.v_peekS, Pu.v_non, Pu.v_bl, Pu.v_int, Pu.v_str, Pu.v_const, Pu.v_fn, Pu.v_tup, Pu.v_lst, Pu.v_neg, Pu.v_nott, Pu.t_nott, Pu.v_bin, Pu.v_cmp, Pu.t_cmp', Pu.v_andd, Pu.t_andd, Pu.v_orr, Pu.t_orr, Pu.v_ite, Pu.v_call, Pu.v_callv0, Pu.v_prim, Pu.v_isi, Pu.v_idx, Pu.v_slc, Pu.v_comp, Pu.o_non, Pu.o_som, Pu.c_non, Pu.c_som, Pu.e_nil, Pu.e_cons, Pu.av_one, Pu.av_cons, Pu.ov_one, Pu.ov_cons, Pu.at_nil, Pu.at_cons, Pu.ot_nil, Pu.ot_cons, Pu.i_seq', Pu.i_rng1, Pu.i_rng2, Pu.i_zip', Pu.i_enum', Pu.t_slot, Pu.t_peek, Pu.t_bl, Pu.t_call, Pu.t_callv, Pu.t_prim, Pu.t_isi, Pu.t_idx, Pu.b_addI, Pu.b_addT, Pu.b_addL, Pu.b_subI, Pu.b_mulI, Pu.b_divI, Pu.b_modI, Pu.c_lt, Pu.c_le, Pu.c_gt, Pu.c_ge, Pu.c_eqI, Pu.c_neI, Pu.c_eqB, Pu.c_neB, Pu.c_isN, Pu.c_notN, Pu.d_bl, Pu.d_int, Pu.u_bl, Pu.u_int, Pu.u_non, Pu.u_tup, Pu.u_lst, Pu.x_tup, Pu.x_lst, Pu.at0, Pu.at1, Pu.at2, Pu.s_some, Pu.s_none, Pu.p_len, Pu.p_lenL, Pu.p_abs, Pu.p_int, Pu.p_all, Pu.p_any, Pu.p_tupL, Pu.p_tupT, Pu.p_lstL, Pu.p_lstT, Pu.q_tup, Pu.q_lst, Pu.q_scr, Pu.s_nil, Pu.s_wipe, Pu.s_freeze, Pu.s_ret, Pu.s_raise, Pu.s_pass, Pu.s_brk, Pu.s_cont, Pu.s_set, Pu.s_setOwn, Pu.own_lst, Pu.s_par, Pu.a_next, Pu.a_ret, Pu.a_brk, Pu.a_cont, Pu.s_iff, Pu.s_for, Pu.s_while, Pu.s_expr, Pu.s_try, Pu.s_aug, Pu.aug_some, Pu.aug_int, Pu.s_app, Pu.app_own, Pu.p_name, Pu.p_tup, Pu.ps_nil, Pu.ps_cons, Pu.v_tp, Pu.tp_val, Pu.tp_cell, Pu.s_tput, Pu.tput_val, Pu.s_tpop, Pu.tpop_val, Pu.s_tnew, Pu.tnew_lst, Pu.z_pure, Pu.z_seed, Pu.z_head, Pu.z_len, Pu.z_pseed, Pu.z_phead, Pu.z_pop, Pu.M.pure_bind, Pu.M.bind_assoc, Pu.M.bind_pure, Pu.M.stuck_bind, Pu.M.throw_bind, Pu.end_bind, Pu.end_ite, Pu.m_ite, Pu.noExc_pure, List.set_cons_zero, List.set_cons_succ, List.getElem?_cons_zero, List.getElem?_cons_succ, List.length_cons, List.length_nil, List.map_cons, List.map_nil, List.cons_append, List.nil_append, Pu.freezeE, Pu.wipeE, Pu.setsE, if_true, if_false, Bool.false_eq_true, reduceIte, Nat.reduceAdd, Nat.reduceSub, Nat.reduceEqDiff, decide_true, decide_false, Bool.not_true, Bool.not_false, Bool.true_and, Bool.and_true, Bool.false_and, Bool.and_false, Bool.true_or, Bool.or_true, Bool.false_or, Bool.or_false, h0]) (by
        simp only [Pu.end_ret, Pu.end_next, Pu.end_stuck, Pu.end_throw, Pu.v_slot0, Pu.v_slotS, Pu.v_peekV, Pu.v_peekO, Pu.v_peekS, Pu.v_non, Pu.v_bl, Pu.v_int, Pu.v_str, Pu.v_const, Pu.v_fn, Pu.v_tup, Pu.v_lst, Pu.v_neg, Pu.v_nott, Pu.t_nott, Pu.v_bin, Pu.v_cmp, Pu.t_cmp', Pu.v_andd, Pu.t_andd, Pu.v_orr, Pu.t_orr, Pu.v_ite, Pu.v_call, Pu.v_callv0, Pu.v_prim, Pu.v_isi, Pu.v_idx, Pu.v_slc, Pu.v_comp, Pu.o_non, Pu.o_som, Pu.c_non, Pu.c_som, Pu.e_nil, Pu.e_cons, Pu.av_one, Pu.av_cons, Pu.ov_one, Pu.ov_cons, Pu.at_nil, Pu.at_cons, Pu.ot_nil, Pu.ot_cons, Pu.i_seq', Pu.i_rng1, Pu.i_rng2, Pu.i_zip', Pu.i_enum', Pu.t_slot, Pu.t_peek, Pu.t_bl, Pu.t_call, Pu.t_callv, Pu.t_prim, Pu.t_isi, Pu.t_idx, Pu.b_addI, Pu.b_addT, Pu.b_addL, Pu.b_subI, Pu.b_mulI, Pu.b_divI, Pu.b_modI, Pu.c_lt, Pu.c_le, Pu.c_gt, Pu.c_ge, Pu.c_eqI, Pu.c_neI, Pu.c_eqB, Pu.c_neB, Pu.c_isN, Pu.c_notN, Pu.d_bl, Pu.d_int, Pu.u_bl, Pu.u_int, Pu.u_non, Pu.u_tup, Pu.u_lst, Pu.x_tup, Pu.x_lst, Pu.at0, Pu.at1, Pu.at2, Pu.s_some, Pu.s_none, Pu.p_len, Pu.p_lenL, Pu.p_abs, Pu.p_int, Pu.p_all, Pu.p_any, Pu.p_tupL, Pu.p_tupT, Pu.p_lstL, Pu.p_lstT, Pu.q_tup, Pu.q_lst, Pu.q_scr, Pu.s_nil, Pu.s_wipe, Pu.s_freeze, Pu.s_ret, Pu.s_raise, Pu.s_pass, Pu.s_brk, Pu.s_cont, Pu.s_set, Pu.s_setOwn, Pu.own_lst, Pu.s_par, Pu.a_next, Pu.a_ret, Pu.a_brk, Pu.a_cont, Pu.s_iff, Pu.s_for, Pu.s_while, Pu.s_expr, Pu.s_try, Pu.s_aug, Pu.aug_some, Pu.aug_int, Pu.s_app, Pu.app_own, Pu.p_name, Pu.p_tup, Pu.ps_nil, Pu.ps_cons, Pu.v_tp, Pu.tp_val, Pu.tp_cell, Pu.s_tput, Pu.tput_val, Pu.s_tpop, Pu.tpop_val, Pu.s_tnew, Pu.tnew_lst, Pu.z_pure, Pu.z_seed, Pu.z_head, Pu.z_len, Pu.z_pseed, Pu.z_phead, Pu.z_pop, Pu.M.pure_bind, Pu.M.bind_assoc, Pu.M.bind_pure, Pu.M.stuck_bind, Pu.M.throw_bind, Pu.end_bind, Pu.end_ite, Pu.m_ite, Pu.noExc_pure, List.set_cons_zero, List.set_cons_succ, List.getElem?_cons_zero, List.getElem?_cons_succ, List.length_cons, List.length_nil, List.map_cons, List.map_nil, List.cons_append, List.nil_append, Pu.freezeE, Pu.wipeE, Pu.setsE, if_true, if_false, Bool.false_eq_true, reduceIte, Nat.reduceAdd, Nat.reduceSub, Nat.reduceEqDiff, decide_true, decide_false, Bool.not_true, Bool.not_false, Bool.true_and, Bool.and_true, Bool.false_and, Bool.and_false, Bool.true_or, Bool.or_true, Bool.false_or, Bool.or_false, gd_pos (show (2 : Int) ≠ 0 by decide), m2, hp, Gk_call, multiply_ok k hz' hy', multiply_ok k hy' hy', gd_pos h2, f2, show (((1 : Nat) : Int) == 1) = true from rfl]), ih, powR_sq]
      conv => rhs; rw [hq]
      rw [powR_succ]
      congr 7
      grind
    · have hp0 : (e + 1) % 2 = 0 := by omega
      have hq : e + 1 = 2 * ((e + 1) / 2) := by omega
      obtain ⟨y', ih⟩ := pow_loop k n ((e + 1) / 2) (y * y) z (a + a) b (by omega) (hy.mul hy) hz (by
        have e1 : 2 * (e + 1) * a = 4 * (((e + 1) / 2) * a) := by
          conv => lhs; rw [hq]
          grind
        have e2 : 2 * ((e + 1) / 2) * (a + a) = 4 * (((e + 1) / 2) * a) := by grind
        omega)
      refine ⟨y', ?_⟩
      rw [while_go (σ' := [some (.val (qD (y * y))), some (.val (.int (((e + 1) / 2 : Nat) : Int))), some (.val (qD z))]) (by simp only [Pu.end_ret, Pu.end_next, Pu.end_stuck, Pu.end_throw, Pu.v_slot0, Pu.v_slotS, Pu.v_peekV, Pu.v_peekO, Pu.v_peekS, Pu.v_non, Pu.v_bl, Pu.v_int, Pu.v_str, Pu.v_const, Pu.v_fn, Pu.v_tup, Pu.v_lst, Pu.v_neg, Pu.v_nott, Pu.t_nott, Pu.v_bin, Pu.v_cmp, Pu.t_cmp', Pu.v_andd, Pu.t_andd, Pu.v_orr, Pu.t_orr, Pu.v_ite, Pu.v_call, Pu.v_callv0, Pu.v_prim, Pu.v_isi, Pu.v_idx, Pu.v_slc, Pu.v_comp, Pu.o_non, Pu.o_som, Pu.c_non, Pu.c_som, Pu.e_nil, Pu.e_cons, Pu.av_one, Pu.av_cons, Pu.ov_one, Pu.ov_cons, Pu.at_nil, Pu.at_cons, Pu.ot_nil, Pu.ot_cons, Pu.i_seq', Pu.i_rng1, Pu.i_rng2, Pu.i_zip', Pu.i_enum', Pu.t_slot, Pu.t_peek, Pu.t_bl, Pu.t_call, Pu.t_callv, Pu.t_prim, Pu.t_isi, Pu.t_idx, Pu.b_addI, Pu.b_addT, Pu.b_addL, Pu.b_subI, Pu.b_mulI, Pu.b_divI, Pu.b_modI, Pu.c_lt, Pu.c_le, Pu.c_gt, Pu.c_ge, Pu.c_eqI, Pu.c_neI, Pu.c_eqB, Pu.c_neB, Pu.c_isN, Pu.c_notN, Pu.d_bl, Pu.d_int, Pu.u_bl, Pu.u_int, Pu.u_non, Pu.u_tup, Pu.u_lst, Pu.x_tup, Pu.x_lst, Pu.at0, Pu.at1, Pu.at2, Pu.s_some, Pu.s_none, Pu.p_len, Pu.p_lenL, Pu.p_abs, Pu.p_int, Pu.p_all, Pu.p_any, Pu.p_tupL, Pu.p_tupT, Pu.p_lstL, Pu.p_lstT, Pu.q_tup, Pu.q_lst, Pu.q_scr, Pu.s_nil, Pu.s_wipe, Pu.s_freeze, Pu.s_ret, Pu.s_raise, Pu.s_pass, Pu.s_brk, Pu.s_cont, Pu.s_set, Pu.s_setOwn, Pu.own_lst, Pu.s_par, Pu.a_next, Pu.a_ret, Pu.a_brk, Pu.a_cont, Pu.s_iff, Pu.s_for, Pu.s_while, Pu.s_expr, Pu.s_try, Pu.s_aug, Pu.aug_some, Pu.aug_int, Pu.s_app, Pu.app_own, Pu.p_name, Pu.p_tup, Pu.ps_nil, Pu.ps_cons, Pu.v_tp, Pu.tp_val, Pu.tp_cell, Pu.s_tput, Pu.tput_val, Pu.s_tpop, Pu.tpop_val, Pu.s_tnew, Pu.tnew_lst, Pu.z_pure, Pu.z_seed, Pu.z_head, Pu.z_len, Pu.z_pseed, Pu.z_phead, Pu.z_pop, Pu.M.pure_bind, Pu.M.bind_assoc, Pu.M.bind_pure, Pu.M.stuck_bind, Pu.M.throw_bind, Pu.end_bind, Pu.end_ite, Pu.m_ite, Pu.noExc_pure, List.set_cons_zero, List.set_cons_succ, List.getElem?_cons_zero, List.getElem?_cons_succ, List.length_cons, List.length_nil, List.map_cons, List.map_nil, List.cons_append, List.nil_append, Pu.freezeE, Pu.wipeE, Pu.setsE, if_true, if_false, Bool.false_eq_true, reduceIte, Nat.reduceAdd, Nat.reduceSub, Nat.reduceEqDiff, decide_true, decide_false, Bool.not_true, Bool.not_false, Bool.true_and, Bool.and_true, Bool.false_and, Bool.and_false, Bool.true_or, Bool.or_true, Bool.false_or, Bool.or_false, h0]) (by
        simp only [Pu.end_ret, Pu.end_next, Pu.end_stuck, Pu.end_throw, Pu.v_slot0, Pu.v_slotS, Pu.v_peekV, Pu.v_peekO, Pu.v_peekS, Pu.v_non, Pu.v_bl, Pu.v_int, Pu.v_str, Pu.v_const, Pu.v_fn, Pu.v_tup, Pu.v_lst, Pu.v_neg, Pu.v_nott, Pu.t_nott, Pu.v_bin, Pu.v_cmp, Pu.t_cmp', Pu.v_andd, Pu.t_andd, Pu.v_orr, Pu.t_orr, Pu.v_ite, Pu.v_call, Pu.v_callv0, Pu.v_prim, Pu.v_isi, Pu.v_idx, Pu.v_slc, Pu.v_comp, Pu.o_non, Pu.o_som, Pu.c_non, Pu.c_som, Pu.e_nil, Pu.e_cons, Pu.av_one, Pu.av_cons, Pu.ov_one, Pu.ov_cons, Pu.at_nil, Pu.at_cons, Pu.ot_nil, Pu.ot_cons, Pu.i_seq', Pu.i_rng1, Pu.i_rng2, Pu.i_zip', Pu.i_enum', Pu.t_slot, Pu.t_peek, Pu.t_bl, Pu.t_call, Pu.t_callv, Pu.t_prim, Pu.t_isi, Pu.t_idx, Pu.b_addI, Pu.b_addT, Pu.b_addL, Pu.b_subI, Pu.b_mulI, Pu.b_divI, Pu.b_modI, Pu.c_lt, Pu.c_le, Pu.c_gt, Pu.c_ge, Pu.c_eqI, Pu.c_neI, Pu.c_eqB, Pu.c_neB, Pu.c_isN, Pu.c_notN, Pu.d_bl, Pu.d_int, Pu.u_bl, Pu.u_int, Pu.u_non, Pu.u_tup, Pu.u_lst, Pu.x_tup, Pu.x_lst, Pu.at0, Pu.at1, Pu.at2, Pu.s_some, Pu.s_none, Pu.p_len, Pu.p_lenL, Pu.p_abs, Pu.p_int, Pu.p_all, Pu.p_any, Pu.p_tupL, Pu.p_tupT, Pu.p_lstL, Pu.p_lstT, Pu.q_tup, Pu.q_lst, Pu.q_scr, Pu.s_nil, Pu.s_wipe, Pu.s_freeze, Pu.s_ret, Pu.s_raise, Pu.s_pass, Pu.s_brk, Pu.s_cont, Pu.s_set, Pu.s_setOwn, Pu.own_lst, Pu.s_par, Pu.a_next, Pu.a_ret, Pu.a_brk, Pu.a_cont, Pu.s_iff, Pu.s_for, Pu.s_while, Pu.s_expr, Pu.s_try, Pu.s_aug, Pu.aug_some, Pu.aug_int, Pu.s_app, Pu.app_own, Pu.p_name, Pu.p_tup, Pu.ps_nil, Pu.ps_cons, Pu.v_tp, Pu.tp_val, Pu.tp_cell, Pu.s_tput, Pu.tput_val, Pu.s_tpop, Pu.tpop_val, Pu.s_tnew, Pu.tnew_lst, Pu.z_pure, Pu.z_seed, Pu.z_head, Pu.z_len, Pu.z_pseed, Pu.z_phead, Pu.z_pop, Pu.M.pure_bind, Pu.M.bind_assoc, Pu.M.bind_pure, Pu.M.stuck_bind, Pu.M.throw_bind, Pu.end_bind, Pu.end_ite, Pu.m_ite, Pu.noExc_pure, List.set_cons_zero, List.set_cons_succ, List.getElem?_cons_zero, List.getElem?_cons_succ, List.length_cons, List.length_nil, List.map_cons, List.map_nil, List.cons_append, List.nil_append, Pu.freezeE, Pu.wipeE, Pu.setsE, if_true, if_false, Bool.false_eq_true, reduceIte, Nat.reduceAdd, Nat.reduceSub, Nat.reduceEqDiff, decide_true, decide_false, Bool.not_true, Bool.not_false, Bool.true_and, Bool.and_true, Bool.false_and, Bool.and_false, Bool.true_or, Bool.or_true, Bool.false_or, Bool.or_false, gd_pos (show (2 : Int) ≠ 0 by decide), m2, hp0, Gk_call, multiply_ok k hy' hy', gd_pos h2, f2, show (((0 : Nat) : Int) == 1) = false from rfl]), ih, powR_sq]
      conv => rhs; rw [hq]
end K00

namespace K00
open PySem PySem.Spec PyProof.Rows L2 Pu
theorem fu_small {n : Nat} (h : n ≤ 1000) : n < FU := by
  unfold FU
  exact Nat.lt_of_le_of_lt h (Nat.lt_of_lt_of_le (by decide : 1000 < 2 ^ 10) (Nat.pow_le_pow_right (by decide) (by decide)))
theorem power_ok (k : Nat) {x : Rat} {n : Nat} (e : Nat) (hx : BR n x) (hn : 2 * e * n + 1 ≤ 4500) (he : e ≤ 1000) : callF T (k + 4) "power" [qD x, .int e] = pure (qD (powR x e)) := by
  obtain ⟨y', hw⟩ := pow_loop k FU e x 1 n 1 (fu_small he) hx BR.one hn
  have h0 : ¬ ((e : Int) < 0) := by omega
  rw [c_power, run_df _ ⟨rfl, by decide⟩]
  simp only [df_power, Gk_call, Gk_const, List.replicate, Pu.end_ret, Pu.end_next, Pu.end_stuck, Pu.end_throw, Pu.v_slot0, Pu.v_slotS, Pu.v_peekV, Pu.v_peekO, Pu.v_peekS, Pu.v_non, Pu.v_bl, Pu.v_int, Pu.v_str, Pu.v_const, Pu.v_fn, Pu.v_tup, Pu.v_lst, Pu.v_neg, Pu.v_nott, Pu.t_nott, Pu.v_bin, Pu.v_cmp, Pu.t_cmp', Pu.v_andd, Pu.t_andd, Pu.v_orr, Pu.t_orr, Pu.v_ite, Pu.v_call, Pu.v_callv0, Pu.v_prim, Pu.v_isi, Pu.v_idx, Pu.v_slc, Pu.v_comp, Pu.o_non, Pu.o_som, Pu.c_non, Pu.c_som, Pu.e_nil, Pu.e_cons, Pu.av_one, Pu.av_cons, Pu.ov_one, Pu.ov_cons, Pu.at_nil, Pu.at_cons, Pu.ot_nil, Pu.ot_cons, Pu.i_seq', Pu.i_rng1, Pu.i_rng2, Pu.i_zip', Pu.i_enum', Pu.t_slot, Pu.t_peek, Pu.t_bl, Pu.t_call, Pu.t_callv, Pu.t_prim, Pu.t_isi, Pu.t_idx, Pu.b_addI, Pu.b_addT, Pu.b_addL, Pu.b_subI, Pu.b_mulI, Pu.b_divI, Pu.b_modI, Pu.c_lt, Pu.c_le, Pu.c_gt, Pu.c_ge, Pu.c_eqI, Pu.c_neI, Pu.c_eqB, Pu.c_neB, Pu.c_isN, Pu.c_notN, Pu.d_bl, Pu.d_int, Pu.u_bl, Pu.u_int, Pu.u_non, Pu.u_tup, Pu.u_lst, Pu.x_tup, Pu.x_lst, Pu.at0, Pu.at1, Pu.at2, Pu.s_some, Pu.s_none, Pu.p_len, Pu.p_lenL, Pu.p_abs, Pu.p_int, Pu.p_all, Pu.p_any, Pu.p_tupL, Pu.p_tupT, Pu.p_lstL, Pu.p_lstT, Pu.q_tup, Pu.q_lst, Pu.q_scr, Pu.s_nil, Pu.s_wipe, Pu.s_freeze, Pu.s_ret, Pu.s_raise, Pu.s_pass, Pu.s_brk, Pu.s_cont, Pu.s_set, Pu.s_setOwn, Pu.own_lst, Pu.s_par, Pu.a_next, Pu.a_ret, Pu.a_brk, Pu.a_cont, Pu.s_iff, Pu.s_for, Pu.s_while, Pu.s_expr, Pu.s_try, Pu.s_aug, Pu.aug_some, Pu.aug_int, Pu.s_app, Pu.app_own, Pu.p_name, Pu.p_tup, Pu.ps_nil, Pu.ps_cons, Pu.v_tp, Pu.tp_val, Pu.tp_cell, Pu.s_tput, Pu.tput_val, Pu.s_tpop, Pu.tpop_val, Pu.s_tnew, Pu.tnew_lst, Pu.z_pure, Pu.z_seed, Pu.z_head, Pu.z_len, Pu.z_pseed, Pu.z_phead, Pu.z_pop, Pu.M.pure_bind, Pu.M.bind_assoc, Pu.M.bind_pure, Pu.M.stuck_bind, Pu.M.throw_bind, Pu.end_bind, Pu.end_ite, Pu.m_ite, Pu.noExc_pure, List.set_cons_zero, List.set_cons_succ, List.getElem?_cons_zero, List.getElem?_cons_succ, List.length_cons, List.length_nil, List.map_cons, List.map_nil, List.cons_append, List.nil_append, Pu.freezeE, Pu.wipeE, Pu.setsE, if_true, if_false, Bool.false_eq_true, reduceIte, Nat.reduceAdd, Nat.reduceSub, Nat.reduceEqDiff, decide_true, decide_false, Bool.not_true, Bool.not_false, Bool.true_and, Bool.and_true, Bool.false_and, Bool.and_false, Bool.true_or, Bool.or_true, Bool.false_or, Bool.or_false, h0, k_ONE, qD_one, hw, Rat.one_mul]
theorem power_neg (k : Nat) {x : Rat} {n : Nat} (e : Nat) (hx : BR n x) (h0 : x.num ≠ 0) (hn : 2 * (e + 1) * (1 + n) + 1 ≤ 4500) (he : e + 1 ≤ 1000) : callF T (k + 5) "power" [qD x, .int (-((e + 1 : Nat) : Int))] = pure (qD (powR (1 / x) (e + 1))) := by
  have hneg : (-((e + 1 : Nat) : Int)) < 0 := by omega
  have hx' : BR 4500 x := hx.mono (by
    have : 1 + n ≤ 2 * (e + 1) * (1 + n) := Nat.le_mul_of_pos_left _ (by omega)
    omega)
  have hq : BR (1 + n) (1 / x) := BR.quo h0 BR.one hx
  rw [c_power, run_df _ ⟨rfl, by decide⟩]
  simp only [df_power, Gk_call, Gk_const, List.replicate, Pu.end_ret, Pu.end_next, Pu.end_stuck, Pu.end_throw, Pu.v_slot0, Pu.v_slotS, Pu.v_peekV, Pu.v_peekO, Pu.v_peekS, Pu.v_non, Pu.v_bl, Pu.v_int, Pu.v_str, Pu.v_const, Pu.v_fn, Pu.v_tup, Pu.v_lst, Pu.v_neg, Pu.v_nott, Pu.t_nott, Pu.v_bin, Pu.v_cmp, Pu.t_cmp', Pu.v_andd, Pu.t_andd, Pu.v_orr, Pu.t_orr, Pu.v_ite, Pu.v_call, Pu.v_callv0, Pu.v_prim, Pu.v_isi, Pu.v_idx, Pu.v_slc, Pu.v_comp, Pu.o_non, Pu.o_som, Pu.c_non, Pu.c_som, Pu.e_nil, Pu.e_cons, Pu.av_one, Pu.av_cons, Pu.ov_one, Pu.ov_cons, Pu.at_nil, Pu.at_cons, Pu.ot_nil, Pu.ot_cons, Pu.i_seq', Pu.i_rng1, Pu.i_rng2, Pu.i_zip', Pu.i_enum', Pu.t_slot, Pu.t_peek, Pu.t_bl, Pu.t_call, Pu.t_callv, Pu.t_prim, Pu.t_isi, Pu.t_idx, Pu.b_addI, Pu.b_addT, Pu.b_addL, Pu.b_subI, Pu.b_mulI, Pu.b_divI, Pu.b_modI, Pu.c_lt, Pu.c_le, Pu.c_gt, Pu.c_ge, Pu.c_eqI, Pu.c_neI, Pu.c_eqB, Pu.c_neB, Pu.c_isN, Pu.c_notN, Pu.d_bl, Pu.d_int, Pu.u_bl, Pu.u_int, Pu.u_non, Pu.u_tup, Pu.u_lst, Pu.x_tup, Pu.x_lst, Pu.at0, Pu.at1, Pu.at2, Pu.s_some, Pu.s_none, Pu.p_len, Pu.p_lenL, Pu.p_abs, Pu.p_int, Pu.p_all, Pu.p_any, Pu.p_tupL, Pu.p_tupT, Pu.p_lstL, Pu.p_lstT, Pu.q_tup, Pu.q_lst, Pu.q_scr, Pu.s_nil, Pu.s_wipe, Pu.s_freeze, Pu.s_ret, Pu.s_raise, Pu.s_pass, Pu.s_brk, Pu.s_cont, Pu.s_set, Pu.s_setOwn, Pu.own_lst, Pu.s_par, Pu.a_next, Pu.a_ret, Pu.a_brk, Pu.a_cont, Pu.s_iff, Pu.s_for, Pu.s_while, Pu.s_expr, Pu.s_try, Pu.s_aug, Pu.aug_some, Pu.aug_int, Pu.s_app, Pu.app_own, Pu.p_name, Pu.p_tup, Pu.ps_nil, Pu.ps_cons, Pu.v_tp, Pu.tp_val, Pu.tp_cell, Pu.s_tput, Pu.tput_val, Pu.s_tpop, Pu.tpop_val, Pu.s_tnew, Pu.tnew_lst, Pu.z_pure, Pu.z_seed, Pu.z_head, Pu.z_len, Pu.z_pseed, Pu.z_phead, Pu.z_pop, Pu.M.pure_bind, Pu.M.bind_assoc, Pu.M.bind_pure, Pu.M.stuck_bind, Pu.M.throw_bind, Pu.end_bind, Pu.end_ite, Pu.m_ite, Pu.noExc_pure, List.set_cons_zero, List.set_cons_succ, List.getElem?_cons_zero, List.getElem?_cons_succ, List.length_cons, List.length_nil, List.map_cons, List.map_nil, List.cons_append, List.nil_append, Pu.freezeE, Pu.wipeE, Pu.setsE, if_true, if_false, Bool.false_eq_true, reduceIte, Nat.reduceAdd, Nat.reduceSub, Nat.reduceEqDiff, decide_true, decide_false, Bool.not_true, Bool.not_false, Bool.true_and, Bool.and_true, Bool.false_and, Bool.and_false, Bool.true_or, Bool.or_true, Bool.false_or, Bool.or_false, hneg, k_ONE, qD_one, divide_ok (k + 1) (BR.one.mono (by decide)) hx' h0, Int.neg_neg, power_ok k (e + 1) hq hn he]
theorem power_bad (k : Nat) {x : Rat} (e : Nat) (h0 : x.num = 0) : callF T (k + 4) "power" [qD x, .int (-((e + 1 : Nat) : Int))] = throwD "BadNumber" := by
  have hneg : (-((e + 1 : Nat) : Int)) < 0 := by omega
  rw [c_power, run_df _ ⟨rfl, by decide⟩]
  simp only [df_power, Gk_call, Gk_const, List.replicate, Pu.end_ret, Pu.end_next, Pu.end_stuck, Pu.end_throw, Pu.v_slot0, Pu.v_slotS, Pu.v_peekV, Pu.v_peekO, Pu.v_peekS, Pu.v_non, Pu.v_bl, Pu.v_int, Pu.v_str, Pu.v_const, Pu.v_fn, Pu.v_tup, Pu.v_lst, Pu.v_neg, Pu.v_nott, Pu.t_nott, Pu.v_bin, Pu.v_cmp, Pu.t_cmp', Pu.v_andd, Pu.t_andd, Pu.v_orr, Pu.t_orr, Pu.v_ite, Pu.v_call, Pu.v_callv0, Pu.v_prim, Pu.v_isi, Pu.v_idx, Pu.v_slc, Pu.v_comp, Pu.o_non, Pu.o_som, Pu.c_non, Pu.c_som, Pu.e_nil, Pu.e_cons, Pu.av_one, Pu.av_cons, Pu.ov_one, Pu.ov_cons, Pu.at_nil, Pu.at_cons, Pu.ot_nil, Pu.ot_cons, Pu.i_seq', Pu.i_rng1, Pu.i_rng2, Pu.i_zip', Pu.i_enum', Pu.t_slot, Pu.t_peek, Pu.t_bl, Pu.t_call, Pu.t_callv, Pu.t_prim, Pu.t_isi, Pu.t_idx, Pu.b_addI, Pu.b_addT, Pu.b_addL, Pu.b_subI, Pu.b_mulI, Pu.b_divI, Pu.b_modI, Pu.c_lt, Pu.c_le, Pu.c_gt, Pu.c_ge, Pu.c_eqI, Pu.c_neI, Pu.c_eqB, Pu.c_neB, Pu.c_isN, Pu.c_notN, Pu.d_bl, Pu.d_int, Pu.u_bl, Pu.u_int, Pu.u_non, Pu.u_tup, Pu.u_lst, Pu.x_tup, Pu.x_lst, Pu.at0, Pu.at1, Pu.at2, Pu.s_some, Pu.s_none, Pu.p_len, Pu.p_lenL, Pu.p_abs, Pu.p_int, Pu.p_all, Pu.p_any, Pu.p_tupL, Pu.p_tupT, Pu.p_lstL, Pu.p_lstT, Pu.q_tup, Pu.q_lst, Pu.q_scr, Pu.s_nil, Pu.s_wipe, Pu.s_freeze, Pu.s_ret, Pu.s_raise, Pu.s_pass, Pu.s_brk, Pu.s_cont, Pu.s_set, Pu.s_setOwn, Pu.own_lst, Pu.s_par, Pu.a_next, Pu.a_ret, Pu.a_brk, Pu.a_cont, Pu.s_iff, Pu.s_for, Pu.s_while, Pu.s_expr, Pu.s_try, Pu.s_aug, Pu.aug_some, Pu.aug_int, Pu.s_app, Pu.app_own, Pu.p_name, Pu.p_tup, Pu.ps_nil, Pu.ps_cons, Pu.v_tp, Pu.tp_val, Pu.tp_cell, Pu.s_tput, Pu.tput_val, Pu.s_tpop, Pu.tpop_val, Pu.s_tnew, Pu.tnew_lst, Pu.z_pure, Pu.z_seed, Pu.z_head, Pu.z_len, Pu.z_pseed, Pu.z_phead, Pu.z_pop, Pu.M.pure_bind, Pu.M.bind_assoc, Pu.M.bind_pure, Pu.M.stuck_bind, Pu.M.throw_bind, Pu.end_bind, Pu.end_ite, Pu.m_ite, Pu.noExc_pure, List.set_cons_zero, List.set_cons_succ, List.getElem?_cons_zero, List.getElem?_cons_succ, List.length_cons, List.length_nil, List.map_cons, List.map_nil, List.cons_append, List.nil_append, Pu.freezeE, Pu.wipeE, Pu.setsE, if_true, if_false, Bool.false_eq_true, reduceIte, Nat.reduceAdd, Nat.reduceSub, Nat.reduceEqDiff, decide_true, decide_false, Bool.not_true, Bool.not_false, Bool.true_and, Bool.and_true, Bool.false_and, Bool.and_false, Bool.true_or, Bool.or_true, Bool.false_or, Bool.or_false, hneg, k_ONE, qD_one, divide_bad k (x := 1) h0]
/-- m does a, whatever the tape -/
theorem eq_pure {α : Type} {m : M α} {a : α} (h : ∀ t, (m t).is (fun d t' => d = a ∧ t' = t) fun _ _ => False) : m = pure a := by
  funext t
  obtain ⟨d, t', e, rfl, rfl⟩ := is_run (h t)
  exact e
theorem powR_frac (x : Rat) : ∀ j, powR x j = Rat.divInt (x.num ^ j) (x.den ^ j)
  | 0 => by rw [Int.pow_zero, Int.pow_zero]; rfl
  | j + 1 => by
    rw [powR_succ, powR_frac x j, Int.pow_succ, Int.pow_succ, ← Rat.divInt_mul_divInt, rat_eq]
theorem powR_inv (x : Rat) : ∀ j, powR (1 / x) j = Rat.divInt (x.den ^ j) (x.num ^ j)
  | 0 => by rw [Int.pow_zero, Int.pow_zero]; rfl
  | j + 1 => by
    rw [powR_succ, powR_inv x j, Int.pow_succ, Int.pow_succ, ← Rat.divInt_mul_divInt, ← Rat.inv_def, Rat.div_def, Rat.one_mul]
theorem bd_pow {n : Nat} {x : Int} (h : Bd n x) : ∀ j, Bd (n * j + 1) (x ^ j)
  | 0 => by unfold Bd; rw [Int.pow_zero]; exact Nat.one_lt_two_pow (by omega)
  | j + 1 => by
    rw [Int.pow_succ]
    exact (Bd.mul (bd_pow h j) h).mono (by rw [Nat.mul_succ]; omega)
theorem rangeL_succ (lo : Int) (n : Nat) : rangeL lo (n + 1) = .int lo :: rangeL (lo + 1) n := by
  unfold rangeL
  rw [List.range_succ_eq_map, List.map_cons, List.map_map]
  congr 1
  · congr 1; omega
  · apply List.map_congr_left
    intro i _
    show D.int _ = D.int _
    congr 1
    omega
theorem pow_ne {x : Int} (h : x ≠ 0) (j : Nat) : x ^ j ≠ 0 := fun z => h (by
  induction j with
  | zero => rw [Int.pow_zero] at z; exact absurd z (by decide)
  | succ j ih =>
    rw [Int.pow_succ] at z
    rcases Int.mul_eq_zero.mp z with z | z
    · exact ih z
    · exact z)
theorem brp {x : Rat} {j : Nat} (hx : BR 100 x) (hj : j ≤ 6) : BR 700 (powR x j) := by
  rw [powR_frac]
  exact BR.div (pow_ne (den_ne x) j) ((bd_pow hx.1 j).mono (by omega)) ((bd_pow hx.2 j).mono (by omega))
theorem brpi {x : Rat} {j : Nat} (hx : BR 100 x) (h0 : x.num ≠ 0) (hj : j ≤ 6) : BR 700 (powR (1 / x) j) := by
  rw [powR_inv]
  exact BR.div (pow_ne h0 j) ((bd_pow hx.2 j).mono (by omega)) ((bd_pow hx.1 j).mono (by omega))
theorem powers_ok (k : Nat) {x : Rat} (hx : BR 100 x) : callF T (k + 6) "_law_powers" [qD x] = pure (.bl true) := by
  refine eq_pure fun t => ?_
  rw [c__law_powers, run_df _ ⟨rfl, by decide⟩]
  simp only [df__law_powers, Gk_call, Gk_const, List.replicate, Pu.end_ret, Pu.end_next, Pu.end_stuck, Pu.end_throw, Pu.v_slot0, Pu.v_slotS, Pu.v_peekV, Pu.v_peekO, Pu.v_peekS, Pu.v_non, Pu.v_bl, Pu.v_int, Pu.v_str, Pu.v_const, Pu.v_fn, Pu.v_tup, Pu.v_lst, Pu.v_neg, Pu.v_nott, Pu.t_nott, Pu.v_bin, Pu.v_cmp, Pu.t_cmp', Pu.v_andd, Pu.t_andd, Pu.v_orr, Pu.t_orr, Pu.v_ite, Pu.v_call, Pu.v_callv0, Pu.v_prim, Pu.v_isi, Pu.v_idx, Pu.v_slc, Pu.v_comp, Pu.o_non, Pu.o_som, Pu.c_non, Pu.c_som, Pu.e_nil, Pu.e_cons, Pu.av_one, Pu.av_cons, Pu.ov_one, Pu.ov_cons, Pu.at_nil, Pu.at_cons, Pu.ot_nil, Pu.ot_cons, Pu.i_seq', Pu.i_rng1, Pu.i_rng2, Pu.i_zip', Pu.i_enum', Pu.t_slot, Pu.t_peek, Pu.t_bl, Pu.t_call, Pu.t_callv, Pu.t_prim, Pu.t_isi, Pu.t_idx, Pu.b_addI, Pu.b_addT, Pu.b_addL, Pu.b_subI, Pu.b_mulI, Pu.b_divI, Pu.b_modI, Pu.c_lt, Pu.c_le, Pu.c_gt, Pu.c_ge, Pu.c_eqI, Pu.c_neI, Pu.c_eqB, Pu.c_neB, Pu.c_isN, Pu.c_notN, Pu.d_bl, Pu.d_int, Pu.u_bl, Pu.u_int, Pu.u_non, Pu.u_tup, Pu.u_lst, Pu.x_tup, Pu.x_lst, Pu.at0, Pu.at1, Pu.at2, Pu.s_some, Pu.s_none, Pu.p_len, Pu.p_lenL, Pu.p_abs, Pu.p_int, Pu.p_all, Pu.p_any, Pu.p_tupL, Pu.p_tupT, Pu.p_lstL, Pu.p_lstT, Pu.q_tup, Pu.q_lst, Pu.q_scr, Pu.s_nil, Pu.s_wipe, Pu.s_freeze, Pu.s_ret, Pu.s_raise, Pu.s_pass, Pu.s_brk, Pu.s_cont, Pu.s_set, Pu.s_setOwn, Pu.own_lst, Pu.s_par, Pu.a_next, Pu.a_ret, Pu.a_brk, Pu.a_cont, Pu.s_iff, Pu.s_for, Pu.s_while, Pu.s_expr, Pu.s_try, Pu.s_aug, Pu.aug_some, Pu.aug_int, Pu.s_app, Pu.app_own, Pu.p_name, Pu.p_tup, Pu.ps_nil, Pu.ps_cons, Pu.v_tp, Pu.tp_val, Pu.tp_cell, Pu.s_tput, Pu.tput_val, Pu.s_tpop, Pu.tpop_val, Pu.s_tnew, Pu.tnew_lst, Pu.z_pure, Pu.z_seed, Pu.z_head, Pu.z_len, Pu.z_pseed, Pu.z_phead, Pu.z_pop, Pu.M.pure_bind, Pu.M.bind_assoc, Pu.M.bind_pure, Pu.M.stuck_bind, Pu.M.throw_bind, Pu.end_bind, Pu.end_ite, Pu.m_ite, Pu.noExc_pure, List.set_cons_zero, List.set_cons_succ, List.getElem?_cons_zero, List.getElem?_cons_succ, List.length_cons, List.length_nil, List.map_cons, List.map_nil, List.cons_append, List.nil_append, Pu.freezeE, Pu.wipeE, Pu.setsE, if_true, if_false, Bool.false_eq_true, reduceIte, Nat.reduceAdd, Nat.reduceSub, Nat.reduceEqDiff, decide_true, decide_false, Bool.not_true, Bool.not_false, Bool.true_and, Bool.and_true, Bool.false_and, Bool.and_false, Bool.true_or, Bool.or_true, Bool.false_or, Bool.or_false, gd_pos le2, gd_pos (show -2 ^ 62 ≤ (6 : Int) ∧ (6 : Int) < 2 ^ 62 by decide)]
  refine is_seq (forM_is _ (fun xs σ t' => ∃ j : Nat, j + xs.length = 6 ∧ xs = rangeL j (6 - j) ∧ σ = [some (.val (qD x)), some (.val (.int (x.num ^ j))), some (.val (.int (x.den ^ j))), none] ∧ t' = t) ?_ ?_ _ _ ⟨0, rfl, rfl, by rw [Int.pow_zero, Int.pow_zero], rfl⟩)
  · rintro d rs σ t' ⟨j, hl, hxs, rfl, rfl⟩
    rw [List.length_cons] at hl
    obtain ⟨m, hm⟩ : ∃ m, 6 - j = m + 1 := ⟨5 - j, by omega⟩
    rw [hm, rangeL_succ] at hxs
    cases hxs
    have hj : j ≤ 6 := by omega
    have hpn : Bd 60000000 (x.num ^ j) := (bd_pow hx.1 j).mono (by omega)
    have hpd : Bd 60000000 ((x.den : Int) ^ j) := (bd_pow hx.2 j).mono (by omega)
    have e1 : callF T (k + 5) "_law_is" [qD (powR x j), .int (x.num ^ j), .int ((x.den : Int) ^ j)] = pure (.bl true) := isd_ok (k + 3) (pow_ne (den_ne x) j) (powR_frac x j) ((brp hx hj).mono (by decide)) hpn hpd
    have hm1 : mulOk (x.num ^ j) x.num := hpn.mulOk (hx.1.mono (by decide))
    have hm2 : mulOk ((x.den : Int) ^ j) x.den := hpd.mulOk (hx.2.mono (by decide))
    have en : idxD (qD x) (.int 0) = pure (.int x.num) := by simp only [qD, Pu.end_ret, Pu.end_next, Pu.end_stuck, Pu.end_throw, Pu.v_slot0, Pu.v_slotS, Pu.v_peekV, Pu.v_peekO, Pu.v_peekS, Pu.v_non, Pu.v_bl, Pu.v_int, Pu.v_str, Pu.v_const, Pu.v_fn, Pu.v_tup, Pu.v_lst, Pu.v_neg, Pu.v_nott, Pu.t_nott, Pu.v_bin, Pu.v_cmp, Pu.t_cmp', Pu.v_andd, Pu.t_andd, Pu.v_orr, Pu.t_orr, Pu.v_ite, Pu.v_call, Pu.v_callv0, Pu.v_prim, Pu.v_isi, Pu.v_idx, Pu.v_slc, Pu.v_comp, Pu.o_non, Pu.o_som, Pu.c_non, Pu.c_som, Pu.e_nil, Pu.e_cons, Pu.av_one, Pu.av_cons, Pu.ov_one, Pu.ov_cons, Pu.at_nil, Pu.at_cons, Pu.ot_nil, Pu.ot_cons, Pu.i_seq', Pu.i_rng1, Pu.i_rng2, Pu.i_zip', Pu.i_enum', Pu.t_slot, Pu.t_peek, Pu.t_bl, Pu.t_call, Pu.t_callv, Pu.t_prim, Pu.t_isi, Pu.t_idx, Pu.b_addI, Pu.b_addT, Pu.b_addL, Pu.b_subI, Pu.b_mulI, Pu.b_divI, Pu.b_modI, Pu.c_lt, Pu.c_le, Pu.c_gt, Pu.c_ge, Pu.c_eqI, Pu.c_neI, Pu.c_eqB, Pu.c_neB, Pu.c_isN, Pu.c_notN, Pu.d_bl, Pu.d_int, Pu.u_bl, Pu.u_int, Pu.u_non, Pu.u_tup, Pu.u_lst, Pu.x_tup, Pu.x_lst, Pu.at0, Pu.at1, Pu.at2, Pu.s_some, Pu.s_none, Pu.p_len, Pu.p_lenL, Pu.p_abs, Pu.p_int, Pu.p_all, Pu.p_any, Pu.p_tupL, Pu.p_tupT, Pu.p_lstL, Pu.p_lstT, Pu.q_tup, Pu.q_lst, Pu.q_scr, Pu.s_nil, Pu.s_wipe, Pu.s_freeze, Pu.s_ret, Pu.s_raise, Pu.s_pass, Pu.s_brk, Pu.s_cont, Pu.s_set, Pu.s_setOwn, Pu.own_lst, Pu.s_par, Pu.a_next, Pu.a_ret, Pu.a_brk, Pu.a_cont, Pu.s_iff, Pu.s_for, Pu.s_while, Pu.s_expr, Pu.s_try, Pu.s_aug, Pu.aug_some, Pu.aug_int, Pu.s_app, Pu.app_own, Pu.p_name, Pu.p_tup, Pu.ps_nil, Pu.ps_cons, Pu.v_tp, Pu.tp_val, Pu.tp_cell, Pu.s_tput, Pu.tput_val, Pu.s_tpop, Pu.tpop_val, Pu.s_tnew, Pu.tnew_lst, Pu.z_pure, Pu.z_seed, Pu.z_head, Pu.z_len, Pu.z_pseed, Pu.z_phead, Pu.z_pop, Pu.M.pure_bind, Pu.M.bind_assoc, Pu.M.bind_pure, Pu.M.stuck_bind, Pu.M.throw_bind, Pu.end_bind, Pu.end_ite, Pu.m_ite, Pu.noExc_pure, List.set_cons_zero, List.set_cons_succ, List.getElem?_cons_zero, List.getElem?_cons_succ, List.length_cons, List.length_nil, List.map_cons, List.map_nil, List.cons_append, List.nil_append, Pu.freezeE, Pu.wipeE, Pu.setsE, if_true, if_false, Bool.false_eq_true, reduceIte, Nat.reduceAdd, Nat.reduceSub, Nat.reduceEqDiff, decide_true, decide_false, Bool.not_true, Bool.not_false, Bool.true_and, Bool.and_true, Bool.false_and, Bool.and_false, Bool.true_or, Bool.or_true, Bool.false_or, Bool.or_false]
    have ed : idxD (qD x) (.int 1) = pure (.int x.den) := by simp only [qD, Pu.end_ret, Pu.end_next, Pu.end_stuck, Pu.end_throw, Pu.v_slot0, Pu.v_slotS, Pu.v_peekV, Pu.v_peekO, Pu.v_peekS, Pu.v_non, Pu.v_bl, Pu.v_int, Pu.v_str, Pu.v_const, Pu.v_fn, Pu.v_tup, Pu.v_lst, Pu.v_neg, Pu.v_nott, Pu.t_nott, Pu.v_bin, Pu.v_cmp, Pu.t_cmp', Pu.v_andd, Pu.t_andd, Pu.v_orr, Pu.t_orr, Pu.v_ite, Pu.v_call, Pu.v_callv0, Pu.v_prim, Pu.v_isi, Pu.v_idx, Pu.v_slc, Pu.v_comp, Pu.o_non, Pu.o_som, Pu.c_non, Pu.c_som, Pu.e_nil, Pu.e_cons, Pu.av_one, Pu.av_cons, Pu.ov_one, Pu.ov_cons, Pu.at_nil, Pu.at_cons, Pu.ot_nil, Pu.ot_cons, Pu.i_seq', Pu.i_rng1, Pu.i_rng2, Pu.i_zip', Pu.i_enum', Pu.t_slot, Pu.t_peek, Pu.t_bl, Pu.t_call, Pu.t_callv, Pu.t_prim, Pu.t_isi, Pu.t_idx, Pu.b_addI, Pu.b_addT, Pu.b_addL, Pu.b_subI, Pu.b_mulI, Pu.b_divI, Pu.b_modI, Pu.c_lt, Pu.c_le, Pu.c_gt, Pu.c_ge, Pu.c_eqI, Pu.c_neI, Pu.c_eqB, Pu.c_neB, Pu.c_isN, Pu.c_notN, Pu.d_bl, Pu.d_int, Pu.u_bl, Pu.u_int, Pu.u_non, Pu.u_tup, Pu.u_lst, Pu.x_tup, Pu.x_lst, Pu.at0, Pu.at1, Pu.at2, Pu.s_some, Pu.s_none, Pu.p_len, Pu.p_lenL, Pu.p_abs, Pu.p_int, Pu.p_all, Pu.p_any, Pu.p_tupL, Pu.p_tupT, Pu.p_lstL, Pu.p_lstT, Pu.q_tup, Pu.q_lst, Pu.q_scr, Pu.s_nil, Pu.s_wipe, Pu.s_freeze, Pu.s_ret, Pu.s_raise, Pu.s_pass, Pu.s_brk, Pu.s_cont, Pu.s_set, Pu.s_setOwn, Pu.own_lst, Pu.s_par, Pu.a_next, Pu.a_ret, Pu.a_brk, Pu.a_cont, Pu.s_iff, Pu.s_for, Pu.s_while, Pu.s_expr, Pu.s_try, Pu.s_aug, Pu.aug_some, Pu.aug_int, Pu.s_app, Pu.app_own, Pu.p_name, Pu.p_tup, Pu.ps_nil, Pu.ps_cons, Pu.v_tp, Pu.tp_val, Pu.tp_cell, Pu.s_tput, Pu.tput_val, Pu.s_tpop, Pu.tpop_val, Pu.s_tnew, Pu.tnew_lst, Pu.z_pure, Pu.z_seed, Pu.z_head, Pu.z_len, Pu.z_pseed, Pu.z_phead, Pu.z_pop, Pu.M.pure_bind, Pu.M.bind_assoc, Pu.M.bind_pure, Pu.M.stuck_bind, Pu.M.throw_bind, Pu.end_bind, Pu.end_ite, Pu.m_ite, Pu.noExc_pure, List.set_cons_zero, List.set_cons_succ, List.getElem?_cons_zero, List.getElem?_cons_succ, List.length_cons, List.length_nil, List.map_cons, List.map_nil, List.cons_append, List.nil_append, Pu.freezeE, Pu.wipeE, Pu.setsE, if_true, if_false, Bool.false_eq_true, reduceIte, Nat.reduceAdd, Nat.reduceSub, Nat.reduceEqDiff, decide_true, decide_false, Bool.not_true, Bool.not_false, Bool.true_and, Bool.and_true, Bool.false_and, Bool.and_false, Bool.true_or, Bool.or_true, Bool.false_or, Bool.or_false]
    simp only [Pu.end_ret, Pu.end_next, Pu.end_stuck, Pu.end_throw, Pu.v_slot0, Pu.v_slotS, Pu.v_peekV, Pu.v_peekO, Pu.v_peekS, Pu.v_non, Pu.v_bl, Pu.v_int, Pu.v_str, Pu.v_const, Pu.v_fn, Pu.v_tup, Pu.v_lst, Pu.v_neg, Pu.v_nott, Pu.t_nott, Pu.v_bin, Pu.v_cmp, Pu.t_cmp', Pu.v_andd, Pu.t_andd, Pu.v_orr, Pu.t_orr, Pu.v_ite, Pu.v_call, Pu.v_callv0, Pu.v_prim, Pu.v_isi, Pu.v_idx, Pu.v_slc, Pu.v_comp, Pu.o_non, Pu.o_som, Pu.c_non, Pu.c_som, Pu.e_nil, Pu.e_cons, Pu.av_one, Pu.av_cons, Pu.ov_one, Pu.ov_cons, Pu.at_nil, Pu.at_cons, Pu.ot_nil, Pu.ot_cons, Pu.i_seq', Pu.i_rng1, Pu.i_rng2, Pu.i_zip', Pu.i_enum', Pu.t_slot, Pu.t_peek, Pu.t_bl, Pu.t_call, Pu.t_callv, Pu.t_prim, Pu.t_isi, Pu.t_idx, Pu.b_addI, Pu.b_addT, Pu.b_addL, Pu.b_subI, Pu.b_mulI, Pu.b_divI, Pu.b_modI, Pu.c_lt, Pu.c_le, Pu.c_gt, Pu.c_ge, Pu.c_eqI, Pu.c_neI, Pu.c_eqB, Pu.c_neB, Pu.c_isN, Pu.c_notN, Pu.d_bl, Pu.d_int, Pu.u_bl, Pu.u_int, Pu.u_non, Pu.u_tup, Pu.u_lst, Pu.x_tup, Pu.x_lst, Pu.at0, Pu.at1, Pu.at2, Pu.s_some, Pu.s_none, Pu.p_len, Pu.p_lenL, Pu.p_abs, Pu.p_int, Pu.p_all, Pu.p_any, Pu.p_tupL, Pu.p_tupT, Pu.p_lstL, Pu.p_lstT, Pu.q_tup, Pu.q_lst, Pu.q_scr, Pu.s_nil, Pu.s_wipe, Pu.s_freeze, Pu.s_ret, Pu.s_raise, Pu.s_pass, Pu.s_brk, Pu.s_cont, Pu.s_set, Pu.s_setOwn, Pu.own_lst, Pu.s_par, Pu.a_next, Pu.a_ret, Pu.a_brk, Pu.a_cont, Pu.s_iff, Pu.s_for, Pu.s_while, Pu.s_expr, Pu.s_try, Pu.s_aug, Pu.aug_some, Pu.aug_int, Pu.s_app, Pu.app_own, Pu.p_name, Pu.p_tup, Pu.ps_nil, Pu.ps_cons, Pu.v_tp, Pu.tp_val, Pu.tp_cell, Pu.s_tput, Pu.tput_val, Pu.s_tpop, Pu.tpop_val, Pu.s_tnew, Pu.tnew_lst, Pu.z_pure, Pu.z_seed, Pu.z_head, Pu.z_len, Pu.z_pseed, Pu.z_phead, Pu.z_pop, Pu.M.pure_bind, Pu.M.bind_assoc, Pu.M.bind_pure, Pu.M.stuck_bind, Pu.M.throw_bind, Pu.end_bind, Pu.end_ite, Pu.m_ite, Pu.noExc_pure, List.set_cons_zero, List.set_cons_succ, List.getElem?_cons_zero, List.getElem?_cons_succ, List.length_cons, List.length_nil, List.map_cons, List.map_nil, List.cons_append, List.nil_append, Pu.freezeE, Pu.wipeE, Pu.setsE, if_true, if_false, Bool.false_eq_true, reduceIte, Nat.reduceAdd, Nat.reduceSub, Nat.reduceEqDiff, decide_true, decide_false, Bool.not_true, Bool.not_false, Bool.true_and, Bool.and_true, Bool.false_and, Bool.and_false, Bool.true_or, Bool.or_true, Bool.false_or, Bool.or_false, Gk_call, power_ok (k + 1) j hx (by omega) (by omega), e1, en]
    by_cases hz : x.num = 0 ∧ 0 < j
    · obtain ⟨hz, hj0⟩ := hz
      obtain ⟨i, rfl⟩ : ∃ i, j = i + 1 := ⟨j - 1, by omega⟩
      have h0 : (0 : Int) < ((i + 1 : Nat) : Int) := by omega
      simp only [h0, Pu.end_ret, Pu.end_next, Pu.end_stuck, Pu.end_throw, Pu.v_slot0, Pu.v_slotS, Pu.v_peekV, Pu.v_peekO, Pu.v_peekS, Pu.v_non, Pu.v_bl, Pu.v_int, Pu.v_str, Pu.v_const, Pu.v_fn, Pu.v_tup, Pu.v_lst, Pu.v_neg, Pu.v_nott, Pu.t_nott, Pu.v_bin, Pu.v_cmp, Pu.t_cmp', Pu.v_andd, Pu.t_andd, Pu.v_orr, Pu.t_orr, Pu.v_ite, Pu.v_call, Pu.v_callv0, Pu.v_prim, Pu.v_isi, Pu.v_idx, Pu.v_slc, Pu.v_comp, Pu.o_non, Pu.o_som, Pu.c_non, Pu.c_som, Pu.e_nil, Pu.e_cons, Pu.av_one, Pu.av_cons, Pu.ov_one, Pu.ov_cons, Pu.at_nil, Pu.at_cons, Pu.ot_nil, Pu.ot_cons, Pu.i_seq', Pu.i_rng1, Pu.i_rng2, Pu.i_zip', Pu.i_enum', Pu.t_slot, Pu.t_peek, Pu.t_bl, Pu.t_call, Pu.t_callv, Pu.t_prim, Pu.t_isi, Pu.t_idx, Pu.b_addI, Pu.b_addT, Pu.b_addL, Pu.b_subI, Pu.b_mulI, Pu.b_divI, Pu.b_modI, Pu.c_lt, Pu.c_le, Pu.c_gt, Pu.c_ge, Pu.c_eqI, Pu.c_neI, Pu.c_eqB, Pu.c_neB, Pu.c_isN, Pu.c_notN, Pu.d_bl, Pu.d_int, Pu.u_bl, Pu.u_int, Pu.u_non, Pu.u_tup, Pu.u_lst, Pu.x_tup, Pu.x_lst, Pu.at0, Pu.at1, Pu.at2, Pu.s_some, Pu.s_none, Pu.p_len, Pu.p_lenL, Pu.p_abs, Pu.p_int, Pu.p_all, Pu.p_any, Pu.p_tupL, Pu.p_tupT, Pu.p_lstL, Pu.p_lstT, Pu.q_tup, Pu.q_lst, Pu.q_scr, Pu.s_nil, Pu.s_wipe, Pu.s_freeze, Pu.s_ret, Pu.s_raise, Pu.s_pass, Pu.s_brk, Pu.s_cont, Pu.s_set, Pu.s_setOwn, Pu.own_lst, Pu.s_par, Pu.a_next, Pu.a_ret, Pu.a_brk, Pu.a_cont, Pu.s_iff, Pu.s_for, Pu.s_while, Pu.s_expr, Pu.s_try, Pu.s_aug, Pu.aug_some, Pu.aug_int, Pu.s_app, Pu.app_own, Pu.p_name, Pu.p_tup, Pu.ps_nil, Pu.ps_cons, Pu.v_tp, Pu.tp_val, Pu.tp_cell, Pu.s_tput, Pu.tput_val, Pu.s_tpop, Pu.tpop_val, Pu.s_tnew, Pu.tnew_lst, Pu.z_pure, Pu.z_seed, Pu.z_head, Pu.z_len, Pu.z_pseed, Pu.z_phead, Pu.z_pop, Pu.M.pure_bind, Pu.M.bind_assoc, Pu.M.bind_pure, Pu.M.stuck_bind, Pu.M.throw_bind, Pu.end_bind, Pu.end_ite, Pu.m_ite, Pu.noExc_pure, List.set_cons_zero, List.set_cons_succ, List.getElem?_cons_zero, List.getElem?_cons_succ, List.length_cons, List.length_nil, List.map_cons, List.map_nil, List.cons_append, List.nil_append, Pu.freezeE, Pu.wipeE, Pu.setsE, if_true, if_false, Bool.false_eq_true, reduceIte, Nat.reduceAdd, Nat.reduceSub, Nat.reduceEqDiff, decide_true, decide_false, Bool.not_true, Bool.not_false, Bool.true_and, Bool.and_true, Bool.false_and, Bool.and_false, Bool.true_or, Bool.or_true, Bool.false_or, Bool.or_false, show (x.num == 0) = true by simpa using hz, Gk_isFn, isF_power, Gk_call, refused_ok (k + 4) (power_bad k i hz), en, ed, gd_pos hm1, gd_pos hm2]
      exact ⟨i + 1 + 1, by omega, by rw [show (6 : Nat) - (i + 1 + 1) = m by omega]; rfl, by rw [Int.pow_succ x.num (i + 1), Int.pow_succ (x.den : Int) (i + 1)], rfl⟩
    · have e2 : callF T (k + 5) "power" [qD x, .int (-(j : Int))] = pure (qD (powR (1 / x) j)) ∧ callF T (k + 5) "_law_is" [qD (powR (1 / x) j), .int ((x.den : Int) ^ j), .int (x.num ^ j)] = pure (.bl true) := by
        cases j with
        | zero =>
          refine ⟨power_ok (k + 1) 0 hx (by omega) (by omega), ?_⟩
          exact isd_ok (k + 3) (r := powR (1 / x) 0) (by rw [Int.pow_zero]; decide) (powR_inv x 0) (BR.one.mono (by decide)) hpd hpn
        | succ j =>
          have h0 : x.num ≠ 0 := fun z => hz ⟨z, by omega⟩
          exact ⟨power_neg k j hx h0 (by omega) (by omega), isd_ok (k + 3) (pow_ne h0 (j + 1)) (powR_inv x (j + 1)) ((brpi hx h0 hj).mono (by decide)) hpd hpn⟩
      have hc : ((x.num == 0) && decide ((0 : Int) < (j : Int))) = false := by
        by_cases q : x.num = 0
        · have : ¬ ((0 : Int) < (j : Int)) := fun w => hz ⟨q, by omega⟩
          simp only [q, this, decide_false, Bool.and_false]
        · simp [q]
      by_cases q : (x.num == 0) = true
      · have q2 : decide ((0 : Int) < (j : Int)) = false := by rw [q] at hc; simpa using hc
        simp only [Pu.end_ret, Pu.end_next, Pu.end_stuck, Pu.end_throw, Pu.v_slot0, Pu.v_slotS, Pu.v_peekV, Pu.v_peekO, Pu.v_peekS, Pu.v_non, Pu.v_bl, Pu.v_int, Pu.v_str, Pu.v_const, Pu.v_fn, Pu.v_tup, Pu.v_lst, Pu.v_neg, Pu.v_nott, Pu.t_nott, Pu.v_bin, Pu.v_cmp, Pu.t_cmp', Pu.v_andd, Pu.t_andd, Pu.v_orr, Pu.t_orr, Pu.v_ite, Pu.v_call, Pu.v_callv0, Pu.v_prim, Pu.v_isi, Pu.v_idx, Pu.v_slc, Pu.v_comp, Pu.o_non, Pu.o_som, Pu.c_non, Pu.c_som, Pu.e_nil, Pu.e_cons, Pu.av_one, Pu.av_cons, Pu.ov_one, Pu.ov_cons, Pu.at_nil, Pu.at_cons, Pu.ot_nil, Pu.ot_cons, Pu.i_seq', Pu.i_rng1, Pu.i_rng2, Pu.i_zip', Pu.i_enum', Pu.t_slot, Pu.t_peek, Pu.t_bl, Pu.t_call, Pu.t_callv, Pu.t_prim, Pu.t_isi, Pu.t_idx, Pu.b_addI, Pu.b_addT, Pu.b_addL, Pu.b_subI, Pu.b_mulI, Pu.b_divI, Pu.b_modI, Pu.c_lt, Pu.c_le, Pu.c_gt, Pu.c_ge, Pu.c_eqI, Pu.c_neI, Pu.c_eqB, Pu.c_neB, Pu.c_isN, Pu.c_notN, Pu.d_bl, Pu.d_int, Pu.u_bl, Pu.u_int, Pu.u_non, Pu.u_tup, Pu.u_lst, Pu.x_tup, Pu.x_lst, Pu.at0, Pu.at1, Pu.at2, Pu.s_some, Pu.s_none, Pu.p_len, Pu.p_lenL, Pu.p_abs, Pu.p_int, Pu.p_all, Pu.p_any, Pu.p_tupL, Pu.p_tupT, Pu.p_lstL, Pu.p_lstT, Pu.q_tup, Pu.q_lst, Pu.q_scr, Pu.s_nil, Pu.s_wipe, Pu.s_freeze, Pu.s_ret, Pu.s_raise, Pu.s_pass, Pu.s_brk, Pu.s_cont, Pu.s_set, Pu.s_setOwn, Pu.own_lst, Pu.s_par, Pu.a_next, Pu.a_ret, Pu.a_brk, Pu.a_cont, Pu.s_iff, Pu.s_for, Pu.s_while, Pu.s_expr, Pu.s_try, Pu.s_aug, Pu.aug_some, Pu.aug_int, Pu.s_app, Pu.app_own, Pu.p_name, Pu.p_tup, Pu.ps_nil, Pu.ps_cons, Pu.v_tp, Pu.tp_val, Pu.tp_cell, Pu.s_tput, Pu.tput_val, Pu.s_tpop, Pu.tpop_val, Pu.s_tnew, Pu.tnew_lst, Pu.z_pure, Pu.z_seed, Pu.z_head, Pu.z_len, Pu.z_pseed, Pu.z_phead, Pu.z_pop, Pu.M.pure_bind, Pu.M.bind_assoc, Pu.M.bind_pure, Pu.M.stuck_bind, Pu.M.throw_bind, Pu.end_bind, Pu.end_ite, Pu.m_ite, Pu.noExc_pure, List.set_cons_zero, List.set_cons_succ, List.getElem?_cons_zero, List.getElem?_cons_succ, List.length_cons, List.length_nil, List.map_cons, List.map_nil, List.cons_append, List.nil_append, Pu.freezeE, Pu.wipeE, Pu.setsE, if_true, if_false, Bool.false_eq_true, reduceIte, Nat.reduceAdd, Nat.reduceSub, Nat.reduceEqDiff, decide_true, decide_false, Bool.not_true, Bool.not_false, Bool.true_and, Bool.and_true, Bool.false_and, Bool.and_false, Bool.true_or, Bool.or_true, Bool.false_or, Bool.or_false, q, q2, Gk_call, e2.1, e2.2, en, ed, gd_pos hm1, gd_pos hm2]
        exact ⟨j + 1, by omega, by rw [show (6 : Nat) - (j + 1) = m by omega]; rfl, by rw [Int.pow_succ, Int.pow_succ], rfl⟩
      · simp only [Pu.end_ret, Pu.end_next, Pu.end_stuck, Pu.end_throw, Pu.v_slot0, Pu.v_slotS, Pu.v_peekV, Pu.v_peekO, Pu.v_peekS, Pu.v_non, Pu.v_bl, Pu.v_int, Pu.v_str, Pu.v_const, Pu.v_fn, Pu.v_tup, Pu.v_lst, Pu.v_neg, Pu.v_nott, Pu.t_nott, Pu.v_bin, Pu.v_cmp, Pu.t_cmp', Pu.v_andd, Pu.t_andd, Pu.v_orr, Pu.t_orr, Pu.v_ite, Pu.v_call, Pu.v_callv0, Pu.v_prim, Pu.v_isi, Pu.v_idx, Pu.v_slc, Pu.v_comp, Pu.o_non, Pu.o_som, Pu.c_non, Pu.c_som, Pu.e_nil, Pu.e_cons, Pu.av_one, Pu.av_cons, Pu.ov_one, Pu.ov_cons, Pu.at_nil, Pu.at_cons, Pu.ot_nil, Pu.ot_cons, Pu.i_seq', Pu.i_rng1, Pu.i_rng2, Pu.i_zip', Pu.i_enum', Pu.t_slot, Pu.t_peek, Pu.t_bl, Pu.t_call, Pu.t_callv, Pu.t_prim, Pu.t_isi, Pu.t_idx, Pu.b_addI, Pu.b_addT, Pu.b_addL, Pu.b_subI, Pu.b_mulI, Pu.b_divI, Pu.b_modI, Pu.c_lt, Pu.c_le, Pu.c_gt, Pu.c_ge, Pu.c_eqI, Pu.c_neI, Pu.c_eqB, Pu.c_neB, Pu.c_isN, Pu.c_notN, Pu.d_bl, Pu.d_int, Pu.u_bl, Pu.u_int, Pu.u_non, Pu.u_tup, Pu.u_lst, Pu.x_tup, Pu.x_lst, Pu.at0, Pu.at1, Pu.at2, Pu.s_some, Pu.s_none, Pu.p_len, Pu.p_lenL, Pu.p_abs, Pu.p_int, Pu.p_all, Pu.p_any, Pu.p_tupL, Pu.p_tupT, Pu.p_lstL, Pu.p_lstT, Pu.q_tup, Pu.q_lst, Pu.q_scr, Pu.s_nil, Pu.s_wipe, Pu.s_freeze, Pu.s_ret, Pu.s_raise, Pu.s_pass, Pu.s_brk, Pu.s_cont, Pu.s_set, Pu.s_setOwn, Pu.own_lst, Pu.s_par, Pu.a_next, Pu.a_ret, Pu.a_brk, Pu.a_cont, Pu.s_iff, Pu.s_for, Pu.s_while, Pu.s_expr, Pu.s_try, Pu.s_aug, Pu.aug_some, Pu.aug_int, Pu.s_app, Pu.app_own, Pu.p_name, Pu.p_tup, Pu.ps_nil, Pu.ps_cons, Pu.v_tp, Pu.tp_val, Pu.tp_cell, Pu.s_tput, Pu.tput_val, Pu.s_tpop, Pu.tpop_val, Pu.s_tnew, Pu.tnew_lst, Pu.z_pure, Pu.z_seed, Pu.z_head, Pu.z_len, Pu.z_pseed, Pu.z_phead, Pu.z_pop, Pu.M.pure_bind, Pu.M.bind_assoc, Pu.M.bind_pure, Pu.M.stuck_bind, Pu.M.throw_bind, Pu.end_bind, Pu.end_ite, Pu.m_ite, Pu.noExc_pure, List.set_cons_zero, List.set_cons_succ, List.getElem?_cons_zero, List.getElem?_cons_succ, List.length_cons, List.length_nil, List.map_cons, List.map_nil, List.cons_append, List.nil_append, Pu.freezeE, Pu.wipeE, Pu.setsE, if_true, if_false, Bool.false_eq_true, reduceIte, Nat.reduceAdd, Nat.reduceSub, Nat.reduceEqDiff, decide_true, decide_false, Bool.not_true, Bool.not_false, Bool.true_and, Bool.and_true, Bool.false_and, Bool.and_false, Bool.true_or, Bool.or_true, Bool.false_or, Bool.or_false, q, Gk_call, e2.1, e2.2, en, ed, gd_pos hm1, gd_pos hm2]
        exact ⟨j + 1, by omega, by rw [show (6 : Nat) - (j + 1) = m by omega]; rfl, by rw [Int.pow_succ, Int.pow_succ], rfl⟩
  · rintro σ t' ⟨j, hl, hxs, rfl, rfl⟩
    simp only [Pu.end_ret, Pu.end_next, Pu.end_stuck, Pu.end_throw, Pu.v_slot0, Pu.v_slotS, Pu.v_peekV, Pu.v_peekO, Pu.v_peekS, Pu.v_non, Pu.v_bl, Pu.v_int, Pu.v_str, Pu.v_const, Pu.v_fn, Pu.v_tup, Pu.v_lst, Pu.v_neg, Pu.v_nott, Pu.t_nott, Pu.v_bin, Pu.v_cmp, Pu.t_cmp', Pu.v_andd, Pu.t_andd, Pu.v_orr, Pu.t_orr, Pu.v_ite, Pu.v_call, Pu.v_callv0, Pu.v_prim, Pu.v_isi, Pu.v_idx, Pu.v_slc, Pu.v_comp, Pu.o_non, Pu.o_som, Pu.c_non, Pu.c_som, Pu.e_nil, Pu.e_cons, Pu.av_one, Pu.av_cons, Pu.ov_one, Pu.ov_cons, Pu.at_nil, Pu.at_cons, Pu.ot_nil, Pu.ot_cons, Pu.i_seq', Pu.i_rng1, Pu.i_rng2, Pu.i_zip', Pu.i_enum', Pu.t_slot, Pu.t_peek, Pu.t_bl, Pu.t_call, Pu.t_callv, Pu.t_prim, Pu.t_isi, Pu.t_idx, Pu.b_addI, Pu.b_addT, Pu.b_addL, Pu.b_subI, Pu.b_mulI, Pu.b_divI, Pu.b_modI, Pu.c_lt, Pu.c_le, Pu.c_gt, Pu.c_ge, Pu.c_eqI, Pu.c_neI, Pu.c_eqB, Pu.c_neB, Pu.c_isN, Pu.c_notN, Pu.d_bl, Pu.d_int, Pu.u_bl, Pu.u_int, Pu.u_non, Pu.u_tup, Pu.u_lst, Pu.x_tup, Pu.x_lst, Pu.at0, Pu.at1, Pu.at2, Pu.s_some, Pu.s_none, Pu.p_len, Pu.p_lenL, Pu.p_abs, Pu.p_int, Pu.p_all, Pu.p_any, Pu.p_tupL, Pu.p_tupT, Pu.p_lstL, Pu.p_lstT, Pu.q_tup, Pu.q_lst, Pu.q_scr, Pu.s_nil, Pu.s_wipe, Pu.s_freeze, Pu.s_ret, Pu.s_raise, Pu.s_pass, Pu.s_brk, Pu.s_cont, Pu.s_set, Pu.s_setOwn, Pu.own_lst, Pu.s_par, Pu.a_next, Pu.a_ret, Pu.a_brk, Pu.a_cont, Pu.s_iff, Pu.s_for, Pu.s_while, Pu.s_expr, Pu.s_try, Pu.s_aug, Pu.aug_some, Pu.aug_int, Pu.s_app, Pu.app_own, Pu.p_name, Pu.p_tup, Pu.ps_nil, Pu.ps_cons, Pu.v_tp, Pu.tp_val, Pu.tp_cell, Pu.s_tput, Pu.tput_val, Pu.s_tpop, Pu.tpop_val, Pu.s_tnew, Pu.tnew_lst, Pu.z_pure, Pu.z_seed, Pu.z_head, Pu.z_len, Pu.z_pseed, Pu.z_phead, Pu.z_pop, Pu.M.pure_bind, Pu.M.bind_assoc, Pu.M.bind_pure, Pu.M.stuck_bind, Pu.M.throw_bind, Pu.end_bind, Pu.end_ite, Pu.m_ite, Pu.noExc_pure, List.set_cons_zero, List.set_cons_succ, List.getElem?_cons_zero, List.getElem?_cons_succ, List.length_cons, List.length_nil, List.map_cons, List.map_nil, List.cons_append, List.nil_append, Pu.freezeE, Pu.wipeE, Pu.setsE, if_true, if_false, Bool.false_eq_true, reduceIte, Nat.reduceAdd, Nat.reduceSub, Nat.reduceEqDiff, decide_true, decide_false, Bool.not_true, Bool.not_false, Bool.true_and, Bool.and_true, Bool.false_and, Bool.and_false, Bool.true_or, Bool.or_true, Bool.false_or, Bool.or_false]
    exact ⟨rfl, rfl⟩
end K00

namespace K00
open PySem PySem.Spec PyProof.Rows L2 Pu
theorem total_loop (k : Nat) {w : Option SV} : ∀ (xs : List Rat) (acc : Rat) (n : Nat), BR n acc → (∀ x ∈ xs, BR 100 x) → n + 101 * xs.length ≤ 4500 →
    Pu.forM (.name 2) (exSs (Gk (k + 3)) sb (.cons (.set (.name 1) (.call "add" (.cons (.slot 1) (.cons (.slot 2) .nil)))) (.wipe [2] .nil))) (xs.map qD) [w, some (.val (qD acc)), none] = pure (.next [w, some (.val (qD (xs.foldl (· + ·) acc))), none])
  | [], acc, n, _, _, _ => rfl
  | x :: xs, acc, n, ha, hx, hn => by
    rw [List.length_cons] at hn
    rw [List.map_cons, forM_cons]
    have h1 := hx x List.mem_cons_self
    simp only [Pu.end_ret, Pu.end_next, Pu.end_stuck, Pu.end_throw, Pu.v_slot0, Pu.v_slotS, Pu.v_peekV, Pu.v_peekO, Pu.v_peekS, Pu.v_non, Pu.v_bl, Pu.v_int, Pu.v_str, Pu.v_const, Pu.v_fn, Pu.v_tup, Pu.v_lst, Pu.v_neg, Pu.v_nott, Pu.t_nott, Pu.v_bin, Pu.v_cmp, Pu.t_cmp', Pu.v_andd, Pu.t_andd, Pu.v_orr, Pu.t_orr, Pu.v_ite, Pu.v_call, Pu.v_callv0, Pu.v_prim, Pu.v_isi, Pu.v_idx, Pu.v_slc, Pu.v_comp, Pu.o_non, Pu.o_som, Pu.c_non, Pu.c_som, Pu.e_nil, Pu.e_cons, Pu.av_one, Pu.av_cons, Pu.ov_one, Pu.ov_cons, Pu.at_nil, Pu.at_cons, Pu.ot_nil, Pu.ot_cons, Pu.i_seq', Pu.i_rng1, Pu.i_rng2, Pu.i_zip', Pu.i_enum', Pu.t_slot, Pu.t_peek, Pu.t_bl, Pu.t_call, Pu.t_callv, Pu.t_prim, Pu.t_isi, Pu.t_idx, Pu.b_addI, Pu.b_addT, Pu.b_addL, Pu.b_subI, Pu.b_mulI, Pu.b_divI, Pu.b_modI, Pu.c_lt, Pu.c_le, Pu.c_gt, Pu.c_ge, Pu.c_eqI, Pu.c_neI, Pu.c_eqB, Pu.c_neB, Pu.c_isN, Pu.c_notN, Pu.d_bl, Pu.d_int, Pu.u_bl, Pu.u_int, Pu.u_non, Pu.u_tup, Pu.u_lst, Pu.x_tup, Pu.x_lst, Pu.at0, Pu.at1, Pu.at2, Pu.s_some, Pu.s_none, Pu.p_len, Pu.p_lenL, Pu.p_abs, Pu.p_int, Pu.p_all, Pu.p_any, Pu.p_tupL, Pu.p_tupT, Pu.p_lstL, Pu.p_lstT, Pu.q_tup, Pu.q_lst, Pu.q_scr, Pu.s_nil, Pu.s_wipe, Pu.s_freeze, Pu.s_ret, Pu.s_raise, Pu.s_pass, Pu.s_brk, Pu.s_cont, Pu.s_set, Pu.s_setOwn, Pu.own_lst, Pu.s_par, Pu.a_next, Pu.a_ret, Pu.a_brk, Pu.a_cont, Pu.s_iff, Pu.s_for, Pu.s_while, Pu.s_expr, Pu.s_try, Pu.s_aug, Pu.aug_some, Pu.aug_int, Pu.s_app, Pu.app_own, Pu.p_name, Pu.p_tup, Pu.ps_nil, Pu.ps_cons, Pu.v_tp, Pu.tp_val, Pu.tp_cell, Pu.s_tput, Pu.tput_val, Pu.s_tpop, Pu.tpop_val, Pu.s_tnew, Pu.tnew_lst, Pu.z_pure, Pu.z_seed, Pu.z_head, Pu.z_len, Pu.z_pseed, Pu.z_phead, Pu.z_pop, Pu.M.pure_bind, Pu.M.bind_assoc, Pu.M.bind_pure, Pu.M.stuck_bind, Pu.M.throw_bind, Pu.end_bind, Pu.end_ite, Pu.m_ite, Pu.noExc_pure, List.set_cons_zero, List.set_cons_succ, List.getElem?_cons_zero, List.getElem?_cons_succ, List.length_cons, List.length_nil, List.map_cons, List.map_nil, List.cons_append, List.nil_append, Pu.freezeE, Pu.wipeE, Pu.setsE, if_true, if_false, Bool.false_eq_true, reduceIte, Nat.reduceAdd, Nat.reduceSub, Nat.reduceEqDiff, decide_true, decide_false, Bool.not_true, Bool.not_false, Bool.true_and, Bool.and_true, Bool.false_and, Bool.and_false, Bool.true_or, Bool.or_true, Bool.false_or, Bool.or_false, Gk_call, add_ok k (ha.mono (by omega)) (h1.mono (by decide))]
    exact total_loop k xs (acc + x) (n + 100 + 1) (ha.add' h1) (fun y hy => hx y (List.mem_cons_of_mem _ hy)) (by omega)
theorem total_ok (k : Nat) {xs : List Rat} (hx : ∀ x ∈ xs, BR 100 x) (hn : xs.length ≤ 40) : callF T (k + 4) "total" [.lst (xs.map qD)] = pure (qD (xs.foldl (· + ·) 0)) := by
  rw [c_total, run_df _ ⟨rfl, by decide⟩]
  simp only [df_total, Gk_call, Gk_const, List.replicate, Pu.end_ret, Pu.end_next, Pu.end_stuck, Pu.end_throw, Pu.v_slot0, Pu.v_slotS, Pu.v_peekV, Pu.v_peekO, Pu.v_peekS, Pu.v_non, Pu.v_bl, Pu.v_int, Pu.v_str, Pu.v_const, Pu.v_fn, Pu.v_tup, Pu.v_lst, Pu.v_neg, Pu.v_nott, Pu.t_nott, Pu.v_bin, Pu.v_cmp, Pu.t_cmp', Pu.v_andd, Pu.t_andd, Pu.v_orr, Pu.t_orr, Pu.v_ite, Pu.v_call, Pu.v_callv0, Pu.v_prim, Pu.v_isi, Pu.v_idx, Pu.v_slc, Pu.v_comp, Pu.o_non, Pu.o_som, Pu.c_non, Pu.c_som, Pu.e_nil, Pu.e_cons, Pu.av_one, Pu.av_cons, Pu.ov_one, Pu.ov_cons, Pu.at_nil, Pu.at_cons, Pu.ot_nil, Pu.ot_cons, Pu.i_seq', Pu.i_rng1, Pu.i_rng2, Pu.i_zip', Pu.i_enum', Pu.t_slot, Pu.t_peek, Pu.t_bl, Pu.t_call, Pu.t_callv, Pu.t_prim, Pu.t_isi, Pu.t_idx, Pu.b_addI, Pu.b_addT, Pu.b_addL, Pu.b_subI, Pu.b_mulI, Pu.b_divI, Pu.b_modI, Pu.c_lt, Pu.c_le, Pu.c_gt, Pu.c_ge, Pu.c_eqI, Pu.c_neI, Pu.c_eqB, Pu.c_neB, Pu.c_isN, Pu.c_notN, Pu.d_bl, Pu.d_int, Pu.u_bl, Pu.u_int, Pu.u_non, Pu.u_tup, Pu.u_lst, Pu.x_tup, Pu.x_lst, Pu.at0, Pu.at1, Pu.at2, Pu.s_some, Pu.s_none, Pu.p_len, Pu.p_lenL, Pu.p_abs, Pu.p_int, Pu.p_all, Pu.p_any, Pu.p_tupL, Pu.p_tupT, Pu.p_lstL, Pu.p_lstT, Pu.q_tup, Pu.q_lst, Pu.q_scr, Pu.s_nil, Pu.s_wipe, Pu.s_freeze, Pu.s_ret, Pu.s_raise, Pu.s_pass, Pu.s_brk, Pu.s_cont, Pu.s_set, Pu.s_setOwn, Pu.own_lst, Pu.s_par, Pu.a_next, Pu.a_ret, Pu.a_brk, Pu.a_cont, Pu.s_iff, Pu.s_for, Pu.s_while, Pu.s_expr, Pu.s_try, Pu.s_aug, Pu.aug_some, Pu.aug_int, Pu.s_app, Pu.app_own, Pu.p_name, Pu.p_tup, Pu.ps_nil, Pu.ps_cons, Pu.v_tp, Pu.tp_val, Pu.tp_cell, Pu.s_tput, Pu.tput_val, Pu.s_tpop, Pu.tpop_val, Pu.s_tnew, Pu.tnew_lst, Pu.z_pure, Pu.z_seed, Pu.z_head, Pu.z_len, Pu.z_pseed, Pu.z_phead, Pu.z_pop, Pu.M.pure_bind, Pu.M.bind_assoc, Pu.M.bind_pure, Pu.M.stuck_bind, Pu.M.throw_bind, Pu.end_bind, Pu.end_ite, Pu.m_ite, Pu.noExc_pure, List.set_cons_zero, List.set_cons_succ, List.getElem?_cons_zero, List.getElem?_cons_succ, List.length_cons, List.length_nil, List.map_cons, List.map_nil, List.cons_append, List.nil_append, Pu.freezeE, Pu.wipeE, Pu.setsE, if_true, if_false, Bool.false_eq_true, reduceIte, Nat.reduceAdd, Nat.reduceSub, Nat.reduceEqDiff, decide_true, decide_false, Bool.not_true, Bool.not_false, Bool.true_and, Bool.and_true, Bool.false_and, Bool.and_false, Bool.true_or, Bool.or_true, Bool.false_or, Bool.or_false, k_ZERO, qD_zero, total_loop k xs 0 1 BR.zero hx (by omega)]
def dotR (acc : Rat) : List Rat → List Rat → Rat
  | x :: xs, y :: ys => dotR (acc + x * y) xs ys
  | _, _ => acc
theorem dot_loop (k : Nat) {w w' : Option SV} : ∀ (xs ys : List Rat) (acc : Rat) (n : Nat), BR n acc → (∀ x ∈ xs, BR 100 x) → (∀ x ∈ ys, BR 100 x) → n + 201 * xs.length ≤ 4500 →
    Pu.forM (.tup [(.name 3), (.name 4)]) (exSs (Gk (k + 3)) sb (.cons (.set (.name 2) (.call "add" (.cons (.slot 2) (.cons (.call "multiply" (.cons (.slot 3) (.cons (.slot 4) .nil))) .nil)))) (.wipe [3, 4] .nil))) (zipL (xs.map qD) (ys.map qD)) [w, w', some (.val (qD acc)), none, none] = pure (.next [w, w', some (.val (qD (dotR acc xs ys))), none, none])
  | [], ys, acc, n, _, _, _, _ => by cases ys <;> rfl
  | x :: xs, [], acc, n, _, _, _, _ => rfl
  | x :: xs, y :: ys, acc, n, ha, hx, hy, hn => by
    rw [List.length_cons] at hn
    rw [List.map_cons, List.map_cons]
    unfold zipL
    rw [forM_cons]
    have h1 := hx x List.mem_cons_self
    have h2 := hy y List.mem_cons_self
    have h3 := h1.mul h2
    simp only [Pu.end_ret, Pu.end_next, Pu.end_stuck, Pu.end_throw, Pu.v_slot0, Pu.v_slotS, Pu.v_peekV, Pu.v_peekO, Pu.v_peekS, Pu.v_non, Pu.v_bl, Pu.v_int, Pu.v_str, Pu.v_const, Pu.v_fn, Pu.v_tup, Pu.v_lst, Pu.v_neg, Pu.v_nott, Pu.t_nott, Pu.v_bin, Pu.v_cmp, Pu.t_cmp', Pu.v_andd, Pu.t_andd, Pu.v_orr, Pu.t_orr, Pu.v_ite, Pu.v_call, Pu.v_callv0, Pu.v_prim, Pu.v_isi, Pu.v_idx, Pu.v_slc, Pu.v_comp, Pu.o_non, Pu.o_som, Pu.c_non, Pu.c_som, Pu.e_nil, Pu.e_cons, Pu.av_one, Pu.av_cons, Pu.ov_one, Pu.ov_cons, Pu.at_nil, Pu.at_cons, Pu.ot_nil, Pu.ot_cons, Pu.i_seq', Pu.i_rng1, Pu.i_rng2, Pu.i_zip', Pu.i_enum', Pu.t_slot, Pu.t_peek, Pu.t_bl, Pu.t_call, Pu.t_callv, Pu.t_prim, Pu.t_isi, Pu.t_idx, Pu.b_addI, Pu.b_addT, Pu.b_addL, Pu.b_subI, Pu.b_mulI, Pu.b_divI, Pu.b_modI, Pu.c_lt, Pu.c_le, Pu.c_gt, Pu.c_ge, Pu.c_eqI, Pu.c_neI, Pu.c_eqB, Pu.c_neB, Pu.c_isN, Pu.c_notN, Pu.d_bl, Pu.d_int, Pu.u_bl, Pu.u_int, Pu.u_non, Pu.u_tup, Pu.u_lst, Pu.x_tup, Pu.x_lst, Pu.at0, Pu.at1, Pu.at2, Pu.s_some, Pu.s_none, Pu.p_len, Pu.p_lenL, Pu.p_abs, Pu.p_int, Pu.p_all, Pu.p_any, Pu.p_tupL, Pu.p_tupT, Pu.p_lstL, Pu.p_lstT, Pu.q_tup, Pu.q_lst, Pu.q_scr, Pu.s_nil, Pu.s_wipe, Pu.s_freeze, Pu.s_ret, Pu.s_raise, Pu.s_pass, Pu.s_brk, Pu.s_cont, Pu.s_set, Pu.s_setOwn, Pu.own_lst, Pu.s_par, Pu.a_next, Pu.a_ret, Pu.a_brk, Pu.a_cont, Pu.s_iff, Pu.s_for, Pu.s_while, Pu.s_expr, Pu.s_try, Pu.s_aug, Pu.aug_some, Pu.aug_int, Pu.s_app, Pu.app_own, Pu.p_name, Pu.p_tup, Pu.ps_nil, Pu.ps_cons, Pu.v_tp, Pu.tp_val, Pu.tp_cell, Pu.s_tput, Pu.tput_val, Pu.s_tpop, Pu.tpop_val, Pu.s_tnew, Pu.tnew_lst, Pu.z_pure, Pu.z_seed, Pu.z_head, Pu.z_len, Pu.z_pseed, Pu.z_phead, Pu.z_pop, Pu.M.pure_bind, Pu.M.bind_assoc, Pu.M.bind_pure, Pu.M.stuck_bind, Pu.M.throw_bind, Pu.end_bind, Pu.end_ite, Pu.m_ite, Pu.noExc_pure, List.set_cons_zero, List.set_cons_succ, List.getElem?_cons_zero, List.getElem?_cons_succ, List.length_cons, List.length_nil, List.map_cons, List.map_nil, List.cons_append, List.nil_append, Pu.freezeE, Pu.wipeE, Pu.setsE, if_true, if_false, Bool.false_eq_true, reduceIte, Nat.reduceAdd, Nat.reduceSub, Nat.reduceEqDiff, decide_true, decide_false, Bool.not_true, Bool.not_false, Bool.true_and, Bool.and_true, Bool.false_and, Bool.and_false, Bool.true_or, Bool.or_true, Bool.false_or, Bool.or_false, Gk_call, multiply_ok k (h1.mono (by decide)) (h2.mono (by decide)), add_ok k (ha.mono (by omega)) (h3.mono (by decide))]
    exact dot_loop k xs ys (acc + x * y) (n + 200 + 1) (ha.add' h3) (fun z hz => hx z (List.mem_cons_of_mem _ hz)) (fun z hz => hy z (List.mem_cons_of_mem _ hz)) (by omega)
theorem dot_ok (k : Nat) {xs ys : List Rat} (hx : ∀ x ∈ xs, BR 100 x) (hy : ∀ x ∈ ys, BR 100 x) (hn : xs.length ≤ 20) : callF T (k + 4) "dot" [.lst (xs.map qD), .lst (ys.map qD)] = pure (qD (dotR 0 xs ys)) := by
  rw [c_dot, run_df _ ⟨rfl, by decide⟩]
  simp only [df_dot, Gk_call, Gk_const, List.replicate, Pu.end_ret, Pu.end_next, Pu.end_stuck, Pu.end_throw, Pu.v_slot0, Pu.v_slotS, Pu.v_peekV, Pu.v_peekO, Pu.v_peekS, Pu.v_non, Pu.v_bl, Pu.v_int, Pu.v_str, Pu.v_const, Pu.v_fn, Pu.v_tup, Pu.v_lst, Pu.v_neg, Pu.v_nott, Pu.t_nott, Pu.v_bin, Pu.v_cmp, Pu.t_cmp', Pu.v_andd, Pu.t_andd, Pu.v_orr, Pu.t_orr, Pu.v_ite, Pu.v_call, Pu.v_callv0, Pu.v_prim, Pu.v_isi, Pu.v_idx, Pu.v_slc, Pu.v_comp, Pu.o_non, Pu.o_som, Pu.c_non, Pu.c_som, Pu.e_nil, Pu.e_cons, Pu.av_one, Pu.av_cons, Pu.ov_one, Pu.ov_cons, Pu.at_nil, Pu.at_cons, Pu.ot_nil, Pu.ot_cons, Pu.i_seq', Pu.i_rng1, Pu.i_rng2, Pu.i_zip', Pu.i_enum', Pu.t_slot, Pu.t_peek, Pu.t_bl, Pu.t_call, Pu.t_callv, Pu.t_prim, Pu.t_isi, Pu.t_idx, Pu.b_addI, Pu.b_addT, Pu.b_addL, Pu.b_subI, Pu.b_mulI, Pu.b_divI, Pu.b_modI, Pu.c_lt, Pu.c_le, Pu.c_gt, Pu.c_ge, Pu.c_eqI, Pu.c_neI, Pu.c_eqB, Pu.c_neB, Pu.c_isN, Pu.c_notN, Pu.d_bl, Pu.d_int, Pu.u_bl, Pu.u_int, Pu.u_non, Pu.u_tup, Pu.u_lst, Pu.x_tup, Pu.x_lst, Pu.at0, Pu.at1, Pu.at2, Pu.s_some, Pu.s_none, Pu.p_len, Pu.p_lenL, Pu.p_abs, Pu.p_int, Pu.p_all, Pu.p_any, Pu.p_tupL, Pu.p_tupT, Pu.p_lstL, Pu.p_lstT, Pu.q_tup, Pu.q_lst, Pu.q_scr, Pu.s_nil, Pu.s_wipe, Pu.s_freeze, Pu.s_ret, Pu.s_raise, Pu.s_pass, Pu.s_brk, Pu.s_cont, Pu.s_set, Pu.s_setOwn, Pu.own_lst, Pu.s_par, Pu.a_next, Pu.a_ret, Pu.a_brk, Pu.a_cont, Pu.s_iff, Pu.s_for, Pu.s_while, Pu.s_expr, Pu.s_try, Pu.s_aug, Pu.aug_some, Pu.aug_int, Pu.s_app, Pu.app_own, Pu.p_name, Pu.p_tup, Pu.ps_nil, Pu.ps_cons, Pu.v_tp, Pu.tp_val, Pu.tp_cell, Pu.s_tput, Pu.tput_val, Pu.s_tpop, Pu.tpop_val, Pu.s_tnew, Pu.tnew_lst, Pu.z_pure, Pu.z_seed, Pu.z_head, Pu.z_len, Pu.z_pseed, Pu.z_phead, Pu.z_pop, Pu.M.pure_bind, Pu.M.bind_assoc, Pu.M.bind_pure, Pu.M.stuck_bind, Pu.M.throw_bind, Pu.end_bind, Pu.end_ite, Pu.m_ite, Pu.noExc_pure, List.set_cons_zero, List.set_cons_succ, List.getElem?_cons_zero, List.getElem?_cons_succ, List.length_cons, List.length_nil, List.map_cons, List.map_nil, List.cons_append, List.nil_append, Pu.freezeE, Pu.wipeE, Pu.setsE, if_true, if_false, Bool.false_eq_true, reduceIte, Nat.reduceAdd, Nat.reduceSub, Nat.reduceEqDiff, decide_true, decide_false, Bool.not_true, Bool.not_false, Bool.true_and, Bool.and_true, Bool.false_and, Bool.and_false, Bool.true_or, Bool.or_true, Bool.false_or, Bool.or_false, k_ZERO, qD_zero, zipD, dot_loop k xs ys 0 1 BR.zero hx hy (by omega)]
/-! ### what is told of odd things, and of the constants -/
theorem odd_ok : callF T 10 "_law_odd" [] none = .ok (.bl true) none := by kernel_rfl
end K00

namespace K00
open PySem PySem.Spec PyProof.Rows L2 Pu
def prD (p : Int × Int) : D := .tup [.int p.1, .int p.2]
def PrOk (p : Int × Int) : Prop := Bd 100 p.1 ∧ Bd 100 p.2 ∧ p.2 ≠ 0
def turnB : Ss := .cons (.set (.name 11) (.idx (.slot 4) (.bin .sub (.slot 8) (.int 1)))) b_law_8
theorem ofInt_eq (a : Int) : ((a : Rat)) = Rat.divInt a 1 := by
  have h := rat_eq (a : Rat)
  exact h.symm
theorem ofInt_D (a : Int) : D.tup [.int a, .int 1] = qD (a : Rat) := rfl
theorem BR.ofInt {n : Nat} {a : Int} (h : Bd (n + 1) a) : BR (n + 1) (a : Rat) := ⟨h, by show (1 : Nat) < 2 ^ (n + 1); exact Nat.one_lt_two_pow (by omega)⟩
theorem bind_q {i j : Nat} {r : Rat} {σ : Pu.Env} : bindP (.tup [.name i, .name j]) (qD r) σ = pure ((σ.set i (some (.val (.int r.num)))).set j (some (.val (.int r.den)))) := rfl
def stA (s0 s1 s2 : Option SV) (ks : D) (S Bt Bl i : Int) (x y rows : D) (a b c d : Int) : Pu.Env := [s0, s1, s2, none, some (.val ks), some (.val (.int S)), some (.val (.int Bt)), some (.val (.int Bl)), some (.val (.int i)), some (.val x), none, some (.val y), some (.val (.int a)), some (.val (.int b)), some (.val (.int c)), some (.val (.int d)), some (.val rows), none, none]
def rowD (r : Rat) (a b : Int) : D := .tup [qD r, .int a, .int b]
section
variable {s0 s1 s2 : Option SV} {ks : D} {S Bt Bl i : Int} {x y : Rat}
theorem turn_a (hx : BR 100 x) (hy : BR 100 y) (hidx : idxD ks (.int (i - 1)) = pure (qD y)) :
    exSs (Gk 39) sb turnB [s0, s1, s2, none, some (.val ks), some (.val (.int S)), some (.val (.int Bt)), some (.val (.int Bl)), some (.val (.int i)), some (.val (qD x)), none, none, none, none, none, none, none, none, none] =
      exSs (Gk 39) sb b_law_5 (stA s0 s1 s2 ks S Bt Bl i (qD x) (qD y) (.lst [rowD (x + y) (x.num * y.den + y.num * x.den) (x.den * y.den), rowD (x - y) (x.num * y.den - y.num * x.den) (x.den * y.den),
        rowD (x * y) (x.num * y.num) (x.den * y.den), rowD (-x) (-x.num) x.den, rowD (x.num : Rat) x.num 1]) x.num x.den y.num y.den) := by
  have hx' : BR 4500 x := hx.mono (by decide)
  have hy' : BR 4500 y := hy.mono (by decide)
  have m1 : mulOk x.num y.den := mok hx.1 hy.2
  have m2 : mulOk y.num x.den := mok hy.1 hx.2
  have m3 : mulOk x.den y.den := mok hx.2 hy.2
  have m4 : mulOk x.num y.num := mok hx.1 hy.1
  unfold turnB
  simp only [Pu.end_ret, Pu.end_next, Pu.end_stuck, Pu.end_throw, Pu.v_slot0, Pu.v_slotS, Pu.v_peekV, Pu.v_peekO, Pu.v_peekS, Pu.v_non, Pu.v_bl, Pu.v_int, Pu.v_str, Pu.v_const, Pu.v_fn, Pu.v_tup, Pu.v_lst, Pu.v_neg, Pu.v_nott, Pu.t_nott, Pu.v_bin, Pu.v_cmp, Pu.t_cmp', Pu.v_andd, Pu.t_andd, Pu.v_orr, Pu.t_orr, Pu.v_ite, Pu.v_call, Pu.v_callv0, Pu.v_prim, Pu.v_isi, Pu.v_idx, Pu.v_slc, Pu.v_comp, Pu.o_non, Pu.o_som, Pu.c_non, Pu.c_som, Pu.e_nil, Pu.e_cons, Pu.av_one, Pu.av_cons, Pu.ov_one, Pu.ov_cons, Pu.at_nil, Pu.at_cons, Pu.ot_nil, Pu.ot_cons, Pu.i_seq', Pu.i_rng1, Pu.i_rng2, Pu.i_zip', Pu.i_enum', Pu.t_slot, Pu.t_peek, Pu.t_bl, Pu.t_call, Pu.t_callv, Pu.t_prim, Pu.t_isi, Pu.t_idx, Pu.b_addI, Pu.b_addT, Pu.b_addL, Pu.b_subI, Pu.b_mulI, Pu.b_divI, Pu.b_modI, Pu.c_lt, Pu.c_le, Pu.c_gt, Pu.c_ge, Pu.c_eqI, Pu.c_neI, Pu.c_eqB, Pu.c_neB, Pu.c_isN, Pu.c_notN, Pu.d_bl, Pu.d_int, Pu.u_bl, Pu.u_int, Pu.u_non, Pu.u_tup, Pu.u_lst, Pu.x_tup, Pu.x_lst, Pu.at0, Pu.at1, Pu.at2, Pu.s_some, Pu.s_none, Pu.p_len, Pu.p_lenL, Pu.p_abs, Pu.p_int, Pu.p_all, Pu.p_any, Pu.p_tupL, Pu.p_tupT, Pu.p_lstL, Pu.p_lstT, Pu.q_tup, Pu.q_lst, Pu.q_scr, Pu.s_nil, Pu.s_wipe, Pu.s_freeze, Pu.s_ret, Pu.s_raise, Pu.s_pass, Pu.s_brk, Pu.s_cont, Pu.s_set, Pu.s_setOwn, Pu.own_lst, Pu.s_par, Pu.a_next, Pu.a_ret, Pu.a_brk, Pu.a_cont, Pu.s_iff, Pu.s_for, Pu.s_while, Pu.s_expr, Pu.s_try, Pu.s_aug, Pu.aug_some, Pu.aug_int, Pu.s_app, Pu.app_own, Pu.p_name, Pu.p_tup, Pu.ps_nil, Pu.ps_cons, Pu.v_tp, Pu.tp_val, Pu.tp_cell, Pu.s_tput, Pu.tput_val, Pu.s_tpop, Pu.tpop_val, Pu.s_tnew, Pu.tnew_lst, Pu.z_pure, Pu.z_seed, Pu.z_head, Pu.z_len, Pu.z_pseed, Pu.z_phead, Pu.z_pop, Pu.M.pure_bind, Pu.M.bind_assoc, Pu.M.bind_pure, Pu.M.stuck_bind, Pu.M.throw_bind, Pu.end_bind, Pu.end_ite, Pu.m_ite, Pu.noExc_pure, List.set_cons_zero, List.set_cons_succ, List.getElem?_cons_zero, List.getElem?_cons_succ, List.length_cons, List.length_nil, List.map_cons, List.map_nil, List.cons_append, List.nil_append, Pu.freezeE, Pu.wipeE, Pu.setsE, if_true, if_false, Bool.false_eq_true, reduceIte, Nat.reduceAdd, Nat.reduceSub, Nat.reduceEqDiff, decide_true, decide_false, Bool.not_true, Bool.not_false, Bool.true_and, Bool.and_true, Bool.false_and, Bool.and_false, Bool.true_or, Bool.or_true, Bool.false_or, Bool.or_false, hidx, gd_pos le2]
  unfold b_law_8
  simp only [Pu.end_ret, Pu.end_next, Pu.end_stuck, Pu.end_throw, Pu.v_slot0, Pu.v_slotS, Pu.v_peekV, Pu.v_peekO, Pu.v_peekS, Pu.v_non, Pu.v_bl, Pu.v_int, Pu.v_str, Pu.v_const, Pu.v_fn, Pu.v_tup, Pu.v_lst, Pu.v_neg, Pu.v_nott, Pu.t_nott, Pu.v_bin, Pu.v_cmp, Pu.t_cmp', Pu.v_andd, Pu.t_andd, Pu.v_orr, Pu.t_orr, Pu.v_ite, Pu.v_call, Pu.v_callv0, Pu.v_prim, Pu.v_isi, Pu.v_idx, Pu.v_slc, Pu.v_comp, Pu.o_non, Pu.o_som, Pu.c_non, Pu.c_som, Pu.e_nil, Pu.e_cons, Pu.av_one, Pu.av_cons, Pu.ov_one, Pu.ov_cons, Pu.at_nil, Pu.at_cons, Pu.ot_nil, Pu.ot_cons, Pu.i_seq', Pu.i_rng1, Pu.i_rng2, Pu.i_zip', Pu.i_enum', Pu.t_slot, Pu.t_peek, Pu.t_bl, Pu.t_call, Pu.t_callv, Pu.t_prim, Pu.t_isi, Pu.t_idx, Pu.b_addI, Pu.b_addT, Pu.b_addL, Pu.b_subI, Pu.b_mulI, Pu.b_divI, Pu.b_modI, Pu.c_lt, Pu.c_le, Pu.c_gt, Pu.c_ge, Pu.c_eqI, Pu.c_neI, Pu.c_eqB, Pu.c_neB, Pu.c_isN, Pu.c_notN, Pu.d_bl, Pu.d_int, Pu.u_bl, Pu.u_int, Pu.u_non, Pu.u_tup, Pu.u_lst, Pu.x_tup, Pu.x_lst, Pu.at0, Pu.at1, Pu.at2, Pu.s_some, Pu.s_none, Pu.p_len, Pu.p_lenL, Pu.p_abs, Pu.p_int, Pu.p_all, Pu.p_any, Pu.p_tupL, Pu.p_tupT, Pu.p_lstL, Pu.p_lstT, Pu.q_tup, Pu.q_lst, Pu.q_scr, Pu.s_nil, Pu.s_wipe, Pu.s_freeze, Pu.s_ret, Pu.s_raise, Pu.s_pass, Pu.s_brk, Pu.s_cont, Pu.s_set, Pu.s_setOwn, Pu.own_lst, Pu.s_par, Pu.a_next, Pu.a_ret, Pu.a_brk, Pu.a_cont, Pu.s_iff, Pu.s_for, Pu.s_while, Pu.s_expr, Pu.s_try, Pu.s_aug, Pu.aug_some, Pu.aug_int, Pu.s_app, Pu.app_own, Pu.p_name, Pu.p_tup, Pu.ps_nil, Pu.ps_cons, Pu.v_tp, Pu.tp_val, Pu.tp_cell, Pu.s_tput, Pu.tput_val, Pu.s_tpop, Pu.tpop_val, Pu.s_tnew, Pu.tnew_lst, Pu.z_pure, Pu.z_seed, Pu.z_head, Pu.z_len, Pu.z_pseed, Pu.z_phead, Pu.z_pop, Pu.M.pure_bind, Pu.M.bind_assoc, Pu.M.bind_pure, Pu.M.stuck_bind, Pu.M.throw_bind, Pu.end_bind, Pu.end_ite, Pu.m_ite, Pu.noExc_pure, List.set_cons_zero, List.set_cons_succ, List.getElem?_cons_zero, List.getElem?_cons_succ, List.length_cons, List.length_nil, List.map_cons, List.map_nil, List.cons_append, List.nil_append, Pu.freezeE, Pu.wipeE, Pu.setsE, if_true, if_false, Bool.false_eq_true, reduceIte, Nat.reduceAdd, Nat.reduceSub, Nat.reduceEqDiff, decide_true, decide_false, Bool.not_true, Bool.not_false, Bool.true_and, Bool.and_true, Bool.false_and, Bool.and_false, Bool.true_or, Bool.or_true, Bool.false_or, Bool.or_false, bind_q, gd_pos le2]
  unfold b_law_7
  simp only [Pu.end_ret, Pu.end_next, Pu.end_stuck, Pu.end_throw, Pu.v_slot0, Pu.v_slotS, Pu.v_peekV, Pu.v_peekO, Pu.v_peekS, Pu.v_non, Pu.v_bl, Pu.v_int, Pu.v_str, Pu.v_const, Pu.v_fn, Pu.v_tup, Pu.v_lst, Pu.v_neg, Pu.v_nott, Pu.t_nott, Pu.v_bin, Pu.v_cmp, Pu.t_cmp', Pu.v_andd, Pu.t_andd, Pu.v_orr, Pu.t_orr, Pu.v_ite, Pu.v_call, Pu.v_callv0, Pu.v_prim, Pu.v_isi, Pu.v_idx, Pu.v_slc, Pu.v_comp, Pu.o_non, Pu.o_som, Pu.c_non, Pu.c_som, Pu.e_nil, Pu.e_cons, Pu.av_one, Pu.av_cons, Pu.ov_one, Pu.ov_cons, Pu.at_nil, Pu.at_cons, Pu.ot_nil, Pu.ot_cons, Pu.i_seq', Pu.i_rng1, Pu.i_rng2, Pu.i_zip', Pu.i_enum', Pu.t_slot, Pu.t_peek, Pu.t_bl, Pu.t_call, Pu.t_callv, Pu.t_prim, Pu.t_isi, Pu.t_idx, Pu.b_addI, Pu.b_addT, Pu.b_addL, Pu.b_subI, Pu.b_mulI, Pu.b_divI, Pu.b_modI, Pu.c_lt, Pu.c_le, Pu.c_gt, Pu.c_ge, Pu.c_eqI, Pu.c_neI, Pu.c_eqB, Pu.c_neB, Pu.c_isN, Pu.c_notN, Pu.d_bl, Pu.d_int, Pu.u_bl, Pu.u_int, Pu.u_non, Pu.u_tup, Pu.u_lst, Pu.x_tup, Pu.x_lst, Pu.at0, Pu.at1, Pu.at2, Pu.s_some, Pu.s_none, Pu.p_len, Pu.p_lenL, Pu.p_abs, Pu.p_int, Pu.p_all, Pu.p_any, Pu.p_tupL, Pu.p_tupT, Pu.p_lstL, Pu.p_lstT, Pu.q_tup, Pu.q_lst, Pu.q_scr, Pu.s_nil, Pu.s_wipe, Pu.s_freeze, Pu.s_ret, Pu.s_raise, Pu.s_pass, Pu.s_brk, Pu.s_cont, Pu.s_set, Pu.s_setOwn, Pu.own_lst, Pu.s_par, Pu.a_next, Pu.a_ret, Pu.a_brk, Pu.a_cont, Pu.s_iff, Pu.s_for, Pu.s_while, Pu.s_expr, Pu.s_try, Pu.s_aug, Pu.aug_some, Pu.aug_int, Pu.s_app, Pu.app_own, Pu.p_name, Pu.p_tup, Pu.ps_nil, Pu.ps_cons, Pu.v_tp, Pu.tp_val, Pu.tp_cell, Pu.s_tput, Pu.tput_val, Pu.s_tpop, Pu.tpop_val, Pu.s_tnew, Pu.tnew_lst, Pu.z_pure, Pu.z_seed, Pu.z_head, Pu.z_len, Pu.z_pseed, Pu.z_phead, Pu.z_pop, Pu.M.pure_bind, Pu.M.bind_assoc, Pu.M.bind_pure, Pu.M.stuck_bind, Pu.M.throw_bind, Pu.end_bind, Pu.end_ite, Pu.m_ite, Pu.noExc_pure, List.set_cons_zero, List.set_cons_succ, List.getElem?_cons_zero, List.getElem?_cons_succ, List.length_cons, List.length_nil, List.map_cons, List.map_nil, List.cons_append, List.nil_append, Pu.freezeE, Pu.wipeE, Pu.setsE, if_true, if_false, Bool.false_eq_true, reduceIte, Nat.reduceAdd, Nat.reduceSub, Nat.reduceEqDiff, decide_true, decide_false, Bool.not_true, Bool.not_false, Bool.true_and, Bool.and_true, Bool.false_and, Bool.and_false, Bool.true_or, Bool.or_true, Bool.false_or, Bool.or_false, Gk_call, add_ok 36 hx' hy', subtract_ok 36 hx' hy', gd_pos m1, gd_pos m2, gd_pos m3, gd_pos le3, gd_pos le2]
  unfold b_law_6
  simp only [Pu.end_ret, Pu.end_next, Pu.end_stuck, Pu.end_throw, Pu.v_slot0, Pu.v_slotS, Pu.v_peekV, Pu.v_peekO, Pu.v_peekS, Pu.v_non, Pu.v_bl, Pu.v_int, Pu.v_str, Pu.v_const, Pu.v_fn, Pu.v_tup, Pu.v_lst, Pu.v_neg, Pu.v_nott, Pu.t_nott, Pu.v_bin, Pu.v_cmp, Pu.t_cmp', Pu.v_andd, Pu.t_andd, Pu.v_orr, Pu.t_orr, Pu.v_ite, Pu.v_call, Pu.v_callv0, Pu.v_prim, Pu.v_isi, Pu.v_idx, Pu.v_slc, Pu.v_comp, Pu.o_non, Pu.o_som, Pu.c_non, Pu.c_som, Pu.e_nil, Pu.e_cons, Pu.av_one, Pu.av_cons, Pu.ov_one, Pu.ov_cons, Pu.at_nil, Pu.at_cons, Pu.ot_nil, Pu.ot_cons, Pu.i_seq', Pu.i_rng1, Pu.i_rng2, Pu.i_zip', Pu.i_enum', Pu.t_slot, Pu.t_peek, Pu.t_bl, Pu.t_call, Pu.t_callv, Pu.t_prim, Pu.t_isi, Pu.t_idx, Pu.b_addI, Pu.b_addT, Pu.b_addL, Pu.b_subI, Pu.b_mulI, Pu.b_divI, Pu.b_modI, Pu.c_lt, Pu.c_le, Pu.c_gt, Pu.c_ge, Pu.c_eqI, Pu.c_neI, Pu.c_eqB, Pu.c_neB, Pu.c_isN, Pu.c_notN, Pu.d_bl, Pu.d_int, Pu.u_bl, Pu.u_int, Pu.u_non, Pu.u_tup, Pu.u_lst, Pu.x_tup, Pu.x_lst, Pu.at0, Pu.at1, Pu.at2, Pu.s_some, Pu.s_none, Pu.p_len, Pu.p_lenL, Pu.p_abs, Pu.p_int, Pu.p_all, Pu.p_any, Pu.p_tupL, Pu.p_tupT, Pu.p_lstL, Pu.p_lstT, Pu.q_tup, Pu.q_lst, Pu.q_scr, Pu.s_nil, Pu.s_wipe, Pu.s_freeze, Pu.s_ret, Pu.s_raise, Pu.s_pass, Pu.s_brk, Pu.s_cont, Pu.s_set, Pu.s_setOwn, Pu.own_lst, Pu.s_par, Pu.a_next, Pu.a_ret, Pu.a_brk, Pu.a_cont, Pu.s_iff, Pu.s_for, Pu.s_while, Pu.s_expr, Pu.s_try, Pu.s_aug, Pu.aug_some, Pu.aug_int, Pu.s_app, Pu.app_own, Pu.p_name, Pu.p_tup, Pu.ps_nil, Pu.ps_cons, Pu.v_tp, Pu.tp_val, Pu.tp_cell, Pu.s_tput, Pu.tput_val, Pu.s_tpop, Pu.tpop_val, Pu.s_tnew, Pu.tnew_lst, Pu.z_pure, Pu.z_seed, Pu.z_head, Pu.z_len, Pu.z_pseed, Pu.z_phead, Pu.z_pop, Pu.M.pure_bind, Pu.M.bind_assoc, Pu.M.bind_pure, Pu.M.stuck_bind, Pu.M.throw_bind, Pu.end_bind, Pu.end_ite, Pu.m_ite, Pu.noExc_pure, List.set_cons_zero, List.set_cons_succ, List.getElem?_cons_zero, List.getElem?_cons_succ, List.length_cons, List.length_nil, List.map_cons, List.map_nil, List.cons_append, List.nil_append, Pu.freezeE, Pu.wipeE, Pu.setsE, if_true, if_false, Bool.false_eq_true, reduceIte, Nat.reduceAdd, Nat.reduceSub, Nat.reduceEqDiff, decide_true, decide_false, Bool.not_true, Bool.not_false, Bool.true_and, Bool.and_true, Bool.false_and, Bool.and_false, Bool.true_or, Bool.or_true, Bool.false_or, Bool.or_false, Gk_call, multiply_ok 36 hx' hy', negative_ok 38, of_ok 38, gd_pos m4, gd_pos m3, gd_pos le3, gd_pos le5, ofInt_D]
  rfl
def rowT (q : Rat × Int × Int) : D := rowD q.1 q.2.1 q.2.2
def RowOk (q : Rat × Int × Int) : Prop := q.2.2 ≠ 0 ∧ q.1 = Rat.divInt q.2.1 q.2.2 ∧ BR 9000 q.1 ∧ Bd 60000000 q.2.1 ∧ Bd 60000000 q.2.2
theorem rows_ok {a b c d : Int} (l : List (Rat × Int × Int)) (hl : ∀ q ∈ l, RowOk q) (hn : l.length ≤ 100) :
    exSs (Gk 39) sb b_law_4 (stA s0 s1 s2 ks S Bt Bl i (qD x) (qD y) (.lst (l.map rowT)) a b c d) = exSs (Gk 39) sb b_law_3 (stA s0 s1 s2 ks S Bt Bl i (qD x) (qD y) (.lst (l.map rowT)) a b c d) := by
  unfold b_law_4 stA
  simp only [Pu.end_ret, Pu.end_next, Pu.end_stuck, Pu.end_throw, Pu.v_slot0, Pu.v_slotS, Pu.v_peekV, Pu.v_peekO, Pu.v_peekS, Pu.v_non, Pu.v_bl, Pu.v_int, Pu.v_str, Pu.v_const, Pu.v_fn, Pu.v_tup, Pu.v_lst, Pu.v_neg, Pu.v_nott, Pu.t_nott, Pu.v_bin, Pu.v_cmp, Pu.t_cmp', Pu.v_andd, Pu.t_andd, Pu.v_orr, Pu.t_orr, Pu.v_ite, Pu.v_call, Pu.v_callv0, Pu.v_prim, Pu.v_isi, Pu.v_idx, Pu.v_slc, Pu.v_comp, Pu.o_non, Pu.o_som, Pu.c_non, Pu.c_som, Pu.e_nil, Pu.e_cons, Pu.av_one, Pu.av_cons, Pu.ov_one, Pu.ov_cons, Pu.at_nil, Pu.at_cons, Pu.ot_nil, Pu.ot_cons, Pu.i_seq', Pu.i_rng1, Pu.i_rng2, Pu.i_zip', Pu.i_enum', Pu.t_slot, Pu.t_peek, Pu.t_bl, Pu.t_call, Pu.t_callv, Pu.t_prim, Pu.t_isi, Pu.t_idx, Pu.b_addI, Pu.b_addT, Pu.b_addL, Pu.b_subI, Pu.b_mulI, Pu.b_divI, Pu.b_modI, Pu.c_lt, Pu.c_le, Pu.c_gt, Pu.c_ge, Pu.c_eqI, Pu.c_neI, Pu.c_eqB, Pu.c_neB, Pu.c_isN, Pu.c_notN, Pu.d_bl, Pu.d_int, Pu.u_bl, Pu.u_int, Pu.u_non, Pu.u_tup, Pu.u_lst, Pu.x_tup, Pu.x_lst, Pu.at0, Pu.at1, Pu.at2, Pu.s_some, Pu.s_none, Pu.p_len, Pu.p_lenL, Pu.p_abs, Pu.p_int, Pu.p_all, Pu.p_any, Pu.p_tupL, Pu.p_tupT, Pu.p_lstL, Pu.p_lstT, Pu.q_tup, Pu.q_lst, Pu.q_scr, Pu.s_nil, Pu.s_wipe, Pu.s_freeze, Pu.s_ret, Pu.s_raise, Pu.s_pass, Pu.s_brk, Pu.s_cont, Pu.s_set, Pu.s_setOwn, Pu.own_lst, Pu.s_par, Pu.a_next, Pu.a_ret, Pu.a_brk, Pu.a_cont, Pu.s_iff, Pu.s_for, Pu.s_while, Pu.s_expr, Pu.s_try, Pu.s_aug, Pu.aug_some, Pu.aug_int, Pu.s_app, Pu.app_own, Pu.p_name, Pu.p_tup, Pu.ps_nil, Pu.ps_cons, Pu.v_tp, Pu.tp_val, Pu.tp_cell, Pu.s_tput, Pu.tput_val, Pu.s_tpop, Pu.tpop_val, Pu.s_tnew, Pu.tnew_lst, Pu.z_pure, Pu.z_seed, Pu.z_head, Pu.z_len, Pu.z_pseed, Pu.z_phead, Pu.z_pop, Pu.M.pure_bind, Pu.M.bind_assoc, Pu.M.bind_pure, Pu.M.stuck_bind, Pu.M.throw_bind, Pu.end_bind, Pu.end_ite, Pu.m_ite, Pu.noExc_pure, List.set_cons_zero, List.set_cons_succ, List.getElem?_cons_zero, List.getElem?_cons_succ, List.length_cons, List.length_nil, List.map_cons, List.map_nil, List.cons_append, List.nil_append, Pu.freezeE, Pu.wipeE, Pu.setsE, if_true, if_false, Bool.false_eq_true, reduceIte, Nat.reduceAdd, Nat.reduceSub, Nat.reduceEqDiff, decide_true, decide_false, Bool.not_true, Bool.not_false, Bool.true_and, Bool.and_true, Bool.false_and, Bool.and_false, Bool.true_or, Bool.or_true, Bool.false_or, Bool.or_false]
  rw [compM_on rowT (fun _ => D.bl true) l (fun q hq => ?_) (Nat.le_trans hn (by decide))]
  · simp only [Pu.end_ret, Pu.end_next, Pu.end_stuck, Pu.end_throw, Pu.v_slot0, Pu.v_slotS, Pu.v_peekV, Pu.v_peekO, Pu.v_peekS, Pu.v_non, Pu.v_bl, Pu.v_int, Pu.v_str, Pu.v_const, Pu.v_fn, Pu.v_tup, Pu.v_lst, Pu.v_neg, Pu.v_nott, Pu.t_nott, Pu.v_bin, Pu.v_cmp, Pu.t_cmp', Pu.v_andd, Pu.t_andd, Pu.v_orr, Pu.t_orr, Pu.v_ite, Pu.v_call, Pu.v_callv0, Pu.v_prim, Pu.v_isi, Pu.v_idx, Pu.v_slc, Pu.v_comp, Pu.o_non, Pu.o_som, Pu.c_non, Pu.c_som, Pu.e_nil, Pu.e_cons, Pu.av_one, Pu.av_cons, Pu.ov_one, Pu.ov_cons, Pu.at_nil, Pu.at_cons, Pu.ot_nil, Pu.ot_cons, Pu.i_seq', Pu.i_rng1, Pu.i_rng2, Pu.i_zip', Pu.i_enum', Pu.t_slot, Pu.t_peek, Pu.t_bl, Pu.t_call, Pu.t_callv, Pu.t_prim, Pu.t_isi, Pu.t_idx, Pu.b_addI, Pu.b_addT, Pu.b_addL, Pu.b_subI, Pu.b_mulI, Pu.b_divI, Pu.b_modI, Pu.c_lt, Pu.c_le, Pu.c_gt, Pu.c_ge, Pu.c_eqI, Pu.c_neI, Pu.c_eqB, Pu.c_neB, Pu.c_isN, Pu.c_notN, Pu.d_bl, Pu.d_int, Pu.u_bl, Pu.u_int, Pu.u_non, Pu.u_tup, Pu.u_lst, Pu.x_tup, Pu.x_lst, Pu.at0, Pu.at1, Pu.at2, Pu.s_some, Pu.s_none, Pu.p_len, Pu.p_lenL, Pu.p_abs, Pu.p_int, Pu.p_all, Pu.p_any, Pu.p_tupL, Pu.p_tupT, Pu.p_lstL, Pu.p_lstT, Pu.q_tup, Pu.q_lst, Pu.q_scr, Pu.s_nil, Pu.s_wipe, Pu.s_freeze, Pu.s_ret, Pu.s_raise, Pu.s_pass, Pu.s_brk, Pu.s_cont, Pu.s_set, Pu.s_setOwn, Pu.own_lst, Pu.s_par, Pu.a_next, Pu.a_ret, Pu.a_brk, Pu.a_cont, Pu.s_iff, Pu.s_for, Pu.s_while, Pu.s_expr, Pu.s_try, Pu.s_aug, Pu.aug_some, Pu.aug_int, Pu.s_app, Pu.app_own, Pu.p_name, Pu.p_tup, Pu.ps_nil, Pu.ps_cons, Pu.v_tp, Pu.tp_val, Pu.tp_cell, Pu.s_tput, Pu.tput_val, Pu.s_tpop, Pu.tpop_val, Pu.s_tnew, Pu.tnew_lst, Pu.z_pure, Pu.z_seed, Pu.z_head, Pu.z_len, Pu.z_pseed, Pu.z_phead, Pu.z_pop, Pu.M.pure_bind, Pu.M.bind_assoc, Pu.M.bind_pure, Pu.M.stuck_bind, Pu.M.throw_bind, Pu.end_bind, Pu.end_ite, Pu.m_ite, Pu.noExc_pure, List.set_cons_zero, List.set_cons_succ, List.getElem?_cons_zero, List.getElem?_cons_succ, List.length_cons, List.length_nil, List.map_cons, List.map_nil, List.cons_append, List.nil_append, Pu.freezeE, Pu.wipeE, Pu.setsE, if_true, if_false, Bool.false_eq_true, reduceIte, Nat.reduceAdd, Nat.reduceSub, Nat.reduceEqDiff, decide_true, decide_false, Bool.not_true, Bool.not_false, Bool.true_and, Bool.and_true, Bool.false_and, Bool.and_false, Bool.true_or, Bool.or_true, Bool.false_or, Bool.or_false, all_true, all_id]
  · obtain ⟨h1, h2, h3, h4, h5⟩ := hl q hq
    simp only [compF, P.slots, P.slotss, rowT, rowD, Pu.end_ret, Pu.end_next, Pu.end_stuck, Pu.end_throw, Pu.v_slot0, Pu.v_slotS, Pu.v_peekV, Pu.v_peekO, Pu.v_peekS, Pu.v_non, Pu.v_bl, Pu.v_int, Pu.v_str, Pu.v_const, Pu.v_fn, Pu.v_tup, Pu.v_lst, Pu.v_neg, Pu.v_nott, Pu.t_nott, Pu.v_bin, Pu.v_cmp, Pu.t_cmp', Pu.v_andd, Pu.t_andd, Pu.v_orr, Pu.t_orr, Pu.v_ite, Pu.v_call, Pu.v_callv0, Pu.v_prim, Pu.v_isi, Pu.v_idx, Pu.v_slc, Pu.v_comp, Pu.o_non, Pu.o_som, Pu.c_non, Pu.c_som, Pu.e_nil, Pu.e_cons, Pu.av_one, Pu.av_cons, Pu.ov_one, Pu.ov_cons, Pu.at_nil, Pu.at_cons, Pu.ot_nil, Pu.ot_cons, Pu.i_seq', Pu.i_rng1, Pu.i_rng2, Pu.i_zip', Pu.i_enum', Pu.t_slot, Pu.t_peek, Pu.t_bl, Pu.t_call, Pu.t_callv, Pu.t_prim, Pu.t_isi, Pu.t_idx, Pu.b_addI, Pu.b_addT, Pu.b_addL, Pu.b_subI, Pu.b_mulI, Pu.b_divI, Pu.b_modI, Pu.c_lt, Pu.c_le, Pu.c_gt, Pu.c_ge, Pu.c_eqI, Pu.c_neI, Pu.c_eqB, Pu.c_neB, Pu.c_isN, Pu.c_notN, Pu.d_bl, Pu.d_int, Pu.u_bl, Pu.u_int, Pu.u_non, Pu.u_tup, Pu.u_lst, Pu.x_tup, Pu.x_lst, Pu.at0, Pu.at1, Pu.at2, Pu.s_some, Pu.s_none, Pu.p_len, Pu.p_lenL, Pu.p_abs, Pu.p_int, Pu.p_all, Pu.p_any, Pu.p_tupL, Pu.p_tupT, Pu.p_lstL, Pu.p_lstT, Pu.q_tup, Pu.q_lst, Pu.q_scr, Pu.s_nil, Pu.s_wipe, Pu.s_freeze, Pu.s_ret, Pu.s_raise, Pu.s_pass, Pu.s_brk, Pu.s_cont, Pu.s_set, Pu.s_setOwn, Pu.own_lst, Pu.s_par, Pu.a_next, Pu.a_ret, Pu.a_brk, Pu.a_cont, Pu.s_iff, Pu.s_for, Pu.s_while, Pu.s_expr, Pu.s_try, Pu.s_aug, Pu.aug_some, Pu.aug_int, Pu.s_app, Pu.app_own, Pu.p_name, Pu.p_tup, Pu.ps_nil, Pu.ps_cons, Pu.v_tp, Pu.tp_val, Pu.tp_cell, Pu.s_tput, Pu.tput_val, Pu.s_tpop, Pu.tpop_val, Pu.s_tnew, Pu.tnew_lst, Pu.z_pure, Pu.z_seed, Pu.z_head, Pu.z_len, Pu.z_pseed, Pu.z_phead, Pu.z_pop, Pu.M.pure_bind, Pu.M.bind_assoc, Pu.M.bind_pure, Pu.M.stuck_bind, Pu.M.throw_bind, Pu.end_bind, Pu.end_ite, Pu.m_ite, Pu.noExc_pure, List.set_cons_zero, List.set_cons_succ, List.getElem?_cons_zero, List.getElem?_cons_succ, List.length_cons, List.length_nil, List.map_cons, List.map_nil, List.cons_append, List.nil_append, Pu.freezeE, Pu.wipeE, Pu.setsE, if_true, if_false, Bool.false_eq_true, reduceIte, Nat.reduceAdd, Nat.reduceSub, Nat.reduceEqDiff, decide_true, decide_false, Bool.not_true, Bool.not_false, Bool.true_and, Bool.and_true, Bool.false_and, Bool.and_false, Bool.true_or, Bool.or_true, Bool.false_or, Bool.or_false, Gk_call, isd_ok 37 h1 h2 h3 h4 h5]
theorem five_ok (hx : BR 100 x) (hy : BR 100 y) : ∀ q ∈ [(x + y, x.num * y.den + y.num * x.den, (x.den * y.den : Int)), (x - y, x.num * y.den - y.num * x.den, (x.den * y.den : Int)), (x * y, x.num * y.num, (x.den * y.den : Int)), (-x, -x.num, (x.den : Int)), ((x.num : Rat), x.num, (1 : Int))], RowOk q := by
  have hd := (hx.2.mul hy.2).mono (show 100 + 100 ≤ 60000000 by decide)
  intro q hq
  rcases List.mem_cons.mp hq with rfl | hq
  · exact ⟨den2 x y, (rat_add x y).symm, (hx.add hy).mono (by decide), ((hx.1.mul hy.2).add (hy.1.mul hx.2)).mono (by decide), hd⟩
  rcases List.mem_cons.mp hq with rfl | hq
  · exact ⟨den2 x y, (rat_sub x y).symm, (hx.sub hy).mono (by decide), ((hx.1.mul hy.2).sub (hy.1.mul hx.2)).mono (by decide), hd⟩
  rcases List.mem_cons.mp hq with rfl | hq
  · exact ⟨den2 x y, (rat_mul x y).symm, (hx.mul hy).mono (by decide), (hx.1.mul hy.1).mono (by decide), hd⟩
  rcases List.mem_cons.mp hq with rfl | hq
  · refine ⟨den_ne x, ?_, ⟨by rw [Rat.neg_num]; exact (hx.1.neg).mono (by decide), by rw [Rat.neg_den]; exact hx.2.mono (by decide)⟩, hx.1.neg.mono (by decide), hx.2.mono (by decide)⟩
    have := rat_eq (-x)
    rw [Rat.neg_num, Rat.neg_den] at this
    exact this.symm
  rcases List.mem_cons.mp hq with rfl | hq
  · exact ⟨by show (1 : Int) ≠ 0; decide, ofInt_eq _, BR.ofInt (hx.1.mono (by decide)), hx.1.mono (by decide), by unfold Bd; exact Nat.one_lt_two_pow (by decide)⟩
  · exact absurd hq List.not_mem_nil
theorem le6 : 6 ≤ sizeLine := by decide
theorem turn_b (hx : BR 100 x) (hy : BR 100 y) : ∃ rows,
    exSs (Gk 39) sb b_law_5 (stA s0 s1 s2 ks S Bt Bl i (qD x) (qD y) (.lst [rowD (x + y) (x.num * y.den + y.num * x.den) (x.den * y.den), rowD (x - y) (x.num * y.den - y.num * x.den) (x.den * y.den),
        rowD (x * y) (x.num * y.num) (x.den * y.den), rowD (-x) (-x.num) x.den, rowD (x.num : Rat) x.num 1]) x.num x.den y.num y.den) =
      exSs (Gk 39) sb b_law_3 (stA s0 s1 s2 ks S Bt Bl i (qD x) (qD y) rows x.num x.den y.num y.den) := by
  have hx' : BR 4500 x := hx.mono (by decide)
  have hy' : BR 4500 y := hy.mono (by decide)
  have m1 : mulOk x.num y.den := mok hx.1 hy.2
  have m2 : mulOk x.den y.num := mok hx.2 hy.1
  by_cases h0 : y.num = 0
  · refine ⟨_, Eq.trans ?_ (rows_ok [(x + y, x.num * y.den + y.num * x.den, (x.den * y.den : Int)), (x - y, x.num * y.den - y.num * x.den, (x.den * y.den : Int)), (x * y, x.num * y.num, (x.den * y.den : Int)), (-x, -x.num, (x.den : Int)), ((x.num : Rat), x.num, (1 : Int))] (five_ok hx hy) (by show 5 ≤ 100; decide))⟩
    unfold b_law_5 stA
    simp only [Pu.end_ret, Pu.end_next, Pu.end_stuck, Pu.end_throw, Pu.v_slot0, Pu.v_slotS, Pu.v_peekV, Pu.v_peekO, Pu.v_peekS, Pu.v_non, Pu.v_bl, Pu.v_int, Pu.v_str, Pu.v_const, Pu.v_fn, Pu.v_tup, Pu.v_lst, Pu.v_neg, Pu.v_nott, Pu.t_nott, Pu.v_bin, Pu.v_cmp, Pu.t_cmp', Pu.v_andd, Pu.t_andd, Pu.v_orr, Pu.t_orr, Pu.v_ite, Pu.v_call, Pu.v_callv0, Pu.v_prim, Pu.v_isi, Pu.v_idx, Pu.v_slc, Pu.v_comp, Pu.o_non, Pu.o_som, Pu.c_non, Pu.c_som, Pu.e_nil, Pu.e_cons, Pu.av_one, Pu.av_cons, Pu.ov_one, Pu.ov_cons, Pu.at_nil, Pu.at_cons, Pu.ot_nil, Pu.ot_cons, Pu.i_seq', Pu.i_rng1, Pu.i_rng2, Pu.i_zip', Pu.i_enum', Pu.t_slot, Pu.t_peek, Pu.t_bl, Pu.t_call, Pu.t_callv, Pu.t_prim, Pu.t_isi, Pu.t_idx, Pu.b_addI, Pu.b_addT, Pu.b_addL, Pu.b_subI, Pu.b_mulI, Pu.b_divI, Pu.b_modI, Pu.c_lt, Pu.c_le, Pu.c_gt, Pu.c_ge, Pu.c_eqI, Pu.c_neI, Pu.c_eqB, Pu.c_neB, Pu.c_isN, Pu.c_notN, Pu.d_bl, Pu.d_int, Pu.u_bl, Pu.u_int, Pu.u_non, Pu.u_tup, Pu.u_lst, Pu.x_tup, Pu.x_lst, Pu.at0, Pu.at1, Pu.at2, Pu.s_some, Pu.s_none, Pu.p_len, Pu.p_lenL, Pu.p_abs, Pu.p_int, Pu.p_all, Pu.p_any, Pu.p_tupL, Pu.p_tupT, Pu.p_lstL, Pu.p_lstT, Pu.q_tup, Pu.q_lst, Pu.q_scr, Pu.s_nil, Pu.s_wipe, Pu.s_freeze, Pu.s_ret, Pu.s_raise, Pu.s_pass, Pu.s_brk, Pu.s_cont, Pu.s_set, Pu.s_setOwn, Pu.own_lst, Pu.s_par, Pu.a_next, Pu.a_ret, Pu.a_brk, Pu.a_cont, Pu.s_iff, Pu.s_for, Pu.s_while, Pu.s_expr, Pu.s_try, Pu.s_aug, Pu.aug_some, Pu.aug_int, Pu.s_app, Pu.app_own, Pu.p_name, Pu.p_tup, Pu.ps_nil, Pu.ps_cons, Pu.v_tp, Pu.tp_val, Pu.tp_cell, Pu.s_tput, Pu.tput_val, Pu.s_tpop, Pu.tpop_val, Pu.s_tnew, Pu.tnew_lst, Pu.z_pure, Pu.z_seed, Pu.z_head, Pu.z_len, Pu.z_pseed, Pu.z_phead, Pu.z_pop, Pu.M.pure_bind, Pu.M.bind_assoc, Pu.M.bind_pure, Pu.M.stuck_bind, Pu.M.throw_bind, Pu.end_bind, Pu.end_ite, Pu.m_ite, Pu.noExc_pure, List.set_cons_zero, List.set_cons_succ, List.getElem?_cons_zero, List.getElem?_cons_succ, List.length_cons, List.length_nil, List.map_cons, List.map_nil, List.cons_append, List.nil_append, Pu.freezeE, Pu.wipeE, Pu.setsE, if_true, if_false, Bool.false_eq_true, reduceIte, Nat.reduceAdd, Nat.reduceSub, Nat.reduceEqDiff, decide_true, decide_false, Bool.not_true, Bool.not_false, Bool.true_and, Bool.and_true, Bool.false_and, Bool.and_false, Bool.true_or, Bool.or_true, Bool.false_or, Bool.or_false, Gk_call, Gk_isFn, isF_divide, show (y.num == 0) = true by simpa using h0, refused_ok 38 (divide_bad 35 (x := x) h0)]
    rfl
  · refine ⟨_, Eq.trans ?_ (rows_ok ([(x + y, x.num * y.den + y.num * x.den, (x.den * y.den : Int)), (x - y, x.num * y.den - y.num * x.den, (x.den * y.den : Int)), (x * y, x.num * y.num, (x.den * y.den : Int)), (-x, -x.num, (x.den : Int)), ((x.num : Rat), x.num, (1 : Int))] ++ [(x / y, x.num * y.den, (x.den * y.num : Int))]) (fun q hq => ?_) (by show 6 ≤ 100; decide))⟩
    · unfold b_law_5 stA
      simp only [Pu.end_ret, Pu.end_next, Pu.end_stuck, Pu.end_throw, Pu.v_slot0, Pu.v_slotS, Pu.v_peekV, Pu.v_peekO, Pu.v_peekS, Pu.v_non, Pu.v_bl, Pu.v_int, Pu.v_str, Pu.v_const, Pu.v_fn, Pu.v_tup, Pu.v_lst, Pu.v_neg, Pu.v_nott, Pu.t_nott, Pu.v_bin, Pu.v_cmp, Pu.t_cmp', Pu.v_andd, Pu.t_andd, Pu.v_orr, Pu.t_orr, Pu.v_ite, Pu.v_call, Pu.v_callv0, Pu.v_prim, Pu.v_isi, Pu.v_idx, Pu.v_slc, Pu.v_comp, Pu.o_non, Pu.o_som, Pu.c_non, Pu.c_som, Pu.e_nil, Pu.e_cons, Pu.av_one, Pu.av_cons, Pu.ov_one, Pu.ov_cons, Pu.at_nil, Pu.at_cons, Pu.ot_nil, Pu.ot_cons, Pu.i_seq', Pu.i_rng1, Pu.i_rng2, Pu.i_zip', Pu.i_enum', Pu.t_slot, Pu.t_peek, Pu.t_bl, Pu.t_call, Pu.t_callv, Pu.t_prim, Pu.t_isi, Pu.t_idx, Pu.b_addI, Pu.b_addT, Pu.b_addL, Pu.b_subI, Pu.b_mulI, Pu.b_divI, Pu.b_modI, Pu.c_lt, Pu.c_le, Pu.c_gt, Pu.c_ge, Pu.c_eqI, Pu.c_neI, Pu.c_eqB, Pu.c_neB, Pu.c_isN, Pu.c_notN, Pu.d_bl, Pu.d_int, Pu.u_bl, Pu.u_int, Pu.u_non, Pu.u_tup, Pu.u_lst, Pu.x_tup, Pu.x_lst, Pu.at0, Pu.at1, Pu.at2, Pu.s_some, Pu.s_none, Pu.p_len, Pu.p_lenL, Pu.p_abs, Pu.p_int, Pu.p_all, Pu.p_any, Pu.p_tupL, Pu.p_tupT, Pu.p_lstL, Pu.p_lstT, Pu.q_tup, Pu.q_lst, Pu.q_scr, Pu.s_nil, Pu.s_wipe, Pu.s_freeze, Pu.s_ret, Pu.s_raise, Pu.s_pass, Pu.s_brk, Pu.s_cont, Pu.s_set, Pu.s_setOwn, Pu.own_lst, Pu.s_par, Pu.a_next, Pu.a_ret, Pu.a_brk, Pu.a_cont, Pu.s_iff, Pu.s_for, Pu.s_while, Pu.s_expr, Pu.s_try, Pu.s_aug, Pu.aug_some, Pu.aug_int, Pu.s_app, Pu.app_own, Pu.p_name, Pu.p_tup, Pu.ps_nil, Pu.ps_cons, Pu.v_tp, Pu.tp_val, Pu.tp_cell, Pu.s_tput, Pu.tput_val, Pu.s_tpop, Pu.tpop_val, Pu.s_tnew, Pu.tnew_lst, Pu.z_pure, Pu.z_seed, Pu.z_head, Pu.z_len, Pu.z_pseed, Pu.z_phead, Pu.z_pop, Pu.M.pure_bind, Pu.M.bind_assoc, Pu.M.bind_pure, Pu.M.stuck_bind, Pu.M.throw_bind, Pu.end_bind, Pu.end_ite, Pu.m_ite, Pu.noExc_pure, List.set_cons_zero, List.set_cons_succ, List.getElem?_cons_zero, List.getElem?_cons_succ, List.length_cons, List.length_nil, List.map_cons, List.map_nil, List.cons_append, List.nil_append, Pu.freezeE, Pu.wipeE, Pu.setsE, if_true, if_false, Bool.false_eq_true, reduceIte, Nat.reduceAdd, Nat.reduceSub, Nat.reduceEqDiff, decide_true, decide_false, Bool.not_true, Bool.not_false, Bool.true_and, Bool.and_true, Bool.false_and, Bool.and_false, Bool.true_or, Bool.or_true, Bool.false_or, Bool.or_false, Gk_call, show (y.num == 0) = false by simpa using h0, divide_ok 36 hx' hy' h0, gd_pos m1, gd_pos m2, gd_pos le3, gd_pos le1, gd_pos le6]
      rfl
    · rcases List.mem_append.mp hq with q1 | q1
      · exact five_ok hx hy q q1
      · rw [List.mem_singleton.mp q1]
        exact ⟨Int.mul_ne_zero (den_ne x) h0, (rat_div x y).symm, (BR.quo h0 hx hy).mono (by decide), (hx.1.mul hy.2).mono (by decide), (hx.2.mul hy.1).mono (by decide)⟩
theorem turn_c (hx : BR 100 x) (hy : BR 100 y) {rows : D} (hS : Bd 20000 S) (hB : Bd 20000 Bt) (hl : Bd 20000 Bl) :
    exSs (Gk 39) sb b_law_3 (stA s0 s1 s2 ks S Bt Bl i (qD x) (qD y) rows x.num x.den y.num y.den) =
      pure (.next [s0, s1, s2, none, some (.val ks), some (.val (.int (S * x.den * y.den + x.num * y.den * Bl))), some (.val (.int (Bt * x.den * y.den + x.num * y.num * Bl))), some (.val (.int (Bl * x.den * y.den))), none, none, none, none, none, none, none, none, none, none, none]) := by
  have hx' : BR 4500 x := hx.mono (by decide)
  have hy' : BR 4500 y := hy.mono (by decide)
  have m1 : mulOk x.num y.den := mok hx.1 hy.2
  have m2 : mulOk y.num x.den := mok hy.1 hx.2
  have m3 : mulOk x.num y.num := mok hx.1 hy.1
  have m4 : mulOk S x.den := mok hS hx.2
  have m5 : mulOk (S * x.den) y.den := mok (hS.mul hx.2) hy.2
  have m6 : mulOk (x.num * y.den) Bl := mok (hx.1.mul hy.2) hl
  have m7 : mulOk Bt x.den := mok hB hx.2
  have m8 : mulOk (Bt * x.den) y.den := mok (hB.mul hx.2) hy.2
  have m9 : mulOk (x.num * y.num) Bl := mok (hx.1.mul hy.1) hl
  have ma : mulOk Bl x.den := mok hl hx.2
  have mb : mulOk (Bl * x.den) y.den := mok (hl.mul hx.2) hy.2
  have bg : Bd 9000 y.num := hy.1.mono (by decide)
  have sg : (if decide (0 < x.num) = true then (pure (D.int 1) : M D) else if decide (x.num < 0) = true then pure (D.int (-1)) else pure (D.int 0)) = pure (D.int (if 0 < x.num then 1 else if x.num < 0 then -1 else 0)) := by
    by_cases h : 0 < x.num <;> by_cases h' : x.num < 0 <;> simp [h, h']
  unfold b_law_3 stA
  simp only [Pu.end_ret, Pu.end_next, Pu.end_stuck, Pu.end_throw, Pu.v_slot0, Pu.v_slotS, Pu.v_peekV, Pu.v_peekO, Pu.v_peekS, Pu.v_non, Pu.v_bl, Pu.v_int, Pu.v_str, Pu.v_const, Pu.v_fn, Pu.v_tup, Pu.v_lst, Pu.v_neg, Pu.v_nott, Pu.t_nott, Pu.v_bin, Pu.v_cmp, Pu.t_cmp', Pu.v_andd, Pu.t_andd, Pu.v_orr, Pu.t_orr, Pu.v_ite, Pu.v_call, Pu.v_callv0, Pu.v_prim, Pu.v_isi, Pu.v_idx, Pu.v_slc, Pu.v_comp, Pu.o_non, Pu.o_som, Pu.c_non, Pu.c_som, Pu.e_nil, Pu.e_cons, Pu.av_one, Pu.av_cons, Pu.ov_one, Pu.ov_cons, Pu.at_nil, Pu.at_cons, Pu.ot_nil, Pu.ot_cons, Pu.i_seq', Pu.i_rng1, Pu.i_rng2, Pu.i_zip', Pu.i_enum', Pu.t_slot, Pu.t_peek, Pu.t_bl, Pu.t_call, Pu.t_callv, Pu.t_prim, Pu.t_isi, Pu.t_idx, Pu.b_addI, Pu.b_addT, Pu.b_addL, Pu.b_subI, Pu.b_mulI, Pu.b_divI, Pu.b_modI, Pu.c_lt, Pu.c_le, Pu.c_gt, Pu.c_ge, Pu.c_eqI, Pu.c_neI, Pu.c_eqB, Pu.c_neB, Pu.c_isN, Pu.c_notN, Pu.d_bl, Pu.d_int, Pu.u_bl, Pu.u_int, Pu.u_non, Pu.u_tup, Pu.u_lst, Pu.x_tup, Pu.x_lst, Pu.at0, Pu.at1, Pu.at2, Pu.s_some, Pu.s_none, Pu.p_len, Pu.p_lenL, Pu.p_abs, Pu.p_int, Pu.p_all, Pu.p_any, Pu.p_tupL, Pu.p_tupT, Pu.p_lstL, Pu.p_lstT, Pu.q_tup, Pu.q_lst, Pu.q_scr, Pu.s_nil, Pu.s_wipe, Pu.s_freeze, Pu.s_ret, Pu.s_raise, Pu.s_pass, Pu.s_brk, Pu.s_cont, Pu.s_set, Pu.s_setOwn, Pu.own_lst, Pu.s_par, Pu.a_next, Pu.a_ret, Pu.a_brk, Pu.a_cont, Pu.s_iff, Pu.s_for, Pu.s_while, Pu.s_expr, Pu.s_try, Pu.s_aug, Pu.aug_some, Pu.aug_int, Pu.s_app, Pu.app_own, Pu.p_name, Pu.p_tup, Pu.ps_nil, Pu.ps_cons, Pu.v_tp, Pu.tp_val, Pu.tp_cell, Pu.s_tput, Pu.tput_val, Pu.s_tpop, Pu.tpop_val, Pu.s_tnew, Pu.tnew_lst, Pu.z_pure, Pu.z_seed, Pu.z_head, Pu.z_len, Pu.z_pseed, Pu.z_phead, Pu.z_pop, Pu.M.pure_bind, Pu.M.bind_assoc, Pu.M.bind_pure, Pu.M.stuck_bind, Pu.M.throw_bind, Pu.end_bind, Pu.end_ite, Pu.m_ite, Pu.noExc_pure, List.set_cons_zero, List.set_cons_succ, List.getElem?_cons_zero, List.getElem?_cons_succ, List.length_cons, List.length_nil, List.map_cons, List.map_nil, List.cons_append, List.nil_append, Pu.freezeE, Pu.wipeE, Pu.setsE, if_true, if_false, Bool.false_eq_true, reduceIte, Nat.reduceAdd, Nat.reduceSub, Nat.reduceEqDiff, decide_true, decide_false, Bool.not_true, Bool.not_false, Bool.true_and, Bool.and_true, Bool.false_and, Bool.and_false, Bool.true_or, Bool.or_true, Bool.false_or, Bool.or_false, Gk_call, less_ok 38 hx' hy', gd_pos m1, gd_pos m2, same_bl 38, same_int 38, sign_ok 38, sg, beq_self_eq_true]
  unfold b_law_2
  simp only [Pu.end_ret, Pu.end_next, Pu.end_stuck, Pu.end_throw, Pu.v_slot0, Pu.v_slotS, Pu.v_peekV, Pu.v_peekO, Pu.v_peekS, Pu.v_non, Pu.v_bl, Pu.v_int, Pu.v_str, Pu.v_const, Pu.v_fn, Pu.v_tup, Pu.v_lst, Pu.v_neg, Pu.v_nott, Pu.t_nott, Pu.v_bin, Pu.v_cmp, Pu.t_cmp', Pu.v_andd, Pu.t_andd, Pu.v_orr, Pu.t_orr, Pu.v_ite, Pu.v_call, Pu.v_callv0, Pu.v_prim, Pu.v_isi, Pu.v_idx, Pu.v_slc, Pu.v_comp, Pu.o_non, Pu.o_som, Pu.c_non, Pu.c_som, Pu.e_nil, Pu.e_cons, Pu.av_one, Pu.av_cons, Pu.ov_one, Pu.ov_cons, Pu.at_nil, Pu.at_cons, Pu.ot_nil, Pu.ot_cons, Pu.i_seq', Pu.i_rng1, Pu.i_rng2, Pu.i_zip', Pu.i_enum', Pu.t_slot, Pu.t_peek, Pu.t_bl, Pu.t_call, Pu.t_callv, Pu.t_prim, Pu.t_isi, Pu.t_idx, Pu.b_addI, Pu.b_addT, Pu.b_addL, Pu.b_subI, Pu.b_mulI, Pu.b_divI, Pu.b_modI, Pu.c_lt, Pu.c_le, Pu.c_gt, Pu.c_ge, Pu.c_eqI, Pu.c_neI, Pu.c_eqB, Pu.c_neB, Pu.c_isN, Pu.c_notN, Pu.d_bl, Pu.d_int, Pu.u_bl, Pu.u_int, Pu.u_non, Pu.u_tup, Pu.u_lst, Pu.x_tup, Pu.x_lst, Pu.at0, Pu.at1, Pu.at2, Pu.s_some, Pu.s_none, Pu.p_len, Pu.p_lenL, Pu.p_abs, Pu.p_int, Pu.p_all, Pu.p_any, Pu.p_tupL, Pu.p_tupT, Pu.p_lstL, Pu.p_lstT, Pu.q_tup, Pu.q_lst, Pu.q_scr, Pu.s_nil, Pu.s_wipe, Pu.s_freeze, Pu.s_ret, Pu.s_raise, Pu.s_pass, Pu.s_brk, Pu.s_cont, Pu.s_set, Pu.s_setOwn, Pu.own_lst, Pu.s_par, Pu.a_next, Pu.a_ret, Pu.a_brk, Pu.a_cont, Pu.s_iff, Pu.s_for, Pu.s_while, Pu.s_expr, Pu.s_try, Pu.s_aug, Pu.aug_some, Pu.aug_int, Pu.s_app, Pu.app_own, Pu.p_name, Pu.p_tup, Pu.ps_nil, Pu.ps_cons, Pu.v_tp, Pu.tp_val, Pu.tp_cell, Pu.s_tput, Pu.tput_val, Pu.s_tpop, Pu.tpop_val, Pu.s_tnew, Pu.tnew_lst, Pu.z_pure, Pu.z_seed, Pu.z_head, Pu.z_len, Pu.z_pseed, Pu.z_phead, Pu.z_pop, Pu.M.pure_bind, Pu.M.bind_assoc, Pu.M.bind_pure, Pu.M.stuck_bind, Pu.M.throw_bind, Pu.end_bind, Pu.end_ite, Pu.m_ite, Pu.noExc_pure, List.set_cons_zero, List.set_cons_succ, List.getElem?_cons_zero, List.getElem?_cons_succ, List.length_cons, List.length_nil, List.map_cons, List.map_nil, List.cons_append, List.nil_append, Pu.freezeE, Pu.wipeE, Pu.setsE, if_true, if_false, Bool.false_eq_true, reduceIte, Nat.reduceAdd, Nat.reduceSub, Nat.reduceEqDiff, decide_true, decide_false, Bool.not_true, Bool.not_false, Bool.true_and, Bool.and_true, Bool.false_and, Bool.and_false, Bool.true_or, Bool.or_true, Bool.false_or, Bool.or_false, Gk_call, Gk_isFn, isF_make, divisor_ok 38 _ _ bg, shared_ok 38 _ _ bg, same_int 38, beq_self_eq_true, refused_ok 38 (make_bad 36 x.num), powers_ok 33 hx]
  unfold b_law_1
  simp only [Pu.end_ret, Pu.end_next, Pu.end_stuck, Pu.end_throw, Pu.v_slot0, Pu.v_slotS, Pu.v_peekV, Pu.v_peekO, Pu.v_peekS, Pu.v_non, Pu.v_bl, Pu.v_int, Pu.v_str, Pu.v_const, Pu.v_fn, Pu.v_tup, Pu.v_lst, Pu.v_neg, Pu.v_nott, Pu.t_nott, Pu.v_bin, Pu.v_cmp, Pu.t_cmp', Pu.v_andd, Pu.t_andd, Pu.v_orr, Pu.t_orr, Pu.v_ite, Pu.v_call, Pu.v_callv0, Pu.v_prim, Pu.v_isi, Pu.v_idx, Pu.v_slc, Pu.v_comp, Pu.o_non, Pu.o_som, Pu.c_non, Pu.c_som, Pu.e_nil, Pu.e_cons, Pu.av_one, Pu.av_cons, Pu.ov_one, Pu.ov_cons, Pu.at_nil, Pu.at_cons, Pu.ot_nil, Pu.ot_cons, Pu.i_seq', Pu.i_rng1, Pu.i_rng2, Pu.i_zip', Pu.i_enum', Pu.t_slot, Pu.t_peek, Pu.t_bl, Pu.t_call, Pu.t_callv, Pu.t_prim, Pu.t_isi, Pu.t_idx, Pu.b_addI, Pu.b_addT, Pu.b_addL, Pu.b_subI, Pu.b_mulI, Pu.b_divI, Pu.b_modI, Pu.c_lt, Pu.c_le, Pu.c_gt, Pu.c_ge, Pu.c_eqI, Pu.c_neI, Pu.c_eqB, Pu.c_neB, Pu.c_isN, Pu.c_notN, Pu.d_bl, Pu.d_int, Pu.u_bl, Pu.u_int, Pu.u_non, Pu.u_tup, Pu.u_lst, Pu.x_tup, Pu.x_lst, Pu.at0, Pu.at1, Pu.at2, Pu.s_some, Pu.s_none, Pu.p_len, Pu.p_lenL, Pu.p_abs, Pu.p_int, Pu.p_all, Pu.p_any, Pu.p_tupL, Pu.p_tupT, Pu.p_lstL, Pu.p_lstT, Pu.q_tup, Pu.q_lst, Pu.q_scr, Pu.s_nil, Pu.s_wipe, Pu.s_freeze, Pu.s_ret, Pu.s_raise, Pu.s_pass, Pu.s_brk, Pu.s_cont, Pu.s_set, Pu.s_setOwn, Pu.own_lst, Pu.s_par, Pu.a_next, Pu.a_ret, Pu.a_brk, Pu.a_cont, Pu.s_iff, Pu.s_for, Pu.s_while, Pu.s_expr, Pu.s_try, Pu.s_aug, Pu.aug_some, Pu.aug_int, Pu.s_app, Pu.app_own, Pu.p_name, Pu.p_tup, Pu.ps_nil, Pu.ps_cons, Pu.v_tp, Pu.tp_val, Pu.tp_cell, Pu.s_tput, Pu.tput_val, Pu.s_tpop, Pu.tpop_val, Pu.s_tnew, Pu.tnew_lst, Pu.z_pure, Pu.z_seed, Pu.z_head, Pu.z_len, Pu.z_pseed, Pu.z_phead, Pu.z_pop, Pu.M.pure_bind, Pu.M.bind_assoc, Pu.M.bind_pure, Pu.M.stuck_bind, Pu.M.throw_bind, Pu.end_bind, Pu.end_ite, Pu.m_ite, Pu.noExc_pure, List.set_cons_zero, List.set_cons_succ, List.getElem?_cons_zero, List.getElem?_cons_succ, List.length_cons, List.length_nil, List.map_cons, List.map_nil, List.cons_append, List.nil_append, Pu.freezeE, Pu.wipeE, Pu.setsE, if_true, if_false, Bool.false_eq_true, reduceIte, Nat.reduceAdd, Nat.reduceSub, Nat.reduceEqDiff, decide_true, decide_false, Bool.not_true, Bool.not_false, Bool.true_and, Bool.and_true, Bool.false_and, Bool.and_false, Bool.true_or, Bool.or_true, Bool.false_or, Bool.or_false, gd_pos m1, gd_pos m3, gd_pos m4, gd_pos m5, gd_pos m6, gd_pos m7, gd_pos m8, gd_pos m9, gd_pos ma, gd_pos mb]
  unfold b_law_0
  simp only [Pu.end_ret, Pu.end_next, Pu.end_stuck, Pu.end_throw, Pu.v_slot0, Pu.v_slotS, Pu.v_peekV, Pu.v_peekO, Pu.v_peekS, Pu.v_non, Pu.v_bl, Pu.v_int, Pu.v_str, Pu.v_const, Pu.v_fn, Pu.v_tup, Pu.v_lst, Pu.v_neg, Pu.v_nott, Pu.t_nott, Pu.v_bin, Pu.v_cmp, Pu.t_cmp', Pu.v_andd, Pu.t_andd, Pu.v_orr, Pu.t_orr, Pu.v_ite, Pu.v_call, Pu.v_callv0, Pu.v_prim, Pu.v_isi, Pu.v_idx, Pu.v_slc, Pu.v_comp, Pu.o_non, Pu.o_som, Pu.c_non, Pu.c_som, Pu.e_nil, Pu.e_cons, Pu.av_one, Pu.av_cons, Pu.ov_one, Pu.ov_cons, Pu.at_nil, Pu.at_cons, Pu.ot_nil, Pu.ot_cons, Pu.i_seq', Pu.i_rng1, Pu.i_rng2, Pu.i_zip', Pu.i_enum', Pu.t_slot, Pu.t_peek, Pu.t_bl, Pu.t_call, Pu.t_callv, Pu.t_prim, Pu.t_isi, Pu.t_idx, Pu.b_addI, Pu.b_addT, Pu.b_addL, Pu.b_subI, Pu.b_mulI, Pu.b_divI, Pu.b_modI, Pu.c_lt, Pu.c_le, Pu.c_gt, Pu.c_ge, Pu.c_eqI, Pu.c_neI, Pu.c_eqB, Pu.c_neB, Pu.c_isN, Pu.c_notN, Pu.d_bl, Pu.d_int, Pu.u_bl, Pu.u_int, Pu.u_non, Pu.u_tup, Pu.u_lst, Pu.x_tup, Pu.x_lst, Pu.at0, Pu.at1, Pu.at2, Pu.s_some, Pu.s_none, Pu.p_len, Pu.p_lenL, Pu.p_abs, Pu.p_int, Pu.p_all, Pu.p_any, Pu.p_tupL, Pu.p_tupT, Pu.p_lstL, Pu.p_lstT, Pu.q_tup, Pu.q_lst, Pu.q_scr, Pu.s_nil, Pu.s_wipe, Pu.s_freeze, Pu.s_ret, Pu.s_raise, Pu.s_pass, Pu.s_brk, Pu.s_cont, Pu.s_set, Pu.s_setOwn, Pu.own_lst, Pu.s_par, Pu.a_next, Pu.a_ret, Pu.a_brk, Pu.a_cont, Pu.s_iff, Pu.s_for, Pu.s_while, Pu.s_expr, Pu.s_try, Pu.s_aug, Pu.aug_some, Pu.aug_int, Pu.s_app, Pu.app_own, Pu.p_name, Pu.p_tup, Pu.ps_nil, Pu.ps_cons, Pu.v_tp, Pu.tp_val, Pu.tp_cell, Pu.s_tput, Pu.tput_val, Pu.s_tpop, Pu.tpop_val, Pu.s_tnew, Pu.tnew_lst, Pu.z_pure, Pu.z_seed, Pu.z_head, Pu.z_len, Pu.z_pseed, Pu.z_phead, Pu.z_pop, Pu.M.pure_bind, Pu.M.bind_assoc, Pu.M.bind_pure, Pu.M.stuck_bind, Pu.M.throw_bind, Pu.end_bind, Pu.end_ite, Pu.m_ite, Pu.noExc_pure, List.set_cons_zero, List.set_cons_succ, List.getElem?_cons_zero, List.getElem?_cons_succ, List.length_cons, List.length_nil, List.map_cons, List.map_nil, List.cons_append, List.nil_append, Pu.freezeE, Pu.wipeE, Pu.setsE, if_true, if_false, Bool.false_eq_true, reduceIte, Nat.reduceAdd, Nat.reduceSub, Nat.reduceEqDiff, decide_true, decide_false, Bool.not_true, Bool.not_false, Bool.true_and, Bool.and_true, Bool.false_and, Bool.and_false, Bool.true_or, Bool.or_true, Bool.false_or, Bool.or_false]
theorem turn_ok (hx : BR 100 x) (hy : BR 100 y) (hidx : idxD ks (.int (i - 1)) = pure (qD y)) (hS : Bd 20000 S) (hB : Bd 20000 Bt) (hl : Bd 20000 Bl) :
    exSs (Gk 39) sb turnB [s0, s1, s2, none, some (.val ks), some (.val (.int S)), some (.val (.int Bt)), some (.val (.int Bl)), some (.val (.int i)), some (.val (qD x)), none, none, none, none, none, none, none, none, none] =
      pure (.next [s0, s1, s2, none, some (.val ks), some (.val (.int (S * x.den * y.den + x.num * y.den * Bl))), some (.val (.int (Bt * x.den * y.den + x.num * y.num * Bl))), some (.val (.int (Bl * x.den * y.den))), none, none, none, none, none, none, none, none, none, none, none]) := by
  rw [turn_a hx hy hidx]
  obtain ⟨rows, h⟩ := turn_b (s0 := s0) (s1 := s1) (s2 := s2) (ks := ks) (S := S) (Bt := Bt) (Bl := Bl) (i := i) hx hy
  rw [h, turn_c hx hy hS hB hl]
end
end K00

namespace K00
open PySem PySem.Spec PyProof.Rows L2 Pu
theorem frac_add (x y : Rat) {S Bl : Int} (hB : Bl ≠ 0) : Rat.divInt (S * x.den * y.den + x.num * y.den * Bl) (Bl * x.den * y.den) = Rat.divInt S Bl + x := by
  have hx := den_ne x
  have hy := den_ne y
  conv => rhs; rw [← rat_eq x, Rat.divInt_add_divInt _ _ hB hx]
  rw [Rat.divInt_eq_divInt_iff (Int.mul_ne_zero (Int.mul_ne_zero hB hx) hy) (Int.mul_ne_zero hB hx)]
  grind
theorem frac_mul (x y : Rat) {S Bl : Int} (hB : Bl ≠ 0) : Rat.divInt (S * x.den * y.den + x.num * y.num * Bl) (Bl * x.den * y.den) = Rat.divInt S Bl + x * y := by
  have hx := den_ne x
  have hy := den_ne y
  conv => rhs; rw [← rat_mul x y, Rat.divInt_add_divInt _ _ hB (den2 x y)]
  rw [Rat.divInt_eq_divInt_iff (Int.mul_ne_zero (Int.mul_ne_zero hB hx) hy) (Int.mul_ne_zero hB (den2 x y))]
  grind
theorem main_loop {s0 s1 s2 : Option SV} {ks : D} : ∀ (xs ys : List Rat) (n : Nat) (S Bt Bl : Int), xs.length = ys.length → (∀ x ∈ xs, BR 100 x) → (∀ y ∈ ys, BR 100 y) → n + xs.length ≤ 90 →
    (∀ (j : Nat) (y : Rat), ys[j]? = some y → idxD ks (.int (((n + j : Nat) : Int) - 1)) = pure (qD y)) → Bd (201 * n + 1) S → Bd (201 * n + 1) Bt → Bd (201 * n + 1) Bl → Bl ≠ 0 →
    ∃ S' Bt' Bl' : Int, Pu.forM (.tup [(.name 8), (.name 9)]) (exSs (Gk 39) sb turnB) (enumL n (xs.map qD)) [s0, s1, s2, none, some (.val ks), some (.val (.int S)), some (.val (.int Bt)), some (.val (.int Bl)), none, none, none, none, none, none, none, none, none, none, none] =
      pure (.next [s0, s1, s2, none, some (.val ks), some (.val (.int S')), some (.val (.int Bt')), some (.val (.int Bl')), none, none, none, none, none, none, none, none, none, none, none]) ∧
      Bl' ≠ 0 ∧ Bd 20000 S' ∧ Bd 20000 Bt' ∧ Bd 20000 Bl' ∧ Rat.divInt S' Bl' = xs.foldl (· + ·) (Rat.divInt S Bl) ∧ Rat.divInt Bt' Bl' = dotR (Rat.divInt Bt Bl) xs ys
  | [], [], n, S, Bt, Bl, _, _, _, hn, _, hS, hB, hl, h0 => by
    rw [List.length_nil] at hn
    exact ⟨S, Bt, Bl, rfl, h0, hS.mono (by omega), hB.mono (by omega), hl.mono (by omega), rfl, rfl⟩
  | [], y :: ys, _, _, _, _, h, _, _, _, _, _, _, _, _ => by cases h
  | x :: xs, [], _, _, _, _, h, _, _, _, _, _, _, _, _ => by cases h
  | x :: xs, y :: ys, n, S, Bt, Bl, hlen, hx, hy, hn, hi, hS, hB, hl, h0 => by
    rw [List.length_cons] at hn
    have h1 := hx x List.mem_cons_self
    have h2 := hy y List.mem_cons_self
    have hidx := hi 0 y rfl
    rw [Nat.add_zero] at hidx
    have e1 : 201 * n + 1 + 100 + 100 = 201 * n + 201 := by omega
    have hS' : Bd (201 * (n + 1) + 1) (S * x.den * y.den + x.num * y.den * Bl) := (Bd.add ((hS.mul h1.2).mul h2.2) (((h1.1.mul h2.2).mul hl).mono (by omega))).mono (by omega)
    have hB' : Bd (201 * (n + 1) + 1) (Bt * x.den * y.den + x.num * y.num * Bl) := (Bd.add ((hB.mul h1.2).mul h2.2) (((h1.1.mul h2.1).mul hl).mono (by omega))).mono (by omega)
    have hl' : Bd (201 * (n + 1) + 1) (Bl * x.den * y.den) := ((hl.mul h1.2).mul h2.2).mono (by omega)
    obtain ⟨S', Bt', Bl', e, q1, q2, q3, q4, q5, q6⟩ := main_loop xs ys (n + 1) _ _ _ (by simpa using hlen) (fun z hz => hx z (List.mem_cons_of_mem _ hz)) (fun z hz => hy z (List.mem_cons_of_mem _ hz)) (by omega)
      (fun j z hz => by have := hi (j + 1) z (by simpa using hz); rw [show n + (j + 1) = n + 1 + j by omega] at this; exact this) hS' hB' hl' (Int.mul_ne_zero (Int.mul_ne_zero h0 (den_ne x)) (den_ne y))
    refine ⟨S', Bt', Bl', ?_, q1, q2, q3, q4, ?_, ?_⟩
    · rw [List.map_cons]
      unfold enumL
      rw [forM_cons]
      simp only [Pu.end_ret, Pu.end_next, Pu.end_stuck, Pu.end_throw, Pu.v_slot0, Pu.v_slotS, Pu.v_peekV, Pu.v_peekO, Pu.v_peekS, Pu.v_non, Pu.v_bl, Pu.v_int, Pu.v_str, Pu.v_const, Pu.v_fn, Pu.v_tup, Pu.v_lst, Pu.v_neg, Pu.v_nott, Pu.t_nott, Pu.v_bin, Pu.v_cmp, Pu.t_cmp', Pu.v_andd, Pu.t_andd, Pu.v_orr, Pu.t_orr, Pu.v_ite, Pu.v_call, Pu.v_callv0, Pu.v_prim, Pu.v_isi, Pu.v_idx, Pu.v_slc, Pu.v_comp, Pu.o_non, Pu.o_som, Pu.c_non, Pu.c_som, Pu.e_nil, Pu.e_cons, Pu.av_one, Pu.av_cons, Pu.ov_one, Pu.ov_cons, Pu.at_nil, Pu.at_cons, Pu.ot_nil, Pu.ot_cons, Pu.i_seq', Pu.i_rng1, Pu.i_rng2, Pu.i_zip', Pu.i_enum', Pu.t_slot, Pu.t_peek, Pu.t_bl, Pu.t_call, Pu.t_callv, Pu.t_prim, Pu.t_isi, Pu.t_idx, Pu.b_addI, Pu.b_addT, Pu.b_addL, Pu.b_subI, Pu.b_mulI, Pu.b_divI, Pu.b_modI, Pu.c_lt, Pu.c_le, Pu.c_gt, Pu.c_ge, Pu.c_eqI, Pu.c_neI, Pu.c_eqB, Pu.c_neB, Pu.c_isN, Pu.c_notN, Pu.d_bl, Pu.d_int, Pu.u_bl, Pu.u_int, Pu.u_non, Pu.u_tup, Pu.u_lst, Pu.x_tup, Pu.x_lst, Pu.at0, Pu.at1, Pu.at2, Pu.s_some, Pu.s_none, Pu.p_len, Pu.p_lenL, Pu.p_abs, Pu.p_int, Pu.p_all, Pu.p_any, Pu.p_tupL, Pu.p_tupT, Pu.p_lstL, Pu.p_lstT, Pu.q_tup, Pu.q_lst, Pu.q_scr, Pu.s_nil, Pu.s_wipe, Pu.s_freeze, Pu.s_ret, Pu.s_raise, Pu.s_pass, Pu.s_brk, Pu.s_cont, Pu.s_set, Pu.s_setOwn, Pu.own_lst, Pu.s_par, Pu.a_next, Pu.a_ret, Pu.a_brk, Pu.a_cont, Pu.s_iff, Pu.s_for, Pu.s_while, Pu.s_expr, Pu.s_try, Pu.s_aug, Pu.aug_some, Pu.aug_int, Pu.s_app, Pu.app_own, Pu.p_name, Pu.p_tup, Pu.ps_nil, Pu.ps_cons, Pu.v_tp, Pu.tp_val, Pu.tp_cell, Pu.s_tput, Pu.tput_val, Pu.s_tpop, Pu.tpop_val, Pu.s_tnew, Pu.tnew_lst, Pu.z_pure, Pu.z_seed, Pu.z_head, Pu.z_len, Pu.z_pseed, Pu.z_phead, Pu.z_pop, Pu.M.pure_bind, Pu.M.bind_assoc, Pu.M.bind_pure, Pu.M.stuck_bind, Pu.M.throw_bind, Pu.end_bind, Pu.end_ite, Pu.m_ite, Pu.noExc_pure, List.set_cons_zero, List.set_cons_succ, List.getElem?_cons_zero, List.getElem?_cons_succ, List.length_cons, List.length_nil, List.map_cons, List.map_nil, List.cons_append, List.nil_append, Pu.freezeE, Pu.wipeE, Pu.setsE, if_true, if_false, Bool.false_eq_true, reduceIte, Nat.reduceAdd, Nat.reduceSub, Nat.reduceEqDiff, decide_true, decide_false, Bool.not_true, Bool.not_false, Bool.true_and, Bool.and_true, Bool.false_and, Bool.and_false, Bool.true_or, Bool.or_true, Bool.false_or, Bool.or_false, turn_ok h1 h2 hidx (hS.mono (by omega)) (hB.mono (by omega)) (hl.mono (by omega))]
      rw [show ((n : Int) + 1) = ((n + 1 : Nat) : Int) by omega]
      exact e
    · rw [q5, frac_add x y h0]; rfl
    · rw [q6, frac_mul x y h0]; rfl
theorem slc_last (is : List Rat) (l : Rat) : slcD (.lst ((is ++ [l]).map qD)) (some (-1)) none = pure (.lst [qD l]) := by
  show pure (D.lst (Pu.cutD ((is ++ [l]).map qD) (some (-1)) none)) = _
  unfold Pu.cutD HT.sIx
  have hL : ((is ++ [l]).map qD).length = is.length + 1 := by simp
  rw [hL]
  simp only [show ((-1 : Int) < 0) from by decide, if_true, show (-1 + ((is.length + 1 : Nat) : Int)).toNat = is.length by omega, show is.length + 1 - is.length = 1 by omega, List.map_append, List.map_cons, List.map_nil]
  rw [List.drop_append_of_le_length (by simp), List.drop_of_length_le (by simp)]
  rfl
theorem slc_init (is : List Rat) (l : Rat) : slcD (.lst ((is ++ [l]).map qD)) none (some (-1)) = pure (.lst (is.map qD)) := by
  show pure (D.lst (Pu.cutD ((is ++ [l]).map qD) none (some (-1)))) = _
  unfold Pu.cutD HT.sIx
  have hL : ((is ++ [l]).map qD).length = is.length + 1 := by simp
  rw [hL]
  simp only [show ((-1 : Int) < 0) from by decide, if_true, show (-1 + ((is.length + 1 : Nat) : Int)).toNat = is.length by omega, Nat.sub_zero, List.drop_zero, List.map_append, List.map_cons, List.map_nil]
  rw [List.take_append_of_le_length (by simp), List.take_of_length_le (by simp)]
theorem rot_idx (is : List Rat) (l : Rat) (j : Nat) (y : Rat) (h : (l :: is)[j]? = some y) : idxD (.lst ((is ++ [l]).map qD)) (.int (((0 + j : Nat) : Int) - 1)) = pure (qD y) := by
  cases j with
  | zero =>
    have : l = y := by simpa using h
    subst this
    show ofOpt (atI ((is ++ [l]).map qD) _) = _
    rw [List.map_append]
    show ofOpt (atI (is.map qD ++ [qD l]) (-1)) = _
    rw [atI_last]
    rfl
  | succ j =>
    have h : is[j]? = some y := by simpa using h
    have hj : j < is.length := (List.getElem?_eq_some_iff.mp h).1
    show ofOpt (atI ((is ++ [l]).map qD) _) = _
    rw [show (((0 + (j + 1) : Nat) : Int) - 1) = (j : Int) by omega, atI_nat (v := qD y) (by rw [List.getElem?_map, List.getElem?_append_left hj, h]; rfl)]
    rfl
end K00

namespace K00
open PySem PySem.Spec PyProof.Rows L2 Pu
theorem same_zero : callF T 39 "_law_same" [qD 0, qD 0] = pure (.bl true) := by
  funext t
  have : callF T 39 "_law_same" [qD 0, qD 0] t = .ok (.bl true) t := by kernel_rfl
  exact this
theorem same_one : callF T 39 "_law_same" [qD 1, qD 1] = pure (.bl true) := by
  funext t
  have : callF T 39 "_law_same" [qD 1, qD 1] t = .ok (.bl true) t := by kernel_rfl
  exact this
theorem odd_all : callF T 39 "_law_odd" [] = pure (.bl true) := by
  funext t
  have : callF T 39 "_law_odd" [] t = .ok (.bl true) t := by kernel_rfl
  exact this
def rk (p : Int × Int) : Rat := Rat.divInt p.1 p.2
theorem rk_ok {p : Int × Int} (h : PrOk p) : BR 100 (rk p) := BR.div h.2.2 h.1 h.2.1
theorem fold_br : ∀ (xs : List Rat) (acc : Rat) (n : Nat), BR n acc → (∀ x ∈ xs, BR 100 x) → BR (n + 101 * xs.length) (xs.foldl (· + ·) acc)
  | [], acc, n, h, _ => h
  | x :: xs, acc, n, h, hx => by
    have := fold_br xs (acc + x) (n + 100 + 1) (h.add' (hx x List.mem_cons_self)) fun y hy => hx y (List.mem_cons_of_mem _ hy)
    exact this.mono (by rw [List.length_cons]; omega)
theorem dot_br : ∀ (xs ys : List Rat) (acc : Rat) (n : Nat), BR n acc → (∀ x ∈ xs, BR 100 x) → (∀ x ∈ ys, BR 100 x) → BR (n + 201 * xs.length) (dotR acc xs ys)
  | [], ys, acc, n, h, _, _ => by cases ys <;> exact h
  | x :: xs, [], acc, n, h, _, _ => h.mono (by omega)
  | x :: xs, y :: ys, acc, n, h, hx, hy => by
    have := dot_br xs ys (acc + x * y) (n + 200 + 1) (h.add' ((hx x List.mem_cons_self).mul (hy y List.mem_cons_self))) (fun z hz => hx z (List.mem_cons_of_mem _ hz)) fun z hz => hy z (List.mem_cons_of_mem _ hz)
    exact this.mono (by rw [List.length_cons]; omega)
theorem tail_ok {s0 s1 z : Option SV} (ps : List (Int × Int)) (hp : ∀ p ∈ ps, PrOk p) (h2 : 2 ≤ ps.length) (h5 : ps.length ≤ 5) :
    endD (exSs (Gk 39) sb b_law_14 [s0, s1, some (.own (ps.map prD)), none, none, none, none, z, none, none, none, none, none, none, none, none, none, none, none]) = pure (.bl true) := by
  have hln : ps.length ≤ sizeLine := Nat.le_trans h5 (by decide)
  have hbr : ∀ x ∈ ps.map rk, BR 100 x := fun x hx => by
    obtain ⟨p, hp', rfl⟩ := List.mem_map.mp hx
    exact rk_ok (hp p hp')
  unfold b_law_14
  simp only [Pu.end_ret, Pu.end_next, Pu.end_stuck, Pu.end_throw, Pu.v_slot0, Pu.v_slotS, Pu.v_peekV, Pu.v_peekO, Pu.v_peekS, Pu.v_non, Pu.v_bl, Pu.v_int, Pu.v_str, Pu.v_const, Pu.v_fn, Pu.v_tup, Pu.v_lst, Pu.v_neg, Pu.v_nott, Pu.t_nott, Pu.v_bin, Pu.v_cmp, Pu.t_cmp', Pu.v_andd, Pu.t_andd, Pu.v_orr, Pu.t_orr, Pu.v_ite, Pu.v_call, Pu.v_callv0, Pu.v_prim, Pu.v_isi, Pu.v_idx, Pu.v_slc, Pu.v_comp, Pu.o_non, Pu.o_som, Pu.c_non, Pu.c_som, Pu.e_nil, Pu.e_cons, Pu.av_one, Pu.av_cons, Pu.ov_one, Pu.ov_cons, Pu.at_nil, Pu.at_cons, Pu.ot_nil, Pu.ot_cons, Pu.i_seq', Pu.i_rng1, Pu.i_rng2, Pu.i_zip', Pu.i_enum', Pu.t_slot, Pu.t_peek, Pu.t_bl, Pu.t_call, Pu.t_callv, Pu.t_prim, Pu.t_isi, Pu.t_idx, Pu.b_addI, Pu.b_addT, Pu.b_addL, Pu.b_subI, Pu.b_mulI, Pu.b_divI, Pu.b_modI, Pu.c_lt, Pu.c_le, Pu.c_gt, Pu.c_ge, Pu.c_eqI, Pu.c_neI, Pu.c_eqB, Pu.c_neB, Pu.c_isN, Pu.c_notN, Pu.d_bl, Pu.d_int, Pu.u_bl, Pu.u_int, Pu.u_non, Pu.u_tup, Pu.u_lst, Pu.x_tup, Pu.x_lst, Pu.at0, Pu.at1, Pu.at2, Pu.s_some, Pu.s_none, Pu.p_len, Pu.p_lenL, Pu.p_abs, Pu.p_int, Pu.p_all, Pu.p_any, Pu.p_tupL, Pu.p_tupT, Pu.p_lstL, Pu.p_lstT, Pu.q_tup, Pu.q_lst, Pu.q_scr, Pu.s_nil, Pu.s_wipe, Pu.s_freeze, Pu.s_ret, Pu.s_raise, Pu.s_pass, Pu.s_brk, Pu.s_cont, Pu.s_set, Pu.s_setOwn, Pu.own_lst, Pu.s_par, Pu.a_next, Pu.a_ret, Pu.a_brk, Pu.a_cont, Pu.s_iff, Pu.s_for, Pu.s_while, Pu.s_expr, Pu.s_try, Pu.s_aug, Pu.aug_some, Pu.aug_int, Pu.s_app, Pu.app_own, Pu.p_name, Pu.p_tup, Pu.ps_nil, Pu.ps_cons, Pu.v_tp, Pu.tp_val, Pu.tp_cell, Pu.s_tput, Pu.tput_val, Pu.s_tpop, Pu.tpop_val, Pu.s_tnew, Pu.tnew_lst, Pu.z_pure, Pu.z_seed, Pu.z_head, Pu.z_len, Pu.z_pseed, Pu.z_phead, Pu.z_pop, Pu.M.pure_bind, Pu.M.bind_assoc, Pu.M.bind_pure, Pu.M.stuck_bind, Pu.M.throw_bind, Pu.end_bind, Pu.end_ite, Pu.m_ite, Pu.noExc_pure, List.set_cons_zero, List.set_cons_succ, List.getElem?_cons_zero, List.getElem?_cons_succ, List.length_cons, List.length_nil, List.map_cons, List.map_nil, List.cons_append, List.nil_append, Pu.freezeE, Pu.wipeE, Pu.setsE, if_true, if_false, Bool.false_eq_true, reduceIte, Nat.reduceAdd, Nat.reduceSub, Nat.reduceEqDiff, decide_true, decide_false, Bool.not_true, Bool.not_false, Bool.true_and, Bool.and_true, Bool.false_and, Bool.and_false, Bool.true_or, Bool.or_true, Bool.false_or, Bool.or_false]
  rw [compM_on prD (fun p => qD (rk p)) ps (fun p hq => ?_) hln]
  rotate_left
  · obtain ⟨q1, q2, q3⟩ := hp p hq
    simp only [compF, P.slots, P.slotss, prD, Pu.end_ret, Pu.end_next, Pu.end_stuck, Pu.end_throw, Pu.v_slot0, Pu.v_slotS, Pu.v_peekV, Pu.v_peekO, Pu.v_peekS, Pu.v_non, Pu.v_bl, Pu.v_int, Pu.v_str, Pu.v_const, Pu.v_fn, Pu.v_tup, Pu.v_lst, Pu.v_neg, Pu.v_nott, Pu.t_nott, Pu.v_bin, Pu.v_cmp, Pu.t_cmp', Pu.v_andd, Pu.t_andd, Pu.v_orr, Pu.t_orr, Pu.v_ite, Pu.v_call, Pu.v_callv0, Pu.v_prim, Pu.v_isi, Pu.v_idx, Pu.v_slc, Pu.v_comp, Pu.o_non, Pu.o_som, Pu.c_non, Pu.c_som, Pu.e_nil, Pu.e_cons, Pu.av_one, Pu.av_cons, Pu.ov_one, Pu.ov_cons, Pu.at_nil, Pu.at_cons, Pu.ot_nil, Pu.ot_cons, Pu.i_seq', Pu.i_rng1, Pu.i_rng2, Pu.i_zip', Pu.i_enum', Pu.t_slot, Pu.t_peek, Pu.t_bl, Pu.t_call, Pu.t_callv, Pu.t_prim, Pu.t_isi, Pu.t_idx, Pu.b_addI, Pu.b_addT, Pu.b_addL, Pu.b_subI, Pu.b_mulI, Pu.b_divI, Pu.b_modI, Pu.c_lt, Pu.c_le, Pu.c_gt, Pu.c_ge, Pu.c_eqI, Pu.c_neI, Pu.c_eqB, Pu.c_neB, Pu.c_isN, Pu.c_notN, Pu.d_bl, Pu.d_int, Pu.u_bl, Pu.u_int, Pu.u_non, Pu.u_tup, Pu.u_lst, Pu.x_tup, Pu.x_lst, Pu.at0, Pu.at1, Pu.at2, Pu.s_some, Pu.s_none, Pu.p_len, Pu.p_lenL, Pu.p_abs, Pu.p_int, Pu.p_all, Pu.p_any, Pu.p_tupL, Pu.p_tupT, Pu.p_lstL, Pu.p_lstT, Pu.q_tup, Pu.q_lst, Pu.q_scr, Pu.s_nil, Pu.s_wipe, Pu.s_freeze, Pu.s_ret, Pu.s_raise, Pu.s_pass, Pu.s_brk, Pu.s_cont, Pu.s_set, Pu.s_setOwn, Pu.own_lst, Pu.s_par, Pu.a_next, Pu.a_ret, Pu.a_brk, Pu.a_cont, Pu.s_iff, Pu.s_for, Pu.s_while, Pu.s_expr, Pu.s_try, Pu.s_aug, Pu.aug_some, Pu.aug_int, Pu.s_app, Pu.app_own, Pu.p_name, Pu.p_tup, Pu.ps_nil, Pu.ps_cons, Pu.v_tp, Pu.tp_val, Pu.tp_cell, Pu.s_tput, Pu.tput_val, Pu.s_tpop, Pu.tpop_val, Pu.s_tnew, Pu.tnew_lst, Pu.z_pure, Pu.z_seed, Pu.z_head, Pu.z_len, Pu.z_pseed, Pu.z_phead, Pu.z_pop, Pu.M.pure_bind, Pu.M.bind_assoc, Pu.M.bind_pure, Pu.M.stuck_bind, Pu.M.throw_bind, Pu.end_bind, Pu.end_ite, Pu.m_ite, Pu.noExc_pure, List.set_cons_zero, List.set_cons_succ, List.getElem?_cons_zero, List.getElem?_cons_succ, List.length_cons, List.length_nil, List.map_cons, List.map_nil, List.cons_append, List.nil_append, Pu.freezeE, Pu.wipeE, Pu.setsE, if_true, if_false, Bool.false_eq_true, reduceIte, Nat.reduceAdd, Nat.reduceSub, Nat.reduceEqDiff, decide_true, decide_false, Bool.not_true, Bool.not_false, Bool.true_and, Bool.and_true, Bool.false_and, Bool.and_false, Bool.true_or, Bool.or_true, Bool.false_or, Bool.or_false, Gk_call, make_ok 37 p.1 p.2 q3 (q2.mono (by decide))]
    rfl
  simp only [Pu.end_ret, Pu.end_next, Pu.end_stuck, Pu.end_throw, Pu.v_slot0, Pu.v_slotS, Pu.v_peekV, Pu.v_peekO, Pu.v_peekS, Pu.v_non, Pu.v_bl, Pu.v_int, Pu.v_str, Pu.v_const, Pu.v_fn, Pu.v_tup, Pu.v_lst, Pu.v_neg, Pu.v_nott, Pu.t_nott, Pu.v_bin, Pu.v_cmp, Pu.t_cmp', Pu.v_andd, Pu.t_andd, Pu.v_orr, Pu.t_orr, Pu.v_ite, Pu.v_call, Pu.v_callv0, Pu.v_prim, Pu.v_isi, Pu.v_idx, Pu.v_slc, Pu.v_comp, Pu.o_non, Pu.o_som, Pu.c_non, Pu.c_som, Pu.e_nil, Pu.e_cons, Pu.av_one, Pu.av_cons, Pu.ov_one, Pu.ov_cons, Pu.at_nil, Pu.at_cons, Pu.ot_nil, Pu.ot_cons, Pu.i_seq', Pu.i_rng1, Pu.i_rng2, Pu.i_zip', Pu.i_enum', Pu.t_slot, Pu.t_peek, Pu.t_bl, Pu.t_call, Pu.t_callv, Pu.t_prim, Pu.t_isi, Pu.t_idx, Pu.b_addI, Pu.b_addT, Pu.b_addL, Pu.b_subI, Pu.b_mulI, Pu.b_divI, Pu.b_modI, Pu.c_lt, Pu.c_le, Pu.c_gt, Pu.c_ge, Pu.c_eqI, Pu.c_neI, Pu.c_eqB, Pu.c_neB, Pu.c_isN, Pu.c_notN, Pu.d_bl, Pu.d_int, Pu.u_bl, Pu.u_int, Pu.u_non, Pu.u_tup, Pu.u_lst, Pu.x_tup, Pu.x_lst, Pu.at0, Pu.at1, Pu.at2, Pu.s_some, Pu.s_none, Pu.p_len, Pu.p_lenL, Pu.p_abs, Pu.p_int, Pu.p_all, Pu.p_any, Pu.p_tupL, Pu.p_tupT, Pu.p_lstL, Pu.p_lstT, Pu.q_tup, Pu.q_lst, Pu.q_scr, Pu.s_nil, Pu.s_wipe, Pu.s_freeze, Pu.s_ret, Pu.s_raise, Pu.s_pass, Pu.s_brk, Pu.s_cont, Pu.s_set, Pu.s_setOwn, Pu.own_lst, Pu.s_par, Pu.a_next, Pu.a_ret, Pu.a_brk, Pu.a_cont, Pu.s_iff, Pu.s_for, Pu.s_while, Pu.s_expr, Pu.s_try, Pu.s_aug, Pu.aug_some, Pu.aug_int, Pu.s_app, Pu.app_own, Pu.p_name, Pu.p_tup, Pu.ps_nil, Pu.ps_cons, Pu.v_tp, Pu.tp_val, Pu.tp_cell, Pu.s_tput, Pu.tput_val, Pu.s_tpop, Pu.tpop_val, Pu.s_tnew, Pu.tnew_lst, Pu.z_pure, Pu.z_seed, Pu.z_head, Pu.z_len, Pu.z_pseed, Pu.z_phead, Pu.z_pop, Pu.M.pure_bind, Pu.M.bind_assoc, Pu.M.bind_pure, Pu.M.stuck_bind, Pu.M.throw_bind, Pu.end_bind, Pu.end_ite, Pu.m_ite, Pu.noExc_pure, List.set_cons_zero, List.set_cons_succ, List.getElem?_cons_zero, List.getElem?_cons_succ, List.length_cons, List.length_nil, List.map_cons, List.map_nil, List.cons_append, List.nil_append, Pu.freezeE, Pu.wipeE, Pu.setsE, if_true, if_false, Bool.false_eq_true, reduceIte, Nat.reduceAdd, Nat.reduceSub, Nat.reduceEqDiff, decide_true, decide_false, Bool.not_true, Bool.not_false, Bool.true_and, Bool.and_true, Bool.false_and, Bool.and_false, Bool.true_or, Bool.or_true, Bool.false_or, Bool.or_false]
  unfold b_law_13
  simp only [Pu.end_ret, Pu.end_next, Pu.end_stuck, Pu.end_throw, Pu.v_slot0, Pu.v_slotS, Pu.v_peekV, Pu.v_peekO, Pu.v_peekS, Pu.v_non, Pu.v_bl, Pu.v_int, Pu.v_str, Pu.v_const, Pu.v_fn, Pu.v_tup, Pu.v_lst, Pu.v_neg, Pu.v_nott, Pu.t_nott, Pu.v_bin, Pu.v_cmp, Pu.t_cmp', Pu.v_andd, Pu.t_andd, Pu.v_orr, Pu.t_orr, Pu.v_ite, Pu.v_call, Pu.v_callv0, Pu.v_prim, Pu.v_isi, Pu.v_idx, Pu.v_slc, Pu.v_comp, Pu.o_non, Pu.o_som, Pu.c_non, Pu.c_som, Pu.e_nil, Pu.e_cons, Pu.av_one, Pu.av_cons, Pu.ov_one, Pu.ov_cons, Pu.at_nil, Pu.at_cons, Pu.ot_nil, Pu.ot_cons, Pu.i_seq', Pu.i_rng1, Pu.i_rng2, Pu.i_zip', Pu.i_enum', Pu.t_slot, Pu.t_peek, Pu.t_bl, Pu.t_call, Pu.t_callv, Pu.t_prim, Pu.t_isi, Pu.t_idx, Pu.b_addI, Pu.b_addT, Pu.b_addL, Pu.b_subI, Pu.b_mulI, Pu.b_divI, Pu.b_modI, Pu.c_lt, Pu.c_le, Pu.c_gt, Pu.c_ge, Pu.c_eqI, Pu.c_neI, Pu.c_eqB, Pu.c_neB, Pu.c_isN, Pu.c_notN, Pu.d_bl, Pu.d_int, Pu.u_bl, Pu.u_int, Pu.u_non, Pu.u_tup, Pu.u_lst, Pu.x_tup, Pu.x_lst, Pu.at0, Pu.at1, Pu.at2, Pu.s_some, Pu.s_none, Pu.p_len, Pu.p_lenL, Pu.p_abs, Pu.p_int, Pu.p_all, Pu.p_any, Pu.p_tupL, Pu.p_tupT, Pu.p_lstL, Pu.p_lstT, Pu.q_tup, Pu.q_lst, Pu.q_scr, Pu.s_nil, Pu.s_wipe, Pu.s_freeze, Pu.s_ret, Pu.s_raise, Pu.s_pass, Pu.s_brk, Pu.s_cont, Pu.s_set, Pu.s_setOwn, Pu.own_lst, Pu.s_par, Pu.a_next, Pu.a_ret, Pu.a_brk, Pu.a_cont, Pu.s_iff, Pu.s_for, Pu.s_while, Pu.s_expr, Pu.s_try, Pu.s_aug, Pu.aug_some, Pu.aug_int, Pu.s_app, Pu.app_own, Pu.p_name, Pu.p_tup, Pu.ps_nil, Pu.ps_cons, Pu.v_tp, Pu.tp_val, Pu.tp_cell, Pu.s_tput, Pu.tput_val, Pu.s_tpop, Pu.tpop_val, Pu.s_tnew, Pu.tnew_lst, Pu.z_pure, Pu.z_seed, Pu.z_head, Pu.z_len, Pu.z_pseed, Pu.z_phead, Pu.z_pop, Pu.M.pure_bind, Pu.M.bind_assoc, Pu.M.bind_pure, Pu.M.stuck_bind, Pu.M.throw_bind, Pu.end_bind, Pu.end_ite, Pu.m_ite, Pu.noExc_pure, List.set_cons_zero, List.set_cons_succ, List.getElem?_cons_zero, List.getElem?_cons_succ, List.length_cons, List.length_nil, List.map_cons, List.map_nil, List.cons_append, List.nil_append, Pu.freezeE, Pu.wipeE, Pu.setsE, if_true, if_false, Bool.false_eq_true, reduceIte, Nat.reduceAdd, Nat.reduceSub, Nat.reduceEqDiff, decide_true, decide_false, Bool.not_true, Bool.not_false, Bool.true_and, Bool.and_true, Bool.false_and, Bool.and_false, Bool.true_or, Bool.or_true, Bool.false_or, Bool.or_false, zipD]
  rw [zipL_map (fun p => qD (rk p)) prD ps]
  rw [compM_on (fun p : Int × Int => D.tup [qD (rk p), prD p]) (fun _ => D.bl true) ps (fun p hq => ?_) hln]
  rotate_left
  · obtain ⟨q1, q2, q3⟩ := hp p hq
    simp only [compF, P.slots, P.slotss, prD, Pu.end_ret, Pu.end_next, Pu.end_stuck, Pu.end_throw, Pu.v_slot0, Pu.v_slotS, Pu.v_peekV, Pu.v_peekO, Pu.v_peekS, Pu.v_non, Pu.v_bl, Pu.v_int, Pu.v_str, Pu.v_const, Pu.v_fn, Pu.v_tup, Pu.v_lst, Pu.v_neg, Pu.v_nott, Pu.t_nott, Pu.v_bin, Pu.v_cmp, Pu.t_cmp', Pu.v_andd, Pu.t_andd, Pu.v_orr, Pu.t_orr, Pu.v_ite, Pu.v_call, Pu.v_callv0, Pu.v_prim, Pu.v_isi, Pu.v_idx, Pu.v_slc, Pu.v_comp, Pu.o_non, Pu.o_som, Pu.c_non, Pu.c_som, Pu.e_nil, Pu.e_cons, Pu.av_one, Pu.av_cons, Pu.ov_one, Pu.ov_cons, Pu.at_nil, Pu.at_cons, Pu.ot_nil, Pu.ot_cons, Pu.i_seq', Pu.i_rng1, Pu.i_rng2, Pu.i_zip', Pu.i_enum', Pu.t_slot, Pu.t_peek, Pu.t_bl, Pu.t_call, Pu.t_callv, Pu.t_prim, Pu.t_isi, Pu.t_idx, Pu.b_addI, Pu.b_addT, Pu.b_addL, Pu.b_subI, Pu.b_mulI, Pu.b_divI, Pu.b_modI, Pu.c_lt, Pu.c_le, Pu.c_gt, Pu.c_ge, Pu.c_eqI, Pu.c_neI, Pu.c_eqB, Pu.c_neB, Pu.c_isN, Pu.c_notN, Pu.d_bl, Pu.d_int, Pu.u_bl, Pu.u_int, Pu.u_non, Pu.u_tup, Pu.u_lst, Pu.x_tup, Pu.x_lst, Pu.at0, Pu.at1, Pu.at2, Pu.s_some, Pu.s_none, Pu.p_len, Pu.p_lenL, Pu.p_abs, Pu.p_int, Pu.p_all, Pu.p_any, Pu.p_tupL, Pu.p_tupT, Pu.p_lstL, Pu.p_lstT, Pu.q_tup, Pu.q_lst, Pu.q_scr, Pu.s_nil, Pu.s_wipe, Pu.s_freeze, Pu.s_ret, Pu.s_raise, Pu.s_pass, Pu.s_brk, Pu.s_cont, Pu.s_set, Pu.s_setOwn, Pu.own_lst, Pu.s_par, Pu.a_next, Pu.a_ret, Pu.a_brk, Pu.a_cont, Pu.s_iff, Pu.s_for, Pu.s_while, Pu.s_expr, Pu.s_try, Pu.s_aug, Pu.aug_some, Pu.aug_int, Pu.s_app, Pu.app_own, Pu.p_name, Pu.p_tup, Pu.ps_nil, Pu.ps_cons, Pu.v_tp, Pu.tp_val, Pu.tp_cell, Pu.s_tput, Pu.tput_val, Pu.s_tpop, Pu.tpop_val, Pu.s_tnew, Pu.tnew_lst, Pu.z_pure, Pu.z_seed, Pu.z_head, Pu.z_len, Pu.z_pseed, Pu.z_phead, Pu.z_pop, Pu.M.pure_bind, Pu.M.bind_assoc, Pu.M.bind_pure, Pu.M.stuck_bind, Pu.M.throw_bind, Pu.end_bind, Pu.end_ite, Pu.m_ite, Pu.noExc_pure, List.set_cons_zero, List.set_cons_succ, List.getElem?_cons_zero, List.getElem?_cons_succ, List.length_cons, List.length_nil, List.map_cons, List.map_nil, List.cons_append, List.nil_append, Pu.freezeE, Pu.wipeE, Pu.setsE, if_true, if_false, Bool.false_eq_true, reduceIte, Nat.reduceAdd, Nat.reduceSub, Nat.reduceEqDiff, decide_true, decide_false, Bool.not_true, Bool.not_false, Bool.true_and, Bool.and_true, Bool.false_and, Bool.and_false, Bool.true_or, Bool.or_true, Bool.false_or, Bool.or_false, Gk_call, isd_ok 37 q3 (rfl : rk p = Rat.divInt p.1 p.2) ((rk_ok (hp p hq)).mono (by decide)) (q1.mono (by decide)) (q2.mono (by decide))]
  simp only [Pu.end_ret, Pu.end_next, Pu.end_stuck, Pu.end_throw, Pu.v_slot0, Pu.v_slotS, Pu.v_peekV, Pu.v_peekO, Pu.v_peekS, Pu.v_non, Pu.v_bl, Pu.v_int, Pu.v_str, Pu.v_const, Pu.v_fn, Pu.v_tup, Pu.v_lst, Pu.v_neg, Pu.v_nott, Pu.t_nott, Pu.v_bin, Pu.v_cmp, Pu.t_cmp', Pu.v_andd, Pu.t_andd, Pu.v_orr, Pu.t_orr, Pu.v_ite, Pu.v_call, Pu.v_callv0, Pu.v_prim, Pu.v_isi, Pu.v_idx, Pu.v_slc, Pu.v_comp, Pu.o_non, Pu.o_som, Pu.c_non, Pu.c_som, Pu.e_nil, Pu.e_cons, Pu.av_one, Pu.av_cons, Pu.ov_one, Pu.ov_cons, Pu.at_nil, Pu.at_cons, Pu.ot_nil, Pu.ot_cons, Pu.i_seq', Pu.i_rng1, Pu.i_rng2, Pu.i_zip', Pu.i_enum', Pu.t_slot, Pu.t_peek, Pu.t_bl, Pu.t_call, Pu.t_callv, Pu.t_prim, Pu.t_isi, Pu.t_idx, Pu.b_addI, Pu.b_addT, Pu.b_addL, Pu.b_subI, Pu.b_mulI, Pu.b_divI, Pu.b_modI, Pu.c_lt, Pu.c_le, Pu.c_gt, Pu.c_ge, Pu.c_eqI, Pu.c_neI, Pu.c_eqB, Pu.c_neB, Pu.c_isN, Pu.c_notN, Pu.d_bl, Pu.d_int, Pu.u_bl, Pu.u_int, Pu.u_non, Pu.u_tup, Pu.u_lst, Pu.x_tup, Pu.x_lst, Pu.at0, Pu.at1, Pu.at2, Pu.s_some, Pu.s_none, Pu.p_len, Pu.p_lenL, Pu.p_abs, Pu.p_int, Pu.p_all, Pu.p_any, Pu.p_tupL, Pu.p_tupT, Pu.p_lstL, Pu.p_lstT, Pu.q_tup, Pu.q_lst, Pu.q_scr, Pu.s_nil, Pu.s_wipe, Pu.s_freeze, Pu.s_ret, Pu.s_raise, Pu.s_pass, Pu.s_brk, Pu.s_cont, Pu.s_set, Pu.s_setOwn, Pu.own_lst, Pu.s_par, Pu.a_next, Pu.a_ret, Pu.a_brk, Pu.a_cont, Pu.s_iff, Pu.s_for, Pu.s_while, Pu.s_expr, Pu.s_try, Pu.s_aug, Pu.aug_some, Pu.aug_int, Pu.s_app, Pu.app_own, Pu.p_name, Pu.p_tup, Pu.ps_nil, Pu.ps_cons, Pu.v_tp, Pu.tp_val, Pu.tp_cell, Pu.s_tput, Pu.tput_val, Pu.s_tpop, Pu.tpop_val, Pu.s_tnew, Pu.tnew_lst, Pu.z_pure, Pu.z_seed, Pu.z_head, Pu.z_len, Pu.z_pseed, Pu.z_phead, Pu.z_pop, Pu.M.pure_bind, Pu.M.bind_assoc, Pu.M.bind_pure, Pu.M.stuck_bind, Pu.M.throw_bind, Pu.end_bind, Pu.end_ite, Pu.m_ite, Pu.noExc_pure, List.set_cons_zero, List.set_cons_succ, List.getElem?_cons_zero, List.getElem?_cons_succ, List.length_cons, List.length_nil, List.map_cons, List.map_nil, List.cons_append, List.nil_append, Pu.freezeE, Pu.wipeE, Pu.setsE, if_true, if_false, Bool.false_eq_true, reduceIte, Nat.reduceAdd, Nat.reduceSub, Nat.reduceEqDiff, decide_true, decide_false, Bool.not_true, Bool.not_false, Bool.true_and, Bool.and_true, Bool.false_and, Bool.and_false, Bool.true_or, Bool.or_true, Bool.false_or, Bool.or_false, all_true, all_id]
  unfold b_law_12
  simp only [Pu.end_ret, Pu.end_next, Pu.end_stuck, Pu.end_throw, Pu.v_slot0, Pu.v_slotS, Pu.v_peekV, Pu.v_peekO, Pu.v_peekS, Pu.v_non, Pu.v_bl, Pu.v_int, Pu.v_str, Pu.v_const, Pu.v_fn, Pu.v_tup, Pu.v_lst, Pu.v_neg, Pu.v_nott, Pu.t_nott, Pu.v_bin, Pu.v_cmp, Pu.t_cmp', Pu.v_andd, Pu.t_andd, Pu.v_orr, Pu.t_orr, Pu.v_ite, Pu.v_call, Pu.v_callv0, Pu.v_prim, Pu.v_isi, Pu.v_idx, Pu.v_slc, Pu.v_comp, Pu.o_non, Pu.o_som, Pu.c_non, Pu.c_som, Pu.e_nil, Pu.e_cons, Pu.av_one, Pu.av_cons, Pu.ov_one, Pu.ov_cons, Pu.at_nil, Pu.at_cons, Pu.ot_nil, Pu.ot_cons, Pu.i_seq', Pu.i_rng1, Pu.i_rng2, Pu.i_zip', Pu.i_enum', Pu.t_slot, Pu.t_peek, Pu.t_bl, Pu.t_call, Pu.t_callv, Pu.t_prim, Pu.t_isi, Pu.t_idx, Pu.b_addI, Pu.b_addT, Pu.b_addL, Pu.b_subI, Pu.b_mulI, Pu.b_divI, Pu.b_modI, Pu.c_lt, Pu.c_le, Pu.c_gt, Pu.c_ge, Pu.c_eqI, Pu.c_neI, Pu.c_eqB, Pu.c_neB, Pu.c_isN, Pu.c_notN, Pu.d_bl, Pu.d_int, Pu.u_bl, Pu.u_int, Pu.u_non, Pu.u_tup, Pu.u_lst, Pu.x_tup, Pu.x_lst, Pu.at0, Pu.at1, Pu.at2, Pu.s_some, Pu.s_none, Pu.p_len, Pu.p_lenL, Pu.p_abs, Pu.p_int, Pu.p_all, Pu.p_any, Pu.p_tupL, Pu.p_tupT, Pu.p_lstL, Pu.p_lstT, Pu.q_tup, Pu.q_lst, Pu.q_scr, Pu.s_nil, Pu.s_wipe, Pu.s_freeze, Pu.s_ret, Pu.s_raise, Pu.s_pass, Pu.s_brk, Pu.s_cont, Pu.s_set, Pu.s_setOwn, Pu.own_lst, Pu.s_par, Pu.a_next, Pu.a_ret, Pu.a_brk, Pu.a_cont, Pu.s_iff, Pu.s_for, Pu.s_while, Pu.s_expr, Pu.s_try, Pu.s_aug, Pu.aug_some, Pu.aug_int, Pu.s_app, Pu.app_own, Pu.p_name, Pu.p_tup, Pu.ps_nil, Pu.ps_cons, Pu.v_tp, Pu.tp_val, Pu.tp_cell, Pu.s_tput, Pu.tput_val, Pu.s_tpop, Pu.tpop_val, Pu.s_tnew, Pu.tnew_lst, Pu.z_pure, Pu.z_seed, Pu.z_head, Pu.z_len, Pu.z_pseed, Pu.z_phead, Pu.z_pop, Pu.M.pure_bind, Pu.M.bind_assoc, Pu.M.bind_pure, Pu.M.stuck_bind, Pu.M.throw_bind, Pu.end_bind, Pu.end_ite, Pu.m_ite, Pu.noExc_pure, List.set_cons_zero, List.set_cons_succ, List.getElem?_cons_zero, List.getElem?_cons_succ, List.length_cons, List.length_nil, List.map_cons, List.map_nil, List.cons_append, List.nil_append, Pu.freezeE, Pu.wipeE, Pu.setsE, if_true, if_false, Bool.false_eq_true, reduceIte, Nat.reduceAdd, Nat.reduceSub, Nat.reduceEqDiff, decide_true, decide_false, Bool.not_true, Bool.not_false, Bool.true_and, Bool.and_true, Bool.false_and, Bool.and_false, Bool.true_or, Bool.or_true, Bool.false_or, Bool.or_false, gd_pos le3]
  unfold b_law_11
  simp only [Pu.end_ret, Pu.end_next, Pu.end_stuck, Pu.end_throw, Pu.v_slot0, Pu.v_slotS, Pu.v_peekV, Pu.v_peekO, Pu.v_peekS, Pu.v_non, Pu.v_bl, Pu.v_int, Pu.v_str, Pu.v_const, Pu.v_fn, Pu.v_tup, Pu.v_lst, Pu.v_neg, Pu.v_nott, Pu.t_nott, Pu.v_bin, Pu.v_cmp, Pu.t_cmp', Pu.v_andd, Pu.t_andd, Pu.v_orr, Pu.t_orr, Pu.v_ite, Pu.v_call, Pu.v_callv0, Pu.v_prim, Pu.v_isi, Pu.v_idx, Pu.v_slc, Pu.v_comp, Pu.o_non, Pu.o_som, Pu.c_non, Pu.c_som, Pu.e_nil, Pu.e_cons, Pu.av_one, Pu.av_cons, Pu.ov_one, Pu.ov_cons, Pu.at_nil, Pu.at_cons, Pu.ot_nil, Pu.ot_cons, Pu.i_seq', Pu.i_rng1, Pu.i_rng2, Pu.i_zip', Pu.i_enum', Pu.t_slot, Pu.t_peek, Pu.t_bl, Pu.t_call, Pu.t_callv, Pu.t_prim, Pu.t_isi, Pu.t_idx, Pu.b_addI, Pu.b_addT, Pu.b_addL, Pu.b_subI, Pu.b_mulI, Pu.b_divI, Pu.b_modI, Pu.c_lt, Pu.c_le, Pu.c_gt, Pu.c_ge, Pu.c_eqI, Pu.c_neI, Pu.c_eqB, Pu.c_neB, Pu.c_isN, Pu.c_notN, Pu.d_bl, Pu.d_int, Pu.u_bl, Pu.u_int, Pu.u_non, Pu.u_tup, Pu.u_lst, Pu.x_tup, Pu.x_lst, Pu.at0, Pu.at1, Pu.at2, Pu.s_some, Pu.s_none, Pu.p_len, Pu.p_lenL, Pu.p_abs, Pu.p_int, Pu.p_all, Pu.p_any, Pu.p_tupL, Pu.p_tupT, Pu.p_lstL, Pu.p_lstT, Pu.q_tup, Pu.q_lst, Pu.q_scr, Pu.s_nil, Pu.s_wipe, Pu.s_freeze, Pu.s_ret, Pu.s_raise, Pu.s_pass, Pu.s_brk, Pu.s_cont, Pu.s_set, Pu.s_setOwn, Pu.own_lst, Pu.s_par, Pu.a_next, Pu.a_ret, Pu.a_brk, Pu.a_cont, Pu.s_iff, Pu.s_for, Pu.s_while, Pu.s_expr, Pu.s_try, Pu.s_aug, Pu.aug_some, Pu.aug_int, Pu.s_app, Pu.app_own, Pu.p_name, Pu.p_tup, Pu.ps_nil, Pu.ps_cons, Pu.v_tp, Pu.tp_val, Pu.tp_cell, Pu.s_tput, Pu.tput_val, Pu.s_tpop, Pu.tpop_val, Pu.s_tnew, Pu.tnew_lst, Pu.z_pure, Pu.z_seed, Pu.z_head, Pu.z_len, Pu.z_pseed, Pu.z_phead, Pu.z_pop, Pu.M.pure_bind, Pu.M.bind_assoc, Pu.M.bind_pure, Pu.M.stuck_bind, Pu.M.throw_bind, Pu.end_bind, Pu.end_ite, Pu.m_ite, Pu.noExc_pure, List.set_cons_zero, List.set_cons_succ, List.getElem?_cons_zero, List.getElem?_cons_succ, List.length_cons, List.length_nil, List.map_cons, List.map_nil, List.cons_append, List.nil_append, Pu.freezeE, Pu.wipeE, Pu.setsE, if_true, if_false, Bool.false_eq_true, reduceIte, Nat.reduceAdd, Nat.reduceSub, Nat.reduceEqDiff, decide_true, decide_false, Bool.not_true, Bool.not_false, Bool.true_and, Bool.and_true, Bool.false_and, Bool.and_false, Bool.true_or, Bool.or_true, Bool.false_or, Bool.or_false, enumD]
  obtain ⟨is, l, hil⟩ : ∃ is l, ps.map rk = is ++ [l] := by
    have hne : ps.map rk ≠ [] := fun h => by
      have := congrArg List.length h
      rw [List.length_map, List.length_nil] at this
      omega
    exact ⟨(ps.map rk).dropLast, (ps.map rk).getLast hne, (List.dropLast_concat_getLast hne).symm⟩
  have hmap : (ps.map fun p => qD (rk p)) = (is ++ [l]).map qD := by rw [← hil, List.map_map]; rfl
  have hlen : (is ++ [l]).length = ps.length := by rw [← hil, List.length_map]
  have hb1 : ∀ x ∈ is ++ [l], BR 100 x := by rw [← hil]; exact hbr
  have hb2 : ∀ x ∈ l :: is, BR 100 x := fun x hx => hb1 x (by
    rcases List.mem_cons.mp hx with rfl | h
    · exact List.mem_append_right _ List.mem_cons_self
    · exact List.mem_append_left _ h)
  have hlen2 : (is ++ [l]).length = (l :: is).length := by simp
  have b1 : Bd 1 0 := by unfold Bd; decide
  have b2 : Bd 1 1 := by unfold Bd; decide
  rw [hmap]
  obtain ⟨S', Bt', Bl', e, q1, q2, q3, q4, q5, q6⟩ := main_loop (s0 := s0) (s1 := s1) (s2 := some (.own (ps.map prD))) (ks := .lst ((is ++ [l]).map qD)) (is ++ [l]) (l :: is) 0 0 0 1 hlen2 hb1 hb2 (by omega) (rot_idx is l) b1 b1 b2 (by decide)
  have ht : (turnB : Ss) = .cons (.set (.name 11) (.idx (.slot 4) (.bin .sub (.slot 8) (.int 1)))) b_law_8 := rfl
  rw [ht] at e
  rw [show ((0 : Nat) : Int) = 0 from rfl] at e
  rw [e]
  simp only [Pu.end_ret, Pu.end_next, Pu.end_stuck, Pu.end_throw, Pu.v_slot0, Pu.v_slotS, Pu.v_peekV, Pu.v_peekO, Pu.v_peekS, Pu.v_non, Pu.v_bl, Pu.v_int, Pu.v_str, Pu.v_const, Pu.v_fn, Pu.v_tup, Pu.v_lst, Pu.v_neg, Pu.v_nott, Pu.t_nott, Pu.v_bin, Pu.v_cmp, Pu.t_cmp', Pu.v_andd, Pu.t_andd, Pu.v_orr, Pu.t_orr, Pu.v_ite, Pu.v_call, Pu.v_callv0, Pu.v_prim, Pu.v_isi, Pu.v_idx, Pu.v_slc, Pu.v_comp, Pu.o_non, Pu.o_som, Pu.c_non, Pu.c_som, Pu.e_nil, Pu.e_cons, Pu.av_one, Pu.av_cons, Pu.ov_one, Pu.ov_cons, Pu.at_nil, Pu.at_cons, Pu.ot_nil, Pu.ot_cons, Pu.i_seq', Pu.i_rng1, Pu.i_rng2, Pu.i_zip', Pu.i_enum', Pu.t_slot, Pu.t_peek, Pu.t_bl, Pu.t_call, Pu.t_callv, Pu.t_prim, Pu.t_isi, Pu.t_idx, Pu.b_addI, Pu.b_addT, Pu.b_addL, Pu.b_subI, Pu.b_mulI, Pu.b_divI, Pu.b_modI, Pu.c_lt, Pu.c_le, Pu.c_gt, Pu.c_ge, Pu.c_eqI, Pu.c_neI, Pu.c_eqB, Pu.c_neB, Pu.c_isN, Pu.c_notN, Pu.d_bl, Pu.d_int, Pu.u_bl, Pu.u_int, Pu.u_non, Pu.u_tup, Pu.u_lst, Pu.x_tup, Pu.x_lst, Pu.at0, Pu.at1, Pu.at2, Pu.s_some, Pu.s_none, Pu.p_len, Pu.p_lenL, Pu.p_abs, Pu.p_int, Pu.p_all, Pu.p_any, Pu.p_tupL, Pu.p_tupT, Pu.p_lstL, Pu.p_lstT, Pu.q_tup, Pu.q_lst, Pu.q_scr, Pu.s_nil, Pu.s_wipe, Pu.s_freeze, Pu.s_ret, Pu.s_raise, Pu.s_pass, Pu.s_brk, Pu.s_cont, Pu.s_set, Pu.s_setOwn, Pu.own_lst, Pu.s_par, Pu.a_next, Pu.a_ret, Pu.a_brk, Pu.a_cont, Pu.s_iff, Pu.s_for, Pu.s_while, Pu.s_expr, Pu.s_try, Pu.s_aug, Pu.aug_some, Pu.aug_int, Pu.s_app, Pu.app_own, Pu.p_name, Pu.p_tup, Pu.ps_nil, Pu.ps_cons, Pu.v_tp, Pu.tp_val, Pu.tp_cell, Pu.s_tput, Pu.tput_val, Pu.s_tpop, Pu.tpop_val, Pu.s_tnew, Pu.tnew_lst, Pu.z_pure, Pu.z_seed, Pu.z_head, Pu.z_len, Pu.z_pseed, Pu.z_phead, Pu.z_pop, Pu.M.pure_bind, Pu.M.bind_assoc, Pu.M.bind_pure, Pu.M.stuck_bind, Pu.M.throw_bind, Pu.end_bind, Pu.end_ite, Pu.m_ite, Pu.noExc_pure, List.set_cons_zero, List.set_cons_succ, List.getElem?_cons_zero, List.getElem?_cons_succ, List.length_cons, List.length_nil, List.map_cons, List.map_nil, List.cons_append, List.nil_append, Pu.freezeE, Pu.wipeE, Pu.setsE, if_true, if_false, Bool.false_eq_true, reduceIte, Nat.reduceAdd, Nat.reduceSub, Nat.reduceEqDiff, decide_true, decide_false, Bool.not_true, Bool.not_false, Bool.true_and, Bool.and_true, Bool.false_and, Bool.and_false, Bool.true_or, Bool.or_true, Bool.false_or, Bool.or_false]
  unfold b_law_10
  have ez : Rat.divInt 0 1 = 0 := rfl
  rw [ez] at q5 q6
  have hl5 : (is ++ [l]).length ≤ 5 := by omega
  have htot := total_ok 35 hb1 (by omega)
  have hdot : callF T 39 "dot" [.lst ((is ++ [l]).map qD), .lst (qD l :: is.map qD)] = pure (qD (dotR 0 (is ++ [l]) (l :: is))) := dot_ok 35 hb1 hb2 (by omega)
  have bt := (fold_br (is ++ [l]) 0 1 BR.zero hb1).mono (show _ ≤ 9000 by omega)
  have bd := (dot_br (is ++ [l]) (l :: is) 0 1 BR.zero hb1 hb2).mono (show _ ≤ 9000 by omega)
  have i1 : callF T 39 "_law_is" [qD ((is ++ [l]).foldl (· + ·) 0), .int S', .int Bl'] = pure (.bl true) := isd_ok 37 q1 q5.symm bt (q2.mono (by decide)) (q4.mono (by decide))
  have i2 : callF T 39 "_law_is" [qD (dotR 0 (is ++ [l]) (l :: is)), .int Bt', .int Bl'] = pure (.bl true) := isd_ok 37 q1 q6.symm bd (q3.mono (by decide)) (q4.mono (by decide))
  have hcat : (1 + (is.map qD).length ≤ sizeLine) := by
    have : is.length + 1 ≤ 5 := by simpa using hl5
    rw [List.length_map]
    exact Nat.le_trans (show 1 + is.length ≤ 5 by omega) (by decide)
  simp only [v_neg, Pu.end_ret, Pu.end_next, Pu.end_stuck, Pu.end_throw, Pu.v_slot0, Pu.v_slotS, Pu.v_peekV, Pu.v_peekO, Pu.v_peekS, Pu.v_non, Pu.v_bl, Pu.v_int, Pu.v_str, Pu.v_const, Pu.v_fn, Pu.v_tup, Pu.v_lst, Pu.v_neg, Pu.v_nott, Pu.t_nott, Pu.v_bin, Pu.v_cmp, Pu.t_cmp', Pu.v_andd, Pu.t_andd, Pu.v_orr, Pu.t_orr, Pu.v_ite, Pu.v_call, Pu.v_callv0, Pu.v_prim, Pu.v_isi, Pu.v_idx, Pu.v_slc, Pu.v_comp, Pu.o_non, Pu.o_som, Pu.c_non, Pu.c_som, Pu.e_nil, Pu.e_cons, Pu.av_one, Pu.av_cons, Pu.ov_one, Pu.ov_cons, Pu.at_nil, Pu.at_cons, Pu.ot_nil, Pu.ot_cons, Pu.i_seq', Pu.i_rng1, Pu.i_rng2, Pu.i_zip', Pu.i_enum', Pu.t_slot, Pu.t_peek, Pu.t_bl, Pu.t_call, Pu.t_callv, Pu.t_prim, Pu.t_isi, Pu.t_idx, Pu.b_addI, Pu.b_addT, Pu.b_addL, Pu.b_subI, Pu.b_mulI, Pu.b_divI, Pu.b_modI, Pu.c_lt, Pu.c_le, Pu.c_gt, Pu.c_ge, Pu.c_eqI, Pu.c_neI, Pu.c_eqB, Pu.c_neB, Pu.c_isN, Pu.c_notN, Pu.d_bl, Pu.d_int, Pu.u_bl, Pu.u_int, Pu.u_non, Pu.u_tup, Pu.u_lst, Pu.x_tup, Pu.x_lst, Pu.at0, Pu.at1, Pu.at2, Pu.s_some, Pu.s_none, Pu.p_len, Pu.p_lenL, Pu.p_abs, Pu.p_int, Pu.p_all, Pu.p_any, Pu.p_tupL, Pu.p_tupT, Pu.p_lstL, Pu.p_lstT, Pu.q_tup, Pu.q_lst, Pu.q_scr, Pu.s_nil, Pu.s_wipe, Pu.s_freeze, Pu.s_ret, Pu.s_raise, Pu.s_pass, Pu.s_brk, Pu.s_cont, Pu.s_set, Pu.s_setOwn, Pu.own_lst, Pu.s_par, Pu.a_next, Pu.a_ret, Pu.a_brk, Pu.a_cont, Pu.s_iff, Pu.s_for, Pu.s_while, Pu.s_expr, Pu.s_try, Pu.s_aug, Pu.aug_some, Pu.aug_int, Pu.s_app, Pu.app_own, Pu.p_name, Pu.p_tup, Pu.ps_nil, Pu.ps_cons, Pu.v_tp, Pu.tp_val, Pu.tp_cell, Pu.s_tput, Pu.tput_val, Pu.s_tpop, Pu.tpop_val, Pu.s_tnew, Pu.tnew_lst, Pu.z_pure, Pu.z_seed, Pu.z_head, Pu.z_len, Pu.z_pseed, Pu.z_phead, Pu.z_pop, Pu.M.pure_bind, Pu.M.bind_assoc, Pu.M.bind_pure, Pu.M.stuck_bind, Pu.M.throw_bind, Pu.end_bind, Pu.end_ite, Pu.m_ite, Pu.noExc_pure, List.set_cons_zero, List.set_cons_succ, List.getElem?_cons_zero, List.getElem?_cons_succ, List.length_cons, List.length_nil, List.map_cons, List.map_nil, List.cons_append, List.nil_append, Pu.freezeE, Pu.wipeE, Pu.setsE, if_true, if_false, Bool.false_eq_true, reduceIte, Nat.reduceAdd, Nat.reduceSub, Nat.reduceEqDiff, decide_true, decide_false, Bool.not_true, Bool.not_false, Bool.true_and, Bool.and_true, Bool.false_and, Bool.and_false, Bool.true_or, Bool.or_true, Bool.false_or, Bool.or_false, Gk_call, htot, i1, slc_last, slc_init, b_addL, gd_pos hcat, hdot, i2]
  unfold b_law_9
  have t0 : callF T 39 "total" [.lst []] = pure (qD 0) := total_ok 35 (xs := []) (fun _ h => absurd h List.not_mem_nil) (by decide)
  simp only [Pu.end_ret, Pu.end_next, Pu.end_stuck, Pu.end_throw, Pu.v_slot0, Pu.v_slotS, Pu.v_peekV, Pu.v_peekO, Pu.v_peekS, Pu.v_non, Pu.v_bl, Pu.v_int, Pu.v_str, Pu.v_const, Pu.v_fn, Pu.v_tup, Pu.v_lst, Pu.v_neg, Pu.v_nott, Pu.t_nott, Pu.v_bin, Pu.v_cmp, Pu.t_cmp', Pu.v_andd, Pu.t_andd, Pu.v_orr, Pu.t_orr, Pu.v_ite, Pu.v_call, Pu.v_callv0, Pu.v_prim, Pu.v_isi, Pu.v_idx, Pu.v_slc, Pu.v_comp, Pu.o_non, Pu.o_som, Pu.c_non, Pu.c_som, Pu.e_nil, Pu.e_cons, Pu.av_one, Pu.av_cons, Pu.ov_one, Pu.ov_cons, Pu.at_nil, Pu.at_cons, Pu.ot_nil, Pu.ot_cons, Pu.i_seq', Pu.i_rng1, Pu.i_rng2, Pu.i_zip', Pu.i_enum', Pu.t_slot, Pu.t_peek, Pu.t_bl, Pu.t_call, Pu.t_callv, Pu.t_prim, Pu.t_isi, Pu.t_idx, Pu.b_addI, Pu.b_addT, Pu.b_addL, Pu.b_subI, Pu.b_mulI, Pu.b_divI, Pu.b_modI, Pu.c_lt, Pu.c_le, Pu.c_gt, Pu.c_ge, Pu.c_eqI, Pu.c_neI, Pu.c_eqB, Pu.c_neB, Pu.c_isN, Pu.c_notN, Pu.d_bl, Pu.d_int, Pu.u_bl, Pu.u_int, Pu.u_non, Pu.u_tup, Pu.u_lst, Pu.x_tup, Pu.x_lst, Pu.at0, Pu.at1, Pu.at2, Pu.s_some, Pu.s_none, Pu.p_len, Pu.p_lenL, Pu.p_abs, Pu.p_int, Pu.p_all, Pu.p_any, Pu.p_tupL, Pu.p_tupT, Pu.p_lstL, Pu.p_lstT, Pu.q_tup, Pu.q_lst, Pu.q_scr, Pu.s_nil, Pu.s_wipe, Pu.s_freeze, Pu.s_ret, Pu.s_raise, Pu.s_pass, Pu.s_brk, Pu.s_cont, Pu.s_set, Pu.s_setOwn, Pu.own_lst, Pu.s_par, Pu.a_next, Pu.a_ret, Pu.a_brk, Pu.a_cont, Pu.s_iff, Pu.s_for, Pu.s_while, Pu.s_expr, Pu.s_try, Pu.s_aug, Pu.aug_some, Pu.aug_int, Pu.s_app, Pu.app_own, Pu.p_name, Pu.p_tup, Pu.ps_nil, Pu.ps_cons, Pu.v_tp, Pu.tp_val, Pu.tp_cell, Pu.s_tput, Pu.tput_val, Pu.s_tpop, Pu.tpop_val, Pu.s_tnew, Pu.tnew_lst, Pu.z_pure, Pu.z_seed, Pu.z_head, Pu.z_len, Pu.z_pseed, Pu.z_phead, Pu.z_pop, Pu.M.pure_bind, Pu.M.bind_assoc, Pu.M.bind_pure, Pu.M.stuck_bind, Pu.M.throw_bind, Pu.end_bind, Pu.end_ite, Pu.m_ite, Pu.noExc_pure, List.set_cons_zero, List.set_cons_succ, List.getElem?_cons_zero, List.getElem?_cons_succ, List.length_cons, List.length_nil, List.map_cons, List.map_nil, List.cons_append, List.nil_append, Pu.freezeE, Pu.wipeE, Pu.setsE, if_true, if_false, Bool.false_eq_true, reduceIte, Nat.reduceAdd, Nat.reduceSub, Nat.reduceEqDiff, decide_true, decide_false, Bool.not_true, Bool.not_false, Bool.true_and, Bool.and_true, Bool.false_and, Bool.and_false, Bool.true_or, Bool.or_true, Bool.false_or, Bool.or_false, Gk_call, Gk_const, gd_pos (show 0 ≤ sizeLine from Nat.zero_le _), gd_pos le2, t0, same_zero, k_ZERO, k_ONE, qD_zero, qD_one, same_one, odd_all]
/-- the law, on trees -/
theorem law_ok (ns : List Int) (hl : ns.length ≤ 63) : (callF T 40 "law" [.scr ns] none).is (fun d _ => d = .bl true) fun _ _ => False := by
  obtain ⟨t0, e0, ht0⟩ := tape_ok 38 ns hl
  rw [c_law 39, run_df _ ⟨rfl, by decide⟩]
  simp only [df_law, Gk_call, Gk_const, List.replicate, Pu.end_ret, Pu.end_next, Pu.end_stuck, Pu.end_throw, Pu.v_slot0, Pu.v_slotS, Pu.v_peekV, Pu.v_peekO, Pu.v_peekS, Pu.v_non, Pu.v_bl, Pu.v_int, Pu.v_str, Pu.v_const, Pu.v_fn, Pu.v_tup, Pu.v_lst, Pu.v_neg, Pu.v_nott, Pu.t_nott, Pu.v_bin, Pu.v_cmp, Pu.t_cmp', Pu.v_andd, Pu.t_andd, Pu.v_orr, Pu.t_orr, Pu.v_ite, Pu.v_call, Pu.v_callv0, Pu.v_prim, Pu.v_isi, Pu.v_idx, Pu.v_slc, Pu.v_comp, Pu.o_non, Pu.o_som, Pu.c_non, Pu.c_som, Pu.e_nil, Pu.e_cons, Pu.av_one, Pu.av_cons, Pu.ov_one, Pu.ov_cons, Pu.at_nil, Pu.at_cons, Pu.ot_nil, Pu.ot_cons, Pu.i_seq', Pu.i_rng1, Pu.i_rng2, Pu.i_zip', Pu.i_enum', Pu.t_slot, Pu.t_peek, Pu.t_bl, Pu.t_call, Pu.t_callv, Pu.t_prim, Pu.t_isi, Pu.t_idx, Pu.b_addI, Pu.b_addT, Pu.b_addL, Pu.b_subI, Pu.b_mulI, Pu.b_divI, Pu.b_modI, Pu.c_lt, Pu.c_le, Pu.c_gt, Pu.c_ge, Pu.c_eqI, Pu.c_neI, Pu.c_eqB, Pu.c_neB, Pu.c_isN, Pu.c_notN, Pu.d_bl, Pu.d_int, Pu.u_bl, Pu.u_int, Pu.u_non, Pu.u_tup, Pu.u_lst, Pu.x_tup, Pu.x_lst, Pu.at0, Pu.at1, Pu.at2, Pu.s_some, Pu.s_none, Pu.p_len, Pu.p_lenL, Pu.p_abs, Pu.p_int, Pu.p_all, Pu.p_any, Pu.p_tupL, Pu.p_tupT, Pu.p_lstL, Pu.p_lstT, Pu.q_tup, Pu.q_lst, Pu.q_scr, Pu.s_nil, Pu.s_wipe, Pu.s_freeze, Pu.s_ret, Pu.s_raise, Pu.s_pass, Pu.s_brk, Pu.s_cont, Pu.s_set, Pu.s_setOwn, Pu.own_lst, Pu.s_par, Pu.a_next, Pu.a_ret, Pu.a_brk, Pu.a_cont, Pu.s_iff, Pu.s_for, Pu.s_while, Pu.s_expr, Pu.s_try, Pu.s_aug, Pu.aug_some, Pu.aug_int, Pu.s_app, Pu.app_own, Pu.p_name, Pu.p_tup, Pu.ps_nil, Pu.ps_cons, Pu.v_tp, Pu.tp_val, Pu.tp_cell, Pu.s_tput, Pu.tput_val, Pu.s_tpop, Pu.tpop_val, Pu.s_tnew, Pu.tnew_lst, Pu.z_pure, Pu.z_seed, Pu.z_head, Pu.z_len, Pu.z_pseed, Pu.z_phead, Pu.z_pop, Pu.M.pure_bind, Pu.M.bind_assoc, Pu.M.bind_pure, Pu.M.stuck_bind, Pu.M.throw_bind, Pu.end_bind, Pu.end_ite, Pu.m_ite, Pu.noExc_pure, List.set_cons_zero, List.set_cons_succ, List.getElem?_cons_zero, List.getElem?_cons_succ, List.length_cons, List.length_nil, List.map_cons, List.map_nil, List.cons_append, List.nil_append, Pu.freezeE, Pu.wipeE, Pu.setsE, if_true, if_false, Bool.false_eq_true, reduceIte, Nat.reduceAdd, Nat.reduceSub, Nat.reduceEqDiff, decide_true, decide_false, Bool.not_true, Bool.not_false, Bool.true_and, Bool.and_true, Bool.false_and, Bool.and_false, Bool.true_or, Bool.or_true, Bool.false_or, Bool.or_false]
  refine is_seq (is_of e0 ?_)
  unfold b_law_16
  simp only [Pu.end_ret, Pu.end_next, Pu.end_stuck, Pu.end_throw, Pu.v_slot0, Pu.v_slotS, Pu.v_peekV, Pu.v_peekO, Pu.v_peekS, Pu.v_non, Pu.v_bl, Pu.v_int, Pu.v_str, Pu.v_const, Pu.v_fn, Pu.v_tup, Pu.v_lst, Pu.v_neg, Pu.v_nott, Pu.t_nott, Pu.v_bin, Pu.v_cmp, Pu.t_cmp', Pu.v_andd, Pu.t_andd, Pu.v_orr, Pu.t_orr, Pu.v_ite, Pu.v_call, Pu.v_callv0, Pu.v_prim, Pu.v_isi, Pu.v_idx, Pu.v_slc, Pu.v_comp, Pu.o_non, Pu.o_som, Pu.c_non, Pu.c_som, Pu.e_nil, Pu.e_cons, Pu.av_one, Pu.av_cons, Pu.ov_one, Pu.ov_cons, Pu.at_nil, Pu.at_cons, Pu.ot_nil, Pu.ot_cons, Pu.i_seq', Pu.i_rng1, Pu.i_rng2, Pu.i_zip', Pu.i_enum', Pu.t_slot, Pu.t_peek, Pu.t_bl, Pu.t_call, Pu.t_callv, Pu.t_prim, Pu.t_isi, Pu.t_idx, Pu.b_addI, Pu.b_addT, Pu.b_addL, Pu.b_subI, Pu.b_mulI, Pu.b_divI, Pu.b_modI, Pu.c_lt, Pu.c_le, Pu.c_gt, Pu.c_ge, Pu.c_eqI, Pu.c_neI, Pu.c_eqB, Pu.c_neB, Pu.c_isN, Pu.c_notN, Pu.d_bl, Pu.d_int, Pu.u_bl, Pu.u_int, Pu.u_non, Pu.u_tup, Pu.u_lst, Pu.x_tup, Pu.x_lst, Pu.at0, Pu.at1, Pu.at2, Pu.s_some, Pu.s_none, Pu.p_len, Pu.p_lenL, Pu.p_abs, Pu.p_int, Pu.p_all, Pu.p_any, Pu.p_tupL, Pu.p_tupT, Pu.p_lstL, Pu.p_lstT, Pu.q_tup, Pu.q_lst, Pu.q_scr, Pu.s_nil, Pu.s_wipe, Pu.s_freeze, Pu.s_ret, Pu.s_raise, Pu.s_pass, Pu.s_brk, Pu.s_cont, Pu.s_set, Pu.s_setOwn, Pu.own_lst, Pu.s_par, Pu.a_next, Pu.a_ret, Pu.a_brk, Pu.a_cont, Pu.s_iff, Pu.s_for, Pu.s_while, Pu.s_expr, Pu.s_try, Pu.s_aug, Pu.aug_some, Pu.aug_int, Pu.s_app, Pu.app_own, Pu.p_name, Pu.p_tup, Pu.ps_nil, Pu.ps_cons, Pu.v_tp, Pu.tp_val, Pu.tp_cell, Pu.s_tput, Pu.tput_val, Pu.s_tpop, Pu.tpop_val, Pu.s_tnew, Pu.tnew_lst, Pu.z_pure, Pu.z_seed, Pu.z_head, Pu.z_len, Pu.z_pseed, Pu.z_phead, Pu.z_pop, Pu.M.pure_bind, Pu.M.bind_assoc, Pu.M.bind_pure, Pu.M.stuck_bind, Pu.M.throw_bind, Pu.end_bind, Pu.end_ite, Pu.m_ite, Pu.noExc_pure, List.set_cons_zero, List.set_cons_succ, List.getElem?_cons_zero, List.getElem?_cons_succ, List.length_cons, List.length_nil, List.map_cons, List.map_nil, List.cons_append, List.nil_append, Pu.freezeE, Pu.wipeE, Pu.setsE, if_true, if_false, Bool.false_eq_true, reduceIte, Nat.reduceAdd, Nat.reduceSub, Nat.reduceEqDiff, decide_true, decide_false, Bool.not_true, Bool.not_false, Bool.true_and, Bool.and_true, Bool.false_and, Bool.and_false, Bool.true_or, Bool.or_true, Bool.false_or, Bool.or_false, gd_pos (show (0 : Nat) ≤ sizeLine from Nat.zero_le _)]
  unfold b_law_15
  simp only [Pu.end_ret, Pu.end_next, Pu.end_stuck, Pu.end_throw, Pu.v_slot0, Pu.v_slotS, Pu.v_peekV, Pu.v_peekO, Pu.v_peekS, Pu.v_non, Pu.v_bl, Pu.v_int, Pu.v_str, Pu.v_const, Pu.v_fn, Pu.v_tup, Pu.v_lst, Pu.v_neg, Pu.v_nott, Pu.t_nott, Pu.v_bin, Pu.v_cmp, Pu.t_cmp', Pu.v_andd, Pu.t_andd, Pu.v_orr, Pu.t_orr, Pu.v_ite, Pu.v_call, Pu.v_callv0, Pu.v_prim, Pu.v_isi, Pu.v_idx, Pu.v_slc, Pu.v_comp, Pu.o_non, Pu.o_som, Pu.c_non, Pu.c_som, Pu.e_nil, Pu.e_cons, Pu.av_one, Pu.av_cons, Pu.ov_one, Pu.ov_cons, Pu.at_nil, Pu.at_cons, Pu.ot_nil, Pu.ot_cons, Pu.i_seq', Pu.i_rng1, Pu.i_rng2, Pu.i_zip', Pu.i_enum', Pu.t_slot, Pu.t_peek, Pu.t_bl, Pu.t_call, Pu.t_callv, Pu.t_prim, Pu.t_isi, Pu.t_idx, Pu.b_addI, Pu.b_addT, Pu.b_addL, Pu.b_subI, Pu.b_mulI, Pu.b_divI, Pu.b_modI, Pu.c_lt, Pu.c_le, Pu.c_gt, Pu.c_ge, Pu.c_eqI, Pu.c_neI, Pu.c_eqB, Pu.c_neB, Pu.c_isN, Pu.c_notN, Pu.d_bl, Pu.d_int, Pu.u_bl, Pu.u_int, Pu.u_non, Pu.u_tup, Pu.u_lst, Pu.x_tup, Pu.x_lst, Pu.at0, Pu.at1, Pu.at2, Pu.s_some, Pu.s_none, Pu.p_len, Pu.p_lenL, Pu.p_abs, Pu.p_int, Pu.p_all, Pu.p_any, Pu.p_tupL, Pu.p_tupT, Pu.p_lstL, Pu.p_lstT, Pu.q_tup, Pu.q_lst, Pu.q_scr, Pu.s_nil, Pu.s_wipe, Pu.s_freeze, Pu.s_ret, Pu.s_raise, Pu.s_pass, Pu.s_brk, Pu.s_cont, Pu.s_set, Pu.s_setOwn, Pu.own_lst, Pu.s_par, Pu.a_next, Pu.a_ret, Pu.a_brk, Pu.a_cont, Pu.s_iff, Pu.s_for, Pu.s_while, Pu.s_expr, Pu.s_try, Pu.s_aug, Pu.aug_some, Pu.aug_int, Pu.s_app, Pu.app_own, Pu.p_name, Pu.p_tup, Pu.ps_nil, Pu.ps_cons, Pu.v_tp, Pu.tp_val, Pu.tp_cell, Pu.s_tput, Pu.tput_val, Pu.s_tpop, Pu.tpop_val, Pu.s_tnew, Pu.tnew_lst, Pu.z_pure, Pu.z_seed, Pu.z_head, Pu.z_len, Pu.z_pseed, Pu.z_phead, Pu.z_pop, Pu.M.pure_bind, Pu.M.bind_assoc, Pu.M.bind_pure, Pu.M.stuck_bind, Pu.M.throw_bind, Pu.end_bind, Pu.end_ite, Pu.m_ite, Pu.noExc_pure, List.set_cons_zero, List.set_cons_succ, List.getElem?_cons_zero, List.getElem?_cons_succ, List.length_cons, List.length_nil, List.map_cons, List.map_nil, List.cons_append, List.nil_append, Pu.freezeE, Pu.wipeE, Pu.setsE, if_true, if_false, Bool.false_eq_true, reduceIte, Nat.reduceAdd, Nat.reduceSub, Nat.reduceEqDiff, decide_true, decide_false, Bool.not_true, Bool.not_false, Bool.true_and, Bool.and_true, Bool.false_and, Bool.and_false, Bool.true_or, Bool.or_true, Bool.false_or, Bool.or_false]
  refine is_seq (draw_is 38 (by decide) bd30 ht0 fun m t1 hm0 hm1 ht1 => ?_)
  simp only [Pu.end_ret, Pu.end_next, Pu.end_stuck, Pu.end_throw, Pu.v_slot0, Pu.v_slotS, Pu.v_peekV, Pu.v_peekO, Pu.v_peekS, Pu.v_non, Pu.v_bl, Pu.v_int, Pu.v_str, Pu.v_const, Pu.v_fn, Pu.v_tup, Pu.v_lst, Pu.v_neg, Pu.v_nott, Pu.t_nott, Pu.v_bin, Pu.v_cmp, Pu.t_cmp', Pu.v_andd, Pu.t_andd, Pu.v_orr, Pu.t_orr, Pu.v_ite, Pu.v_call, Pu.v_callv0, Pu.v_prim, Pu.v_isi, Pu.v_idx, Pu.v_slc, Pu.v_comp, Pu.o_non, Pu.o_som, Pu.c_non, Pu.c_som, Pu.e_nil, Pu.e_cons, Pu.av_one, Pu.av_cons, Pu.ov_one, Pu.ov_cons, Pu.at_nil, Pu.at_cons, Pu.ot_nil, Pu.ot_cons, Pu.i_seq', Pu.i_rng1, Pu.i_rng2, Pu.i_zip', Pu.i_enum', Pu.t_slot, Pu.t_peek, Pu.t_bl, Pu.t_call, Pu.t_callv, Pu.t_prim, Pu.t_isi, Pu.t_idx, Pu.b_addI, Pu.b_addT, Pu.b_addL, Pu.b_subI, Pu.b_mulI, Pu.b_divI, Pu.b_modI, Pu.c_lt, Pu.c_le, Pu.c_gt, Pu.c_ge, Pu.c_eqI, Pu.c_neI, Pu.c_eqB, Pu.c_neB, Pu.c_isN, Pu.c_notN, Pu.d_bl, Pu.d_int, Pu.u_bl, Pu.u_int, Pu.u_non, Pu.u_tup, Pu.u_lst, Pu.x_tup, Pu.x_lst, Pu.at0, Pu.at1, Pu.at2, Pu.s_some, Pu.s_none, Pu.p_len, Pu.p_lenL, Pu.p_abs, Pu.p_int, Pu.p_all, Pu.p_any, Pu.p_tupL, Pu.p_tupT, Pu.p_lstL, Pu.p_lstT, Pu.q_tup, Pu.q_lst, Pu.q_scr, Pu.s_nil, Pu.s_wipe, Pu.s_freeze, Pu.s_ret, Pu.s_raise, Pu.s_pass, Pu.s_brk, Pu.s_cont, Pu.s_set, Pu.s_setOwn, Pu.own_lst, Pu.s_par, Pu.a_next, Pu.a_ret, Pu.a_brk, Pu.a_cont, Pu.s_iff, Pu.s_for, Pu.s_while, Pu.s_expr, Pu.s_try, Pu.s_aug, Pu.aug_some, Pu.aug_int, Pu.s_app, Pu.app_own, Pu.p_name, Pu.p_tup, Pu.ps_nil, Pu.ps_cons, Pu.v_tp, Pu.tp_val, Pu.tp_cell, Pu.s_tput, Pu.tput_val, Pu.s_tpop, Pu.tpop_val, Pu.s_tnew, Pu.tnew_lst, Pu.z_pure, Pu.z_seed, Pu.z_head, Pu.z_len, Pu.z_pseed, Pu.z_phead, Pu.z_pop, Pu.M.pure_bind, Pu.M.bind_assoc, Pu.M.bind_pure, Pu.M.stuck_bind, Pu.M.throw_bind, Pu.end_bind, Pu.end_ite, Pu.m_ite, Pu.noExc_pure, List.set_cons_zero, List.set_cons_succ, List.getElem?_cons_zero, List.getElem?_cons_succ, List.length_cons, List.length_nil, List.map_cons, List.map_nil, List.cons_append, List.nil_append, Pu.freezeE, Pu.wipeE, Pu.setsE, if_true, if_false, Bool.false_eq_true, reduceIte, Nat.reduceAdd, Nat.reduceSub, Nat.reduceEqDiff, decide_true, decide_false, Bool.not_true, Bool.not_false, Bool.true_and, Bool.and_true, Bool.false_and, Bool.and_false, Bool.true_or, Bool.or_true, Bool.false_or, Bool.or_false]
  rw [gd_pos (show -2 ^ 62 ≤ 2 + m ∧ 2 + m < 2 ^ 62 by omega), M.pure_bind]
  have hlen : (rangeL 0 (2 + m).toNat).length ≤ 5 ∧ 2 ≤ (rangeL 0 (2 + m).toNat).length := by
    unfold rangeL
    rw [List.length_map, List.length_range]
    omega
  refine is_seq (forM_is (Q := fun fl t => ∃ (ps : List (Int × Int)) (z : Option SV), fl = .next [some (.val (.scr ns)), some (.val .tape), some (.own (ps.map prD)), none, none, none, none, z, none, none, none, none, none, none, none, none, none, none, none] ∧ (∀ p ∈ ps, PrOk p) ∧ 2 ≤ ps.length ∧ ps.length ≤ 5)
    _ (fun xs σ t => ∃ (ps : List (Int × Int)) (z : Option SV), σ = [some (.val (.scr ns)), some (.val .tape), some (.own (ps.map prD)), none, none, none, none, z, none, none, none, none, none, none, none, none, none, none, none] ∧ (∀ p ∈ ps, PrOk p) ∧ 2 ≤ ps.length + xs.length ∧ ps.length + xs.length ≤ 5 ∧ TOk t) ?_ ?_ _ _ ⟨[], none, rfl, fun _ h => absurd h List.not_mem_nil, by simpa using hlen.2, by simpa using hlen.1, ht1⟩ |>.mono ?_ fun _ _ z => z)
  · rintro x rs σ t ⟨ps, z, rfl, hp, h2, h5, ht⟩
    rw [List.length_cons] at h2 h5
    simp only [Pu.end_ret, Pu.end_next, Pu.end_stuck, Pu.end_throw, Pu.v_slot0, Pu.v_slotS, Pu.v_peekV, Pu.v_peekO, Pu.v_peekS, Pu.v_non, Pu.v_bl, Pu.v_int, Pu.v_str, Pu.v_const, Pu.v_fn, Pu.v_tup, Pu.v_lst, Pu.v_neg, Pu.v_nott, Pu.t_nott, Pu.v_bin, Pu.v_cmp, Pu.t_cmp', Pu.v_andd, Pu.t_andd, Pu.v_orr, Pu.t_orr, Pu.v_ite, Pu.v_call, Pu.v_callv0, Pu.v_prim, Pu.v_isi, Pu.v_idx, Pu.v_slc, Pu.v_comp, Pu.o_non, Pu.o_som, Pu.c_non, Pu.c_som, Pu.e_nil, Pu.e_cons, Pu.av_one, Pu.av_cons, Pu.ov_one, Pu.ov_cons, Pu.at_nil, Pu.at_cons, Pu.ot_nil, Pu.ot_cons, Pu.i_seq', Pu.i_rng1, Pu.i_rng2, Pu.i_zip', Pu.i_enum', Pu.t_slot, Pu.t_peek, Pu.t_bl, Pu.t_call, Pu.t_callv, Pu.t_prim, Pu.t_isi, Pu.t_idx, Pu.b_addI, Pu.b_addT, Pu.b_addL, Pu.b_subI, Pu.b_mulI, Pu.b_divI, Pu.b_modI, Pu.c_lt, Pu.c_le, Pu.c_gt, Pu.c_ge, Pu.c_eqI, Pu.c_neI, Pu.c_eqB, Pu.c_neB, Pu.c_isN, Pu.c_notN, Pu.d_bl, Pu.d_int, Pu.u_bl, Pu.u_int, Pu.u_non, Pu.u_tup, Pu.u_lst, Pu.x_tup, Pu.x_lst, Pu.at0, Pu.at1, Pu.at2, Pu.s_some, Pu.s_none, Pu.p_len, Pu.p_lenL, Pu.p_abs, Pu.p_int, Pu.p_all, Pu.p_any, Pu.p_tupL, Pu.p_tupT, Pu.p_lstL, Pu.p_lstT, Pu.q_tup, Pu.q_lst, Pu.q_scr, Pu.s_nil, Pu.s_wipe, Pu.s_freeze, Pu.s_ret, Pu.s_raise, Pu.s_pass, Pu.s_brk, Pu.s_cont, Pu.s_set, Pu.s_setOwn, Pu.own_lst, Pu.s_par, Pu.a_next, Pu.a_ret, Pu.a_brk, Pu.a_cont, Pu.s_iff, Pu.s_for, Pu.s_while, Pu.s_expr, Pu.s_try, Pu.s_aug, Pu.aug_some, Pu.aug_int, Pu.s_app, Pu.app_own, Pu.p_name, Pu.p_tup, Pu.ps_nil, Pu.ps_cons, Pu.v_tp, Pu.tp_val, Pu.tp_cell, Pu.s_tput, Pu.tput_val, Pu.s_tpop, Pu.tpop_val, Pu.s_tnew, Pu.tnew_lst, Pu.z_pure, Pu.z_seed, Pu.z_head, Pu.z_len, Pu.z_pseed, Pu.z_phead, Pu.z_pop, Pu.M.pure_bind, Pu.M.bind_assoc, Pu.M.bind_pure, Pu.M.stuck_bind, Pu.M.throw_bind, Pu.end_bind, Pu.end_ite, Pu.m_ite, Pu.noExc_pure, List.set_cons_zero, List.set_cons_succ, List.getElem?_cons_zero, List.getElem?_cons_succ, List.length_cons, List.length_nil, List.map_cons, List.map_nil, List.cons_append, List.nil_append, Pu.freezeE, Pu.wipeE, Pu.setsE, if_true, if_false, Bool.false_eq_true, reduceIte, Nat.reduceAdd, Nat.reduceSub, Nat.reduceEqDiff, decide_true, decide_false, Bool.not_true, Bool.not_false, Bool.true_and, Bool.and_true, Bool.false_and, Bool.and_false, Bool.true_or, Bool.or_true, Bool.false_or, Bool.or_false, Gk_call]
    refine is_seq (whole_is 37 ht fun a t2 ha ht2 => ?_)
    refine is_seq (whole_is 37 ht2 fun b t3 hb ht3 => ?_)
    simp only [Pu.end_ret, Pu.end_next, Pu.end_stuck, Pu.end_throw, Pu.v_slot0, Pu.v_slotS, Pu.v_peekV, Pu.v_peekO, Pu.v_peekS, Pu.v_non, Pu.v_bl, Pu.v_int, Pu.v_str, Pu.v_const, Pu.v_fn, Pu.v_tup, Pu.v_lst, Pu.v_neg, Pu.v_nott, Pu.t_nott, Pu.v_bin, Pu.v_cmp, Pu.t_cmp', Pu.v_andd, Pu.t_andd, Pu.v_orr, Pu.t_orr, Pu.v_ite, Pu.v_call, Pu.v_callv0, Pu.v_prim, Pu.v_isi, Pu.v_idx, Pu.v_slc, Pu.v_comp, Pu.o_non, Pu.o_som, Pu.c_non, Pu.c_som, Pu.e_nil, Pu.e_cons, Pu.av_one, Pu.av_cons, Pu.ov_one, Pu.ov_cons, Pu.at_nil, Pu.at_cons, Pu.ot_nil, Pu.ot_cons, Pu.i_seq', Pu.i_rng1, Pu.i_rng2, Pu.i_zip', Pu.i_enum', Pu.t_slot, Pu.t_peek, Pu.t_bl, Pu.t_call, Pu.t_callv, Pu.t_prim, Pu.t_isi, Pu.t_idx, Pu.b_addI, Pu.b_addT, Pu.b_addL, Pu.b_subI, Pu.b_mulI, Pu.b_divI, Pu.b_modI, Pu.c_lt, Pu.c_le, Pu.c_gt, Pu.c_ge, Pu.c_eqI, Pu.c_neI, Pu.c_eqB, Pu.c_neB, Pu.c_isN, Pu.c_notN, Pu.d_bl, Pu.d_int, Pu.u_bl, Pu.u_int, Pu.u_non, Pu.u_tup, Pu.u_lst, Pu.x_tup, Pu.x_lst, Pu.at0, Pu.at1, Pu.at2, Pu.s_some, Pu.s_none, Pu.p_len, Pu.p_lenL, Pu.p_abs, Pu.p_int, Pu.p_all, Pu.p_any, Pu.p_tupL, Pu.p_tupT, Pu.p_lstL, Pu.p_lstT, Pu.q_tup, Pu.q_lst, Pu.q_scr, Pu.s_nil, Pu.s_wipe, Pu.s_freeze, Pu.s_ret, Pu.s_raise, Pu.s_pass, Pu.s_brk, Pu.s_cont, Pu.s_set, Pu.s_setOwn, Pu.own_lst, Pu.s_par, Pu.a_next, Pu.a_ret, Pu.a_brk, Pu.a_cont, Pu.s_iff, Pu.s_for, Pu.s_while, Pu.s_expr, Pu.s_try, Pu.s_aug, Pu.aug_some, Pu.aug_int, Pu.s_app, Pu.app_own, Pu.p_name, Pu.p_tup, Pu.ps_nil, Pu.ps_cons, Pu.v_tp, Pu.tp_val, Pu.tp_cell, Pu.s_tput, Pu.tput_val, Pu.s_tpop, Pu.tpop_val, Pu.s_tnew, Pu.tnew_lst, Pu.z_pure, Pu.z_seed, Pu.z_head, Pu.z_len, Pu.z_pseed, Pu.z_phead, Pu.z_pop, Pu.M.pure_bind, Pu.M.bind_assoc, Pu.M.bind_pure, Pu.M.stuck_bind, Pu.M.throw_bind, Pu.end_bind, Pu.end_ite, Pu.m_ite, Pu.noExc_pure, List.set_cons_zero, List.set_cons_succ, List.getElem?_cons_zero, List.getElem?_cons_succ, List.length_cons, List.length_nil, List.map_cons, List.map_nil, List.cons_append, List.nil_append, Pu.freezeE, Pu.wipeE, Pu.setsE, if_true, if_false, Bool.false_eq_true, reduceIte, Nat.reduceAdd, Nat.reduceSub, Nat.reduceEqDiff, decide_true, decide_false, Bool.not_true, Bool.not_false, Bool.true_and, Bool.and_true, Bool.false_and, Bool.and_false, Bool.true_or, Bool.or_true, Bool.false_or, Bool.or_false]
    have hsz : (ps.map prD).length < sizeLine := by rw [List.length_map]; exact Nat.lt_of_le_of_lt (show ps.length ≤ 5 by omega) (by decide)
    have key : ∀ b' : Int, Bd 100 b' → b' ≠ 0 → ∃ (ps' : List (Int × Int)) (z : Option SV), ([some (.val (.scr ns)), some (.val .tape), some (.own (ps.map prD ++ [.tup [.int a, .int b']])), none, none, none, none, some (.val (.int b)), none, none, none, none, none, none, none, none, none, none, none] : Pu.Env) = [some (.val (.scr ns)), some (.val .tape), some (.own (ps'.map prD)), none, none, none, none, z, none, none, none, none, none, none, none, none, none, none, none] ∧ (∀ p ∈ ps', PrOk p) ∧ 2 ≤ ps'.length + rs.length ∧ ps'.length + rs.length ≤ 5 ∧ TOk t3 := fun b' h1 h2' => by
      refine ⟨ps ++ [(a, b')], some (.val (.int b)), by rw [List.map_append]; rfl, fun p hp' => ?_, by rw [List.length_append]; simp only [List.length_cons, List.length_nil]; omega, by rw [List.length_append]; simp only [List.length_cons, List.length_nil]; omega, ht3⟩
      rcases List.mem_append.mp hp' with q | q
      · exact hp p q
      · rw [List.mem_singleton.mp q]; exact ⟨ha, h1, h2'⟩
    by_cases h0 : (b == 0) = true
    · simp only [Pu.end_ret, Pu.end_next, Pu.end_stuck, Pu.end_throw, Pu.v_slot0, Pu.v_slotS, Pu.v_peekV, Pu.v_peekO, Pu.v_peekS, Pu.v_non, Pu.v_bl, Pu.v_int, Pu.v_str, Pu.v_const, Pu.v_fn, Pu.v_tup, Pu.v_lst, Pu.v_neg, Pu.v_nott, Pu.t_nott, Pu.v_bin, Pu.v_cmp, Pu.t_cmp', Pu.v_andd, Pu.t_andd, Pu.v_orr, Pu.t_orr, Pu.v_ite, Pu.v_call, Pu.v_callv0, Pu.v_prim, Pu.v_isi, Pu.v_idx, Pu.v_slc, Pu.v_comp, Pu.o_non, Pu.o_som, Pu.c_non, Pu.c_som, Pu.e_nil, Pu.e_cons, Pu.av_one, Pu.av_cons, Pu.ov_one, Pu.ov_cons, Pu.at_nil, Pu.at_cons, Pu.ot_nil, Pu.ot_cons, Pu.i_seq', Pu.i_rng1, Pu.i_rng2, Pu.i_zip', Pu.i_enum', Pu.t_slot, Pu.t_peek, Pu.t_bl, Pu.t_call, Pu.t_callv, Pu.t_prim, Pu.t_isi, Pu.t_idx, Pu.b_addI, Pu.b_addT, Pu.b_addL, Pu.b_subI, Pu.b_mulI, Pu.b_divI, Pu.b_modI, Pu.c_lt, Pu.c_le, Pu.c_gt, Pu.c_ge, Pu.c_eqI, Pu.c_neI, Pu.c_eqB, Pu.c_neB, Pu.c_isN, Pu.c_notN, Pu.d_bl, Pu.d_int, Pu.u_bl, Pu.u_int, Pu.u_non, Pu.u_tup, Pu.u_lst, Pu.x_tup, Pu.x_lst, Pu.at0, Pu.at1, Pu.at2, Pu.s_some, Pu.s_none, Pu.p_len, Pu.p_lenL, Pu.p_abs, Pu.p_int, Pu.p_all, Pu.p_any, Pu.p_tupL, Pu.p_tupT, Pu.p_lstL, Pu.p_lstT, Pu.q_tup, Pu.q_lst, Pu.q_scr, Pu.s_nil, Pu.s_wipe, Pu.s_freeze, Pu.s_ret, Pu.s_raise, Pu.s_pass, Pu.s_brk, Pu.s_cont, Pu.s_set, Pu.s_setOwn, Pu.own_lst, Pu.s_par, Pu.a_next, Pu.a_ret, Pu.a_brk, Pu.a_cont, Pu.s_iff, Pu.s_for, Pu.s_while, Pu.s_expr, Pu.s_try, Pu.s_aug, Pu.aug_some, Pu.aug_int, Pu.s_app, Pu.app_own, Pu.p_name, Pu.p_tup, Pu.ps_nil, Pu.ps_cons, Pu.v_tp, Pu.tp_val, Pu.tp_cell, Pu.s_tput, Pu.tput_val, Pu.s_tpop, Pu.tpop_val, Pu.s_tnew, Pu.tnew_lst, Pu.z_pure, Pu.z_seed, Pu.z_head, Pu.z_len, Pu.z_pseed, Pu.z_phead, Pu.z_pop, Pu.M.pure_bind, Pu.M.bind_assoc, Pu.M.bind_pure, Pu.M.stuck_bind, Pu.M.throw_bind, Pu.end_bind, Pu.end_ite, Pu.m_ite, Pu.noExc_pure, List.set_cons_zero, List.set_cons_succ, List.getElem?_cons_zero, List.getElem?_cons_succ, List.length_cons, List.length_nil, List.map_cons, List.map_nil, List.cons_append, List.nil_append, Pu.freezeE, Pu.wipeE, Pu.setsE, if_true, if_false, Bool.false_eq_true, reduceIte, Nat.reduceAdd, Nat.reduceSub, Nat.reduceEqDiff, decide_true, decide_false, Bool.not_true, Bool.not_false, Bool.true_and, Bool.and_true, Bool.false_and, Bool.and_false, Bool.true_or, Bool.or_true, Bool.false_or, Bool.or_false, h0, gd_pos le2, hsz]
      exact key 1 (by unfold Bd; exact Nat.one_lt_two_pow (by decide)) (by decide)
    · simp only [Pu.end_ret, Pu.end_next, Pu.end_stuck, Pu.end_throw, Pu.v_slot0, Pu.v_slotS, Pu.v_peekV, Pu.v_peekO, Pu.v_peekS, Pu.v_non, Pu.v_bl, Pu.v_int, Pu.v_str, Pu.v_const, Pu.v_fn, Pu.v_tup, Pu.v_lst, Pu.v_neg, Pu.v_nott, Pu.t_nott, Pu.v_bin, Pu.v_cmp, Pu.t_cmp', Pu.v_andd, Pu.t_andd, Pu.v_orr, Pu.t_orr, Pu.v_ite, Pu.v_call, Pu.v_callv0, Pu.v_prim, Pu.v_isi, Pu.v_idx, Pu.v_slc, Pu.v_comp, Pu.o_non, Pu.o_som, Pu.c_non, Pu.c_som, Pu.e_nil, Pu.e_cons, Pu.av_one, Pu.av_cons, Pu.ov_one, Pu.ov_cons, Pu.at_nil, Pu.at_cons, Pu.ot_nil, Pu.ot_cons, Pu.i_seq', Pu.i_rng1, Pu.i_rng2, Pu.i_zip', Pu.i_enum', Pu.t_slot, Pu.t_peek, Pu.t_bl, Pu.t_call, Pu.t_callv, Pu.t_prim, Pu.t_isi, Pu.t_idx, Pu.b_addI, Pu.b_addT, Pu.b_addL, Pu.b_subI, Pu.b_mulI, Pu.b_divI, Pu.b_modI, Pu.c_lt, Pu.c_le, Pu.c_gt, Pu.c_ge, Pu.c_eqI, Pu.c_neI, Pu.c_eqB, Pu.c_neB, Pu.c_isN, Pu.c_notN, Pu.d_bl, Pu.d_int, Pu.u_bl, Pu.u_int, Pu.u_non, Pu.u_tup, Pu.u_lst, Pu.x_tup, Pu.x_lst, Pu.at0, Pu.at1, Pu.at2, Pu.s_some, Pu.s_none, Pu.p_len, Pu.p_lenL, Pu.p_abs, Pu.p_int, Pu.p_all, Pu.p_any, Pu.p_tupL, Pu.p_tupT, Pu.p_lstL, Pu.p_lstT, Pu.q_tup, Pu.q_lst, Pu.q_scr, Pu.s_nil, Pu.s_wipe, Pu.s_freeze, Pu.s_ret, Pu.s_raise, Pu.s_pass, Pu.s_brk, Pu.s_cont, Pu.s_set, Pu.s_setOwn, Pu.own_lst, Pu.s_par, Pu.a_next, Pu.a_ret, Pu.a_brk, Pu.a_cont, Pu.s_iff, Pu.s_for, Pu.s_while, Pu.s_expr, Pu.s_try, Pu.s_aug, Pu.aug_some, Pu.aug_int, Pu.s_app, Pu.app_own, Pu.p_name, Pu.p_tup, Pu.ps_nil, Pu.ps_cons, Pu.v_tp, Pu.tp_val, Pu.tp_cell, Pu.s_tput, Pu.tput_val, Pu.s_tpop, Pu.tpop_val, Pu.s_tnew, Pu.tnew_lst, Pu.z_pure, Pu.z_seed, Pu.z_head, Pu.z_len, Pu.z_pseed, Pu.z_phead, Pu.z_pop, Pu.M.pure_bind, Pu.M.bind_assoc, Pu.M.bind_pure, Pu.M.stuck_bind, Pu.M.throw_bind, Pu.end_bind, Pu.end_ite, Pu.m_ite, Pu.noExc_pure, List.set_cons_zero, List.set_cons_succ, List.getElem?_cons_zero, List.getElem?_cons_succ, List.length_cons, List.length_nil, List.map_cons, List.map_nil, List.cons_append, List.nil_append, Pu.freezeE, Pu.wipeE, Pu.setsE, if_true, if_false, Bool.false_eq_true, reduceIte, Nat.reduceAdd, Nat.reduceSub, Nat.reduceEqDiff, decide_true, decide_false, Bool.not_true, Bool.not_false, Bool.true_and, Bool.and_true, Bool.false_and, Bool.and_false, Bool.true_or, Bool.or_true, Bool.false_or, Bool.or_false, h0, gd_pos le2, hsz]
      exact key b hb (by simpa using h0)
  · rintro σ t ⟨ps, z, rfl, hp, h2, h5, ht⟩
    exact ⟨ps, z, rfl, hp, by simpa using h2, by simpa using h5⟩
  · rintro fl t ⟨ps, z, rfl, hp, h2, h5⟩
    simp only [Pu.end_ret, Pu.end_next, Pu.end_stuck, Pu.end_throw, Pu.v_slot0, Pu.v_slotS, Pu.v_peekV, Pu.v_peekO, Pu.v_peekS, Pu.v_non, Pu.v_bl, Pu.v_int, Pu.v_str, Pu.v_const, Pu.v_fn, Pu.v_tup, Pu.v_lst, Pu.v_neg, Pu.v_nott, Pu.t_nott, Pu.v_bin, Pu.v_cmp, Pu.t_cmp', Pu.v_andd, Pu.t_andd, Pu.v_orr, Pu.t_orr, Pu.v_ite, Pu.v_call, Pu.v_callv0, Pu.v_prim, Pu.v_isi, Pu.v_idx, Pu.v_slc, Pu.v_comp, Pu.o_non, Pu.o_som, Pu.c_non, Pu.c_som, Pu.e_nil, Pu.e_cons, Pu.av_one, Pu.av_cons, Pu.ov_one, Pu.ov_cons, Pu.at_nil, Pu.at_cons, Pu.ot_nil, Pu.ot_cons, Pu.i_seq', Pu.i_rng1, Pu.i_rng2, Pu.i_zip', Pu.i_enum', Pu.t_slot, Pu.t_peek, Pu.t_bl, Pu.t_call, Pu.t_callv, Pu.t_prim, Pu.t_isi, Pu.t_idx, Pu.b_addI, Pu.b_addT, Pu.b_addL, Pu.b_subI, Pu.b_mulI, Pu.b_divI, Pu.b_modI, Pu.c_lt, Pu.c_le, Pu.c_gt, Pu.c_ge, Pu.c_eqI, Pu.c_neI, Pu.c_eqB, Pu.c_neB, Pu.c_isN, Pu.c_notN, Pu.d_bl, Pu.d_int, Pu.u_bl, Pu.u_int, Pu.u_non, Pu.u_tup, Pu.u_lst, Pu.x_tup, Pu.x_lst, Pu.at0, Pu.at1, Pu.at2, Pu.s_some, Pu.s_none, Pu.p_len, Pu.p_lenL, Pu.p_abs, Pu.p_int, Pu.p_all, Pu.p_any, Pu.p_tupL, Pu.p_tupT, Pu.p_lstL, Pu.p_lstT, Pu.q_tup, Pu.q_lst, Pu.q_scr, Pu.s_nil, Pu.s_wipe, Pu.s_freeze, Pu.s_ret, Pu.s_raise, Pu.s_pass, Pu.s_brk, Pu.s_cont, Pu.s_set, Pu.s_setOwn, Pu.own_lst, Pu.s_par, Pu.a_next, Pu.a_ret, Pu.a_brk, Pu.a_cont, Pu.s_iff, Pu.s_for, Pu.s_while, Pu.s_expr, Pu.s_try, Pu.s_aug, Pu.aug_some, Pu.aug_int, Pu.s_app, Pu.app_own, Pu.p_name, Pu.p_tup, Pu.ps_nil, Pu.ps_cons, Pu.v_tp, Pu.tp_val, Pu.tp_cell, Pu.s_tput, Pu.tput_val, Pu.s_tpop, Pu.tpop_val, Pu.s_tnew, Pu.tnew_lst, Pu.z_pure, Pu.z_seed, Pu.z_head, Pu.z_len, Pu.z_pseed, Pu.z_phead, Pu.z_pop, Pu.M.pure_bind, Pu.M.bind_assoc, Pu.M.bind_pure, Pu.M.stuck_bind, Pu.M.throw_bind, Pu.end_bind, Pu.end_ite, Pu.m_ite, Pu.noExc_pure, List.set_cons_zero, List.set_cons_succ, List.getElem?_cons_zero, List.getElem?_cons_succ, List.length_cons, List.length_nil, List.map_cons, List.map_nil, List.cons_append, List.nil_append, Pu.freezeE, Pu.wipeE, Pu.setsE, if_true, if_false, Bool.false_eq_true, reduceIte, Nat.reduceAdd, Nat.reduceSub, Nat.reduceEqDiff, decide_true, decide_false, Bool.not_true, Bool.not_false, Bool.true_and, Bool.and_true, Bool.false_and, Bool.and_false, Bool.true_or, Bool.or_true, Bool.false_or, Bool.or_false, tail_ok ps hp h2 h5]
    exact rfl
theorem law_pure (ns : List Int) (hl : ns.length ≤ 63) (hb : ∀ z ∈ ns, Builtin.Int.intBits z ≤ 1048576) : ∃ t, callF X.T 40 "law" [.scr ns] none = .ok (.bl true) t := by
  obtain ⟨d, t, e, rfl⟩ := run_ex (law_ok ns hl)
  exact ⟨t, e⟩
end K00

namespace K00
open PySem PySem.Spec PyProof.Rows L2 Pu
theorem mem_look {α : Type} {x : Str} {d : α} : ∀ {l : List (Str × α)}, lookA x l = some d → (x, d) ∈ l
  | [], h => by cases h
  | (y, e) :: r, h => by
    unfold lookA at h
    split at h
    · rename_i z
      cases h
      rw [z]
      exact List.mem_cons_self
    · exact List.mem_cons_of_mem _ (mem_look h)
theorem txc : TxC X := by
  refine ⟨fun f d h => ?_, fun f h => ?_⟩
  · have hm : (f, d) ∈ defs := by
      have go : ∀ {l : List (Str × Df)}, lookD f l = some d → (f, d) ∈ l := by
        intro l
        induction l with
        | nil => intro h; cases h
        | cons q r ih =>
          intro h
          obtain ⟨y, e⟩ := q
          unfold lookD at h
          split at h
          · rename_i z
            cases h
            rw [z]
            exact List.mem_cons_self
          · exact List.mem_cons_of_mem _ (ih h)
      exact go h
    exact List.all_eq_true.mp ck_all (f, d) hm
  · have h : [("divide" : Str), ("make" : Str), ("power" : Str)].contains f = true := h
    have hm := List.contains_iff_mem.mp h
    have key : ([("divide" : Str), ("make" : Str), ("power" : Str)].all fun f => decide (X.kn f = some true)) = true := by decide +kernel
    exact of_decide_eq_true (List.all_eq_true.mp key f hm)
theorem kf {K : PySem.W.Frag} (f0 : FnFact X K ("is_integer" : Str)) (f1 : FnFact X K ("is_ratio" : Str)) (f2 : FnFact X K ("divisor" : Str)) (f3 : FnFact X K ("make" : Str)) (f4 : FnFact X K ("of" : Str)) (f5 : FnFact X K ("add" : Str)) (f6 : FnFact X K ("subtract" : Str)) (f7 : FnFact X K ("multiply" : Str)) (f8 : FnFact X K ("divide" : Str)) (f9 : FnFact X K ("power" : Str)) (f10 : FnFact X K ("less" : Str)) (f11 : FnFact X K ("negative" : Str)) (f12 : FnFact X K ("sign" : Str)) (f13 : FnFact X K ("total" : Str)) (f14 : FnFact X K ("dot" : Str)) (f15 : FnFact X K ("_law_tape" : Str)) (f16 : FnFact X K ("_law_draw" : Str)) (f17 : FnFact X K ("_law_same" : Str)) (f18 : FnFact X K ("_law_whole" : Str)) (f19 : FnFact X K ("_law_shared" : Str)) (f20 : FnFact X K ("_law_is" : Str)) (f21 : FnFact X K ("_law_refused" : Str)) (f22 : FnFact X K ("_law_powers" : Str)) (f23 : FnFact X K ("_law_odd" : Str)) (f24 : FnFact X K ("law" : Str)) (b0 : PySem.W.nsIn K mainGlobals ("abs" : Str) = some none) (b1 : PySem.W.nsIn K mainGlobals ("all" : Str) = some none) (b2 : PySem.W.nsIn K mainGlobals ("bool" : Str) = some none) (b3 : PySem.W.nsIn K mainGlobals ("enumerate" : Str) = some none) (b4 : PySem.W.nsIn K mainGlobals ("int" : Str) = some none) (b5 : PySem.W.nsIn K mainGlobals ("isinstance" : Str) = some none) (b6 : PySem.W.nsIn K mainGlobals ("len" : Str) = some none) (b7 : PySem.W.nsIn K mainGlobals ("list" : Str) = some none) (b8 : PySem.W.nsIn K mainGlobals ("range" : Str) = some none) (b9 : PySem.W.nsIn K mainGlobals ("str" : Str) = some none) (b10 : PySem.W.nsIn K mainGlobals ("tuple" : Str) = some none) (b11 : PySem.W.nsIn K mainGlobals ("zip" : Str) = some none) (c0 : ctB K ("ZERO" : Str) (.tup [(.int 0), (.int 1)])) (c1 : ctB K ("ONE" : Str) (.tup [(.int 1), (.int 1)])) (e0 : ExFact K ("BelowError" : Str)) (e1 : ExFact K ("BadNumber" : Str)) (p0_0 : ExPair K ("BelowError" : Str) ("BelowError" : Str) true) (p0_1 : ExPair K ("BelowError" : Str) ("BadNumber" : Str) false) (p1_0 : ExPair K ("BadNumber" : Str) ("BelowError" : Str) true) (p1_1 : ExPair K ("BadNumber" : Str) ("BadNumber" : Str) true) : KF X K where
  fn := fun f hf => by
    have hm : (f, true) ∈ knL := mem_look hf
    have all : ∀ q ∈ knL, q.2 = true → FnFact X K q.1 := by
      unfold knL
      simp only [List.forall_mem_cons]
      exact ⟨fun _ => f0, fun _ => f1, fun _ => f2, fun _ => f3, fun _ => f4, fun _ => f5, fun _ => f6, fun _ => f7, fun _ => f8, fun _ => f9, fun _ => f10, fun _ => f11, fun _ => f12, fun _ => f13, fun _ => f14, fun _ => f15, fun _ => f16, fun _ => f17, fun _ => f18, fun _ => f19, fun _ => f20, fun _ => f21, fun _ => f22, fun _ => f23, fun _ => f24, nofun, nofun, nofun, nofun, nofun, nofun, nofun, nofun, nofun, nofun, nofun, nofun, fun _ z => absurd z List.not_mem_nil⟩
    exact all _ hm rfl
  bl := fun f hf => by
    have hm : (f, false) ∈ knL := mem_look hf
    have all : ∀ q ∈ knL, q.2 = false → PySem.W.nsIn K mainGlobals q.1 = some none := by
      unfold knL
      simp only [List.forall_mem_cons]
      exact ⟨nofun, nofun, nofun, nofun, nofun, nofun, nofun, nofun, nofun, nofun, nofun, nofun, nofun, nofun, nofun, nofun, nofun, nofun, nofun, nofun, nofun, nofun, nofun, nofun, nofun, fun _ => b0, fun _ => b1, fun _ => b2, fun _ => b3, fun _ => b4, fun _ => b5, fun _ => b6, fun _ => b7, fun _ => b8, fun _ => b9, fun _ => b10, fun _ => b11, fun _ z => absurd z List.not_mem_nil⟩
    exact all _ hm rfl
  ct := fun x d hx => by
    have hm : (x, d) ∈ coL := mem_look hx
    have all : ∀ q ∈ coL, ctB K q.1 q.2 := by
      unfold coL
      simp only [List.forall_mem_cons]
      exact ⟨c0, c1, fun _ z => absurd z List.not_mem_nil⟩
    obtain ⟨v, u, h1, h2, h3⟩ := all _ hm
    exact ⟨v, u, h1, h2, h3 _ rfl⟩
  ex := fun c hc => by
    have hm : c ∈ exL := List.contains_iff_mem.mp hc
    have all : ∀ q ∈ exL, ExFact K q := by
      unfold exL
      simp only [List.forall_mem_cons]
      exact ⟨e0, e1, fun _ z => absurd z List.not_mem_nil⟩
    exact all _ hm
  hd := fun c x hc hx => by
    have h1 : c ∈ exL := List.contains_iff_mem.mp hc
    have h2 : x ∈ exL := List.contains_iff_mem.mp hx
    have all : ∀ c ∈ exL, ∀ x ∈ exL, ExPair K c x (sb.sub c x) := by
      have e : ∀ c x b, sb.sub c x = b → ExPair K c x b → ExPair K c x (sb.sub c x) := fun c x b e h => by rw [e]; exact h
      unfold exL
      simp only [List.forall_mem_cons]
      exact ⟨⟨e _ _ true (by decide +kernel) p0_0, e _ _ false (by decide +kernel) p0_1, fun _ z => absurd z List.not_mem_nil⟩, ⟨e _ _ true (by decide +kernel) p1_0, e _ _ true (by decide +kernel) p1_1, fun _ z => absurd z List.not_mem_nil⟩, fun _ z => absurd z List.not_mem_nil⟩
    exact exPair_at (all _ h1 _ h2)
end K00
open PySem PySem.W PyProof.Rows
set_option maxHeartbeats 0 in
theorem PySem.Challenge.cw_nowherebelow_k00_whole_fractions_reckone_holds : PySem.Challenge.rw_nowherebelow_k00_whole_fractions_reckone.Holds := by
  w_on; o_law; k_head; (case hw => w_witness2)
  k_fill
  refine L2.walk_ofB (l := PySem.Challenge.rw_nowherebelow_k00_whole_fractions_reckone) (n := 63) (k := 40) (x := "script") (CX := fun w => L2.CX PySem.Challenge.pw_nowherebelow_k00_whole_fractions_reckone w) (sp := fun w => Pu.spOf (Pu.bOf K00.X _) 1 (Pu.callF K00.X.T 40 "law")) rfl (by decide) rfl ⟨rfl, by decide, by decide⟩ (fun w h Y => PySem.W.kIn_of Y) ?F (fun w H a ns hl hb _ hS => (K00.law_pure ns hl hb).elim fun t h => Pu.law_sp hS h) (fun w H s e s' h => Pu.cx_no h)
  case F =>
    intro w mg fa h KX G hmg
    refine Pu.law_F (P := PySem.Challenge.pw_nowherebelow_k00_whole_fractions_reckone) K00.txc ?kf (fun f hf => ?hp) KX G hmg (by decide +kernel) (by decide +kernel) (fun fd hfd s v => ?bd)
    case hp =>
      have hm : (f, true) ∈ K00.knL := K00.mem_look hf
      have all : (K00.knL.all fun q => !q.2 || (Pu.lookD q.1 K00.defs).isSome) = true := by decide +kernel
      exact List.all_eq_true.mp all _ hm
    case bd =>
      obtain ⟨oc, od, kV, doc, pm, an, cdv, ct, osl, rfl, _, _⟩ := hfd.ex
      exact .of_eq rfl
    case kf =>
      refine' K00.kf ?_ ?_ ?_ ?_ ?_ ?_ ?_ ?_ ?_ ?_ ?_ ?_ ?_ ?_ ?_ ?_ ?_ ?_ ?_ ?_ ?_ ?_ ?_ ?_ ?_ ?_ ?_ ?_ ?_ ?_ ?_ ?_ ?_ ?_ ?_ ?_ ?_ ?_ ?_ ?_ ?_ ?_ ?_ ?_ ?_
      · refine' Pu.fnFact_mk (st := K00.topS 6) rfl ?a ?l ?c ?k ?b; (case a => k_is); (case l => k_is); (case c => k_is); (case k => k_is); (case b => exact fun us hl => match us, hl with | [_], _ => rfl)
      · refine' Pu.fnFact_mk (st := K00.topS 7) rfl ?a ?l ?c ?k ?b; (case a => k_is); (case l => k_is); (case c => k_is); (case k => k_is); (case b => exact fun us hl => match us, hl with | [_], _ => rfl)
      · refine' Pu.fnFact_mk (st := K00.topS 8) rfl ?a ?l ?c ?k ?b; (case a => k_is); (case l => k_is); (case c => k_is); (case k => k_is); (case b => exact fun us hl => match us, hl with | [_, _], _ => rfl)
      · refine' Pu.fnFact_mk (st := K00.topS 9) rfl ?a ?l ?c ?k ?b; (case a => k_is); (case l => k_is); (case c => k_is); (case k => k_is); (case b => exact fun us hl => match us, hl with | [_, _], _ => rfl)
      · refine' Pu.fnFact_mk (st := K00.topS 10) rfl ?a ?l ?c ?k ?b; (case a => k_is); (case l => k_is); (case c => k_is); (case k => k_is); (case b => exact fun us hl => match us, hl with | [_], _ => rfl)
      · refine' Pu.fnFact_mk (st := K00.topS 11) rfl ?a ?l ?c ?k ?b; (case a => k_is); (case l => k_is); (case c => k_is); (case k => k_is); (case b => exact fun us hl => match us, hl with | [_, _], _ => rfl)
      · refine' Pu.fnFact_mk (st := K00.topS 12) rfl ?a ?l ?c ?k ?b; (case a => k_is); (case l => k_is); (case c => k_is); (case k => k_is); (case b => exact fun us hl => match us, hl with | [_, _], _ => rfl)
      · refine' Pu.fnFact_mk (st := K00.topS 13) rfl ?a ?l ?c ?k ?b; (case a => k_is); (case l => k_is); (case c => k_is); (case k => k_is); (case b => exact fun us hl => match us, hl with | [_, _], _ => rfl)
      · refine' Pu.fnFact_mk (st := K00.topS 14) rfl ?a ?l ?c ?k ?b; (case a => k_is); (case l => k_is); (case c => k_is); (case k => k_is); (case b => exact fun us hl => match us, hl with | [_, _], _ => rfl)
      · refine' Pu.fnFact_mk (st := K00.topS 15) rfl ?a ?l ?c ?k ?b; (case a => k_is); (case l => k_is); (case c => k_is); (case k => k_is); (case b => exact fun us hl => match us, hl with | [_, _], _ => rfl)
      · refine' Pu.fnFact_mk (st := K00.topS 16) rfl ?a ?l ?c ?k ?b; (case a => k_is); (case l => k_is); (case c => k_is); (case k => k_is); (case b => exact fun us hl => match us, hl with | [_, _], _ => rfl)
      · refine' Pu.fnFact_mk (st := K00.topS 17) rfl ?a ?l ?c ?k ?b; (case a => k_is); (case l => k_is); (case c => k_is); (case k => k_is); (case b => exact fun us hl => match us, hl with | [_], _ => rfl)
      · refine' Pu.fnFact_mk (st := K00.topS 18) rfl ?a ?l ?c ?k ?b; (case a => k_is); (case l => k_is); (case c => k_is); (case k => k_is); (case b => exact fun us hl => match us, hl with | [_], _ => rfl)
      · refine' Pu.fnFact_mk (st := K00.topS 19) rfl ?a ?l ?c ?k ?b; (case a => k_is); (case l => k_is); (case c => k_is); (case k => k_is); (case b => exact fun us hl => match us, hl with | [_], _ => rfl)
      · refine' Pu.fnFact_mk (st := K00.topS 20) rfl ?a ?l ?c ?k ?b; (case a => k_is); (case l => k_is); (case c => k_is); (case k => k_is); (case b => exact fun us hl => match us, hl with | [_, _], _ => rfl)
      · refine' Pu.fnFact_mk (st := K00.topS 22) rfl ?a ?l ?c ?k ?b; (case a => k_is); (case l => k_is); (case c => k_is); (case k => k_is); (case b => exact fun us hl => match us, hl with | [_], _ => rfl)
      · refine' Pu.fnFact_mk (st := K00.topS 23) rfl ?a ?l ?c ?k ?b; (case a => k_is); (case l => k_is); (case c => k_is); (case k => k_is); (case b => exact fun us hl => match us, hl with | [_, _], _ => rfl)
      · refine' Pu.fnFact_mk (st := K00.topS 24) rfl ?a ?l ?c ?k ?b; (case a => k_is); (case l => k_is); (case c => k_is); (case k => k_is); (case b => exact fun us hl => match us, hl with | [_, _], _ => rfl)
      · refine' Pu.fnFact_mk (st := K00.topS 25) rfl ?a ?l ?c ?k ?b; (case a => k_is); (case l => k_is); (case c => k_is); (case k => k_is); (case b => exact fun us hl => match us, hl with | [_], _ => rfl)
      · refine' Pu.fnFact_mk (st := K00.topS 26) rfl ?a ?l ?c ?k ?b; (case a => k_is); (case l => k_is); (case c => k_is); (case k => k_is); (case b => exact fun us hl => match us, hl with | [_, _], _ => rfl)
      · refine' Pu.fnFact_mk (st := K00.topS 27) rfl ?a ?l ?c ?k ?b; (case a => k_is); (case l => k_is); (case c => k_is); (case k => k_is); (case b => exact fun us hl => match us, hl with | [_, _, _], _ => rfl)
      · refine' Pu.fnFact_mk (st := K00.topS 28) rfl ?a ?l ?c ?k ?b; (case a => k_is); (case l => k_is); (case c => k_is); (case k => k_is); (case b => exact fun us hl => match us, hl with | [_, _, _], _ => rfl)
      · refine' Pu.fnFact_mk (st := K00.topS 29) rfl ?a ?l ?c ?k ?b; (case a => k_is); (case l => k_is); (case c => k_is); (case k => k_is); (case b => exact fun us hl => match us, hl with | [_], _ => rfl)
      · refine' Pu.fnFact_mk (st := K00.topS 30) rfl ?a ?l ?c ?k ?b; (case a => k_is); (case l => k_is); (case c => k_is); (case k => k_is); (case b => exact fun us hl => match us, hl with | [], _ => rfl)
      · refine' Pu.fnFact_mk (st := K00.topS 31) rfl ?a ?l ?c ?k ?b; (case a => k_is); (case l => k_is); (case c => k_is); (case k => k_is); (case b => exact fun us hl => match us, hl with | [_], _ => rfl)
      · k_is
      · k_is
      · k_is
      · k_is
      · k_is
      · k_is
      · k_is
      · k_is
      · k_is
      · k_is
      · k_is
      · k_is
      · refine' Pu.ct_two ?a ?l; (case a => k_is); (case l => k_is)
      · refine' Pu.ct_two ?a ?l; (case a => k_is); (case l => k_is)
      · refine' Pu.exFact_mk PySem.F.excBase_ValueError ?xa ?xk ?xq ?xb ?xt; (case xa => k_is); (case xk => k_is); (case xq => k_exc); (case xb => k_is); (case xt => k_is)
      · refine' Pu.exFact_mk PySem.F.excBase_ValueError ?xa ?xk ?xq ?xb ?xt; (case xa => k_is); (case xk => k_is); (case xq => k_exc); (case xb => k_is); (case xt => k_is)
      · refine' Pu.exPair_mk ?ya ?yb ?yc ?yd ?ye ?yf; (case ya => k_is); (case yb => k_is); (case yc => k_is); (case yd => k_is); (case ye => k_is); (case yf => first | rfl | k_is)
      · refine' Pu.exPair_mk ?ya ?yb ?yc ?yd ?ye ?yf; (case ya => k_is); (case yb => k_is); (case yc => k_is); (case yd => k_is); (case ye => k_is); (case yf => first | rfl | k_is)
      · refine' Pu.exPair_mk ?ya ?yb ?yc ?yd ?ye ?yf; (case ya => k_is); (case yb => k_is); (case yc => k_is); (case yd => k_is); (case ye => k_is); (case yf => first | rfl | k_is)
      · refine' Pu.exPair_mk ?ya ?yb ?yc ?yd ?ye ?yf; (case ya => k_is); (case yb => k_is); (case yc => k_is); (case yd => k_is); (case ye => k_is); (case yf => first | rfl | k_is)
