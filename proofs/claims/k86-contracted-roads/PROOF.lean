import PyProof.Rows.All
import Wide.All
import OpenK.AllK
import Wide.FinOn
import HandS.ForMost
import HandS.IsInst
import HandS.TupAny
import HandS.Deep
import HandS.DeepEq
import HandS.Walk
import HandS.Style
import HandS.More
import HandS.Evl
import HandS.TupLe
import HandS.Conv
import KE.GoesMore
import KE.DataMinMax
import HandS.OwnEq
import HandS.ExcInit
import HandS.ExcField
import HandS.ExcIs
import HandS.WordsExc
import HandS.ExcCtx
import HandS.HotCalls
import HandS.ExcInitHot
import KE.KExcIs
import PySem.Challenge.RW_endsalike_k86_contracted_roads
set_option Elab.async false
set_option linter.all false
set_option maxRecDepth 100000
/-! M layer: values as immutable data, the slots of a def as a list of data, the heap hidden. -/
namespace ML
open PySem L2

/-- immutable data -/
inductive D where
  | non | bl (b : Bool) | int (i : Int) | str (x : Str)
  | tup (ds : List D) | lst (ds : List D)
  | ob (C : Addr) (ns : List Str) (ds : List D)
  | scr (ns : List Int)
  | raw (v : V)

/-! v stands for d, by what stands in G -/
mutual
inductive Rp (K : PySem.W.Frag) (G : Hp) : V → D → Prop
  | non : Rp K G .non .non
  | bl (b : Bool) : Rp K G (.bl b) (.bl b)
  | int (i : Int) : Rp K G (.int i) (.int i)
  | str (x : Str) : Rp K G (.str x) (.str x)
  | tup {a : Addr} {xs : List V} {ds : List D} : G a = some (.tup xs) → RpAll K G xs ds → Rp K G (.ref a) (.tup ds)
  | lst {a : Addr} {xs : List V} {ds : List D} : G a = some (.lst xs) → RpAll K G xs ds → Rp K G (.ref a) (.lst ds)
  | ob {a C dx : Addr} {ns : List Str} {xs : List V} {ds : List D} : ns.length = xs.length → G a = some (.ins C dx (ns.zip xs)) → RpAll K G xs ds → Rp K G (.ref a) (.ob C ns ds)
  | scr {a : Addr} {ns : List Int} : SqL K G a (ns.map V.int) → Rp K G (.ref a) (.scr ns)
  | raw (v : V) : Rp K G v (.raw v)
inductive RpAll (K : PySem.W.Frag) (G : Hp) : List V → List D → Prop
  | nil : RpAll K G [] []
  | cons {v : V} {vs : List V} {d : D} {ds : List D} : Rp K G v d → RpAll K G vs ds → RpAll K G (v :: vs) (d :: ds)
end

section
variable {K : PySem.W.Frag} {G G' : Hp}
mutual
theorem Rp.mono (e : Same G G') : ∀ {v : V} {d : D}, Rp K G v d → Rp K G' v d
  | _, _, .non => .non
  | _, _, .bl b => .bl b
  | _, _, .int i => .int i
  | _, _, .str x => .str x
  | _, _, .tup h r => .tup (e _ _ h) (RpAll.mono e r)
  | _, _, .lst h r => .lst (e _ _ h) (RpAll.mono e r)
  | _, _, .ob n h r => .ob n (e _ _ h) (RpAll.mono e r)
  | _, _, .scr h => .scr (e.seq h)
  | _, _, .raw v => .raw v
theorem RpAll.mono (e : Same G G') : ∀ {vs : List V} {ds : List D}, RpAll K G vs ds → RpAll K G' vs ds
  | _, _, .nil => .nil
  | _, _, .cons r t => .cons (Rp.mono e r) (RpAll.mono e t)
end
theorem RpAll.len : ∀ {vs : List V} {ds : List D}, RpAll K G vs ds → vs.length = ds.length
  | _, _, .nil => rfl
  | _, _, .cons _ t => by simp [t.len]
theorem RpAll.get : ∀ {vs : List V} {ds : List D} {i : Nat} {d : D}, RpAll K G vs ds → ds[i]? = some d → ∃ v, vs[i]? = some v ∧ Rp K G v d
  | _, _, _, _, .nil, e => by simp at e
  | _, _, 0, _, .cons r _, e => by simp at e; subst e; exact ⟨_, rfl, r⟩
  | _, _, i + 1, d, .cons _ t, e => by
    obtain ⟨v, h1, h2⟩ := RpAll.get (i := i) (d := d) t (by simpa using e)
    exact ⟨v, by simpa using h1, h2⟩
theorem RpAll.getV : ∀ {vs : List V} {ds : List D} {i : Nat} {v : V}, RpAll K G vs ds → vs[i]? = some v → ∃ d, ds[i]? = some d ∧ Rp K G v d
  | _, _, _, _, .nil, e => by simp at e
  | _, _, 0, _, .cons r _, e => by simp at e; subst e; exact ⟨_, rfl, r⟩
  | _, _, i + 1, d, .cons _ t, e => by
    obtain ⟨v, h1, h2⟩ := RpAll.getV (i := i) (v := d) t (by simpa using e)
    exact ⟨v, by simpa using h1, h2⟩
theorem RpAll.app : ∀ {vs ws : List V} {ds es : List D}, RpAll K G vs ds → RpAll K G ws es → RpAll K G (vs ++ ws) (ds ++ es)
  | _, _, _, _, .nil, t => t
  | _, _, _, _, .cons r s, t => .cons r (RpAll.app s t)
theorem RpAll.take (n : Nat) : ∀ {vs : List V} {ds : List D}, RpAll K G vs ds → RpAll K G (vs.take n) (ds.take n) := by
  induction n with
  | zero => intro vs ds _; exact .nil
  | succ n ih =>
    intro vs ds h
    cases h with
    | nil => exact .nil
    | cons r t => exact .cons r (ih t)
theorem RpAll.drop (n : Nat) : ∀ {vs : List V} {ds : List D}, RpAll K G vs ds → RpAll K G (vs.drop n) (ds.drop n) := by
  induction n with
  | zero => intro vs ds h; exact h
  | succ n ih =>
    intro vs ds h
    cases h with
    | nil => exact .nil
    | cons r t => exact ih t
theorem RpAll.set (n : Nat) {v : V} {d : D} (q : Rp K G v d) : ∀ {vs : List V} {ds : List D}, RpAll K G vs ds → RpAll K G (vs.set n v) (ds.set n d) := by
  induction n with
  | zero =>
    intro vs ds h
    cases h with
    | nil => exact .nil
    | cons r t => exact .cons q t
  | succ n ih =>
    intro vs ds h
    cases h with
    | nil => exact .nil
    | cons r t => exact .cons r (ih t)
theorem RpAll.dropLast {vs : List V} {ds : List D} (h : RpAll K G vs ds) : RpAll K G vs.dropLast ds.dropLast := by
  rw [List.dropLast_eq_take, List.dropLast_eq_take, h.len]
  exact h.take _
theorem RpAll.rev : ∀ {vs : List V} {ds : List D}, RpAll K G vs ds → RpAll K G vs.reverse ds.reverse
  | _, _, .nil => .nil
  | _, _, .cons r t => by
    rw [List.reverse_cons, List.reverse_cons]
    exact RpAll.app (RpAll.rev t) (.cons r .nil)
theorem RpAll.rep (n : Nat) {vs : List V} {ds : List D} (h : RpAll K G vs ds) : RpAll K G (List.replicate n vs).flatten (List.replicate n ds).flatten := by
  induction n with
  | zero => exact .nil
  | succ n ih =>
    rw [List.replicate_succ, List.replicate_succ, List.flatten_cons, List.flatten_cons]
    exact h.app ih
theorem RpAll.ints : ∀ (ns : List Int), RpAll K G (ns.map V.int) (ns.map D.int)
  | [] => .nil
  | n :: ns => .cons (.int n) (RpAll.ints ns)
theorem RpAll.intsV : ∀ {vs : List V} (ns : List Int), RpAll K G vs (ns.map D.int) → vs = ns.map V.int
  | _, [], h => by cases h; rfl
  | _, n :: ns, h => by
    cases h with
    | cons r t =>
      cases r
      rw [RpAll.intsV ns t]
      rfl
end

/-- new things come, nothing else changes: G what is frozen, H all -/
structure Up (G H G' H' : Hp) : Prop where
  g : Same G G'
  h : Same H H'
  i : Same G' H'
  f : ∀ a o, H a = some o → G a = none → G' a = none
theorem Up.refl {G H : Hp} (e : Same G H) : Up G H G H := ⟨.refl _, .refl _, e, fun _ _ _ h => h⟩
theorem Up.trans {G H G1 H1 G2 H2 : Hp} (a : Up G H G1 H1) (b : Up G1 H1 G2 H2) : Up G H G2 H2 :=
  ⟨a.g.trans b.g, a.h.trans b.h, b.i, fun x o h n => b.f x o (a.h _ _ h) (a.f x o h n)⟩
theorem Same.new {H : Hp} {p : Addr} {o : HO} (h : H p = none) : Same H (upd H p o) := fun a u e => by
  rw [upd_ne (ne_of_none e h)]; exact e
/-- a new object, frozen at once -/
theorem Up.new {G H : Hp} {p : Addr} {o : HO} (e : Same G H) (h : H p = none) : Up G H (upd G p o) (upd H p o) := by
  refine ⟨Same.new ?_, Same.new h, fun a u q => ?_, fun a u q n => ?_⟩
  · cases q : G p with
    | none => rfl
    | some o => rw [e _ _ q] at h; cases h
  · by_cases z : a = p
    · subst z; rw [upd_same] at q ⊢; exact q
    · rw [upd_ne z] at q ⊢; exact e _ _ q
  · rw [upd_ne (ne_of_none q h)]; exact n
/-- a new object, not frozen -/
theorem Up.newO {G H : Hp} {p : Addr} {o : HO} (e : Same G H) (h : H p = none) : Up G H G (upd H p o) :=
  ⟨.refl _, Same.new h, fun a u q => by rw [upd_ne (ne_of_none (e _ _ q) h)]; exact e _ _ q, fun _ _ _ n => n⟩
/-- an object that nobody knew is frozen -/
theorem Up.ice {G H G' H' : Hp} {p : Addr} {o : HO} (u : Up G H G' H') (h : H p = none) (h' : H' p = some o) (g' : G' p = none) : Up G H (upd G' p o) H' := by
  refine ⟨fun a x q => ?_, u.h, fun a x q => ?_, fun a x q n => ?_⟩
  · rw [upd_ne (ne_of_none (u.g _ _ q) g')]; exact u.g _ _ q
  · by_cases z : a = p
    · subst z; rw [upd_same] at q; rw [h']; exact q
    · rw [upd_ne z] at q; exact u.i _ _ q
  · rw [upd_ne (ne_of_none q h)]; exact u.f a x q n

/-- what a slot of a def is known to hold: nothing known, data, a list of the def's own (that it changes) -/
inductive Slot where
  | no | d (d : D) | o (ds : List D)

structure IM (K : PySem.W.Frag) (G0 H0 : Hp) (M : List Slot) (G : Hp) (σ : L2.St) (H : Hp) : Prop where
  up : Up G0 H0 G H
  len : σ.length = M.length
  sd : ∀ (i : Nat) (d : D), M[i]? = some (.d d) → ∃ v, σ[i]? = some (some v) ∧ Rp K G v d
  so : ∀ (i : Nat) (ds : List D), M[i]? = some (.o ds) → ∃ p vs, σ[i]? = some (some (.ref p)) ∧ H0 p = none ∧ G p = none ∧ H p = some (.lst vs) ∧ RpAll K G vs ds
  inj : ∀ (i j : Nat) (ds es : List D) (p : Addr), M[i]? = some (.o ds) → M[j]? = some (.o es) → σ[i]? = some (some (.ref p)) → σ[j]? = some (some (.ref p)) → i = j

section
variable {K : PySem.W.Frag} {G0 H0 G G' H H' : Hp} {M : List Slot} {σ : L2.St}
theorem IM.gh (I : IM K G0 H0 M G σ H) : Same G H := I.up.i
theorem IM.ext (I : IM K G0 H0 M G σ H) (u : Up G H G' H') : IM K G0 H0 M G' σ H' where
  up := I.up.trans u
  len := I.len
  sd := fun i d e => let ⟨v, a, r⟩ := I.sd i d e; ⟨v, a, r.mono u.g⟩
  so := fun i ds e => let ⟨p, vs, a, b, c, d, r⟩ := I.so i ds e; ⟨p, vs, a, b, u.f p _ d c, u.h _ _ d, r.mono u.g⟩
  inj := I.inj
theorem IM.set (I : IM K G0 H0 M G σ H) {v : V} {d : D} (r : Rp K G v d) (i : Nat) : IM K G0 H0 (M.set i (.d d)) G (σ.set i (some v)) H where
  up := I.up
  len := by rw [List.length_set, List.length_set, I.len]
  sd := fun j e h => by
    by_cases z : i = j
    · subst z
      by_cases l : i < M.length
      · rw [List.getElem?_set_self l] at h
        cases h
        exact ⟨v, List.getElem?_set_self (by rw [I.len]; exact l), r⟩
      · rw [List.getElem?_eq_none (by rw [List.length_set]; omega)] at h; cases h
    · rw [List.getElem?_set_ne z] at h
      obtain ⟨w, a, b⟩ := I.sd j e h
      exact ⟨w, by rw [List.getElem?_set_ne z]; exact a, b⟩
  so := fun j e h => by
    by_cases z : i = j
    · subst z
      by_cases l : i < M.length
      · rw [List.getElem?_set_self l] at h; cases h
      · rw [List.getElem?_eq_none (by rw [List.length_set]; omega)] at h; cases h
    · rw [List.getElem?_set_ne z] at h
      obtain ⟨p, vs, a, b⟩ := I.so j e h
      exact ⟨p, vs, by rw [List.getElem?_set_ne z]; exact a, b⟩
  inj := fun j k ds es p h1 h2 a b => by
    by_cases z : i = j
    · subst z
      by_cases l : i < M.length
      · rw [List.getElem?_set_self l] at h1; cases h1
      · rw [List.getElem?_eq_none (by rw [List.length_set]; omega)] at h1; cases h1
    · by_cases y : i = k
      · subst y
        by_cases l : i < M.length
        · rw [List.getElem?_set_self l] at h2; cases h2
        · rw [List.getElem?_eq_none (by rw [List.length_set]; omega)] at h2; cases h2
      · rw [List.getElem?_set_ne z] at h1 a
        rw [List.getElem?_set_ne y] at h2 b
        exact I.inj j k ds es p h1 h2 a b
/-- a list of one's own that nobody else knows -/
theorem IM.setO (I : IM K G0 H0 M G σ H) {p : Addr} {vs : List V} {ds : List D} (h0 : H0 p = none) (g : G p = none) (h : H p = some (.lst vs)) (r : RpAll K G vs ds)
    (n : ∀ (j : Nat) (es : List D), M[j]? = some (Slot.o es) → σ[j]? = some (some (V.ref p)) → False) (i : Nat) : IM K G0 H0 (M.set i (.o ds)) G (σ.set i (some (.ref p))) H where
  up := I.up
  len := by rw [List.length_set, List.length_set, I.len]
  sd := fun j e q => by
    by_cases z : i = j
    · subst z
      by_cases l : i < M.length
      · rw [List.getElem?_set_self l] at q; cases q
      · rw [List.getElem?_eq_none (by rw [List.length_set]; omega)] at q; cases q
    · rw [List.getElem?_set_ne z] at q
      obtain ⟨w, a, b⟩ := I.sd j e q
      exact ⟨w, by rw [List.getElem?_set_ne z]; exact a, b⟩
  so := fun j e q => by
    by_cases z : i = j
    · subst z
      by_cases l : i < M.length
      · rw [List.getElem?_set_self l] at q
        cases q
        exact ⟨p, vs, List.getElem?_set_self (by rw [I.len]; exact l), h0, g, h, r⟩
      · rw [List.getElem?_eq_none (by rw [List.length_set]; omega)] at q; cases q
    · rw [List.getElem?_set_ne z] at q
      obtain ⟨p, vs, a, b⟩ := I.so j e q
      exact ⟨p, vs, by rw [List.getElem?_set_ne z]; exact a, b⟩
  inj := fun j k ds' es' q h1 h2 a b => by
    by_cases z : i = j
    · by_cases y : i = k
      · rw [← z, ← y]
      · subst z
        have l : i < M.length := by
          by_cases l : i < M.length
          · exact l
          · rw [List.getElem?_eq_none (by rw [List.length_set]; omega)] at h1; cases h1
        rw [List.getElem?_set_self (by rw [I.len]; exact l)] at a
        rw [List.getElem?_set_ne y] at h2 b
        cases a
        exact (n k _ h2 b).elim
    · by_cases y : i = k
      · subst y
        have l : i < M.length := by
          by_cases l : i < M.length
          · exact l
          · rw [List.getElem?_eq_none (by rw [List.length_set]; omega)] at h2; cases h2
        rw [List.getElem?_set_self (by rw [I.len]; exact l)] at b
        rw [List.getElem?_set_ne z] at h1 a
        cases b
        exact (n j _ h1 a).elim
      · rw [List.getElem?_set_ne z] at h1 a
        rw [List.getElem?_set_ne y] at h2 b
        exact I.inj j k ds' es' q h1 h2 a b
/-- the own list in slot i is changed -/
theorem IM.write (I : IM K G0 H0 M G σ H) {i : Nat} {ds ds' : List D} {p : Addr} {vs' : List V} (hi : M[i]? = some (.o ds)) (hs : σ[i]? = some (some (.ref p))) (r : RpAll K G vs' ds') :
    IM K G0 H0 (M.set i (.o ds')) G σ (upd H p (.lst vs')) := by
  obtain ⟨q, vs, a, b, c, d, _⟩ := I.so i ds hi
  rw [hs] at a; cases a
  have l : i < M.length := (List.getElem?_eq_some_iff.mp hi).1
  refine ⟨⟨I.up.g, fun x o e => ?_, fun x o e => ?_, I.up.f⟩, by rw [List.length_set]; exact I.len, fun j e h => ?_, fun j e h => ?_, fun j k ds1 es1 q h1 h2 a1 b1 => ?_⟩
  · rw [upd_ne (ne_of_none e b)]; exact I.up.h _ _ e
  · rw [upd_ne (ne_of_none e c)]; exact I.up.i _ _ e
  · by_cases z : i = j
    · subst z; rw [List.getElem?_set_self l] at h; cases h
    · rw [List.getElem?_set_ne z] at h; exact I.sd j e h
  · by_cases z : i = j
    · subst z
      rw [List.getElem?_set_self l] at h
      cases h
      exact ⟨p, vs', hs, b, c, upd_same, r⟩
    · rw [List.getElem?_set_ne z] at h
      obtain ⟨q, ws, a2, b2, c2, d2, r2⟩ := I.so j e h
      refine ⟨q, ws, a2, b2, c2, ?_, r2⟩
      rw [upd_ne fun w => z (I.inj i j _ _ p hi h hs (by rw [a2, w]))]
      exact d2
  · have g1 : ∀ {j : Nat} {ds1 : List D}, (M.set i (.o ds'))[j]? = some (.o ds1) → ∃ ds2, M[j]? = some (.o ds2) := fun {j ds1} h => by
      by_cases z : i = j
      · subst z; exact ⟨_, hi⟩
      · rw [List.getElem?_set_ne z] at h; exact ⟨_, h⟩
    obtain ⟨_, h1⟩ := g1 h1
    obtain ⟨_, h2⟩ := g1 h2
    exact I.inj j k _ _ q h1 h2 a1 b1
end

/-- M' knows no less than M'' asks -/
def Le (M M' : List Slot) : Prop := M.length = M'.length ∧ ∀ (i : Nat) (s : Slot), M'[i]? = some s → s = .no ∨ M[i]? = some s
theorem Le.refl (M : List Slot) : Le M M := ⟨rfl, fun _ _ h => .inr h⟩
theorem Le.im {K : PySem.W.Frag} {G0 H0 G H : Hp} {M M' : List Slot} {σ : L2.St} (l : Le M M') (I : IM K G0 H0 M G σ H) : IM K G0 H0 M' G σ H where
  up := I.up
  len := I.len.trans l.1
  sd := fun i d h => by
    rcases l.2 i _ h with e | e
    · cases e
    · exact I.sd i d e
  so := fun i d h => by
    rcases l.2 i _ h with e | e
    · cases e
    · exact I.so i d e
  inj := fun i j ds es p h1 h2 a b => by
    rcases l.2 i _ h1 with e | e
    · cases e
    · rcases l.2 j _ h2 with e' | e'
      · cases e'
      · exact I.inj i j ds es p e e' a b
theorem Le.nil : Le [] [] := ⟨rfl, fun _ _ h => .inr h⟩
theorem Le.cons {s t : Slot} {M M' : List Slot} (h : t = .no ∨ s = t) (l : Le M M') : Le (s :: M) (t :: M') :=
  ⟨by rw [List.length_cons, List.length_cons, l.1], fun i u e => by
    cases i with
    | zero =>
      simp at e
      subst e
      rcases h with h | h
      · exact .inl h
      · right; simp [h]
    | succ i => simpa using l.2 i u (by simpa using e)⟩
theorem Le.no {s : Slot} {M M' : List Slot} (l : Le M M') : Le (s :: M) (.no :: M') := .cons (.inl rfl) l
theorem Le.eq {s t : Slot} {M M' : List Slot} (h : s = t) (l : Le M M') : Le (s :: M) (t :: M') := .cons (.inr h) l
end ML

set_option linter.all false
set_option maxRecDepth 100000
set_option maxHeartbeats 1000000
/-! M layer: the judgements, expressions. -/
namespace ML
open PySem L2 PyProof.Rows

def wE (X : Cx) (e : Expr) : TE := fun σ H Q => ∀ pins s, Inv X pins σ H s → wpAny (model X.prog X.w) X.A (eval e X.env) (EP X pins σ Q) X.xe s
def wT (X : Cx) (e : Expr) : TT := fun σ H Q => ∀ pins s, Inv X pins σ H s → wpAny (model X.prog X.w) X.A (isTrue e X.env (eval e X.env)) (TP X pins σ Q) X.xe s
def wW (X : Cx) (e : Expr) : TT := fun σ H Q => ∀ (whole : Sem Value) pins s, Inv X pins σ H s → wpAny (model X.prog X.w) X.A (isTrue e X.env whole) (TP X pins σ Q) X.xe s
def wA (X : Cx) (es : List Expr) : TA := fun σ H Q => ∀ (pos : Pos) pins s, Inv X pins σ H s → wpAny (model X.prog X.w) X.A (spliced (backTo pos (starEach es X.env))) (AP X pins σ Q) X.xe s
def wO (X : Cx) (e : Option Expr) : TO := fun σ H Q => ∀ pins s, Inv X pins σ H s → wpAny (model X.prog X.w) X.A (evalPart e X.env) (fun u s' => ∃ o H', Inv X pins σ H' s' ∧ IsPart u o ∧ Q o H') X.xe s
def wS (X : Cx) (st : Stmt) : TS := fun D σ H => ∀ pins s, Inv X pins σ H s → wpAny (model X.prog X.w) X.A (exec st X.env) (SP X pins D) X.xe s
def wSs (X : Cx) (st : List Stmt) : TS := fun D σ H => ∀ pins s, Inv X pins σ H s → wpAny (model X.prog X.w) X.A (execs st X.env) (SP X pins D) X.xe s
section
variable {X : Cx} {e : Expr} {es : List Expr} {σ : L2.St} {H : Hp}
theorem pE : PE X e (wE X e) := ⟨fun pins s σ H Q I h => h pins s I⟩
theorem pT : PT X e (wT X e) := ⟨fun pins s σ H Q I h => h pins s I⟩
theorem pW : PW X e (wW X e) := ⟨fun whole pins s σ H Q I h => h whole pins s I⟩
theorem pA : PA X es (wA X es) := ⟨fun pos pins s σ H Q I h => h pos pins s I⟩
theorem pO {e : Option Expr} : PO X e (wO X e) := ⟨fun pins s σ H Q I h => h pins s I⟩
theorem pS {st : Stmt} : PS X st (wS X st) := ⟨fun pins s σ H D I h => h pins s I⟩
theorem pSs {st : List Stmt} : PSs X st (wSs X st) := ⟨fun pins s σ H D I h => h pins s I⟩
theorem wE_of {t : TE} {Q : VK} (h : PE X e t) (q : t σ H Q) : wE X e σ H Q := fun pins s I => h.run pins s σ H Q I q
theorem wT_of {t : TT} {Q : Bool → Hp → Prop} (h : PT X e t) (q : t σ H Q) : wT X e σ H Q := fun pins s I => h.run pins s σ H Q I q
theorem wW_of {t : TT} {Q : Bool → Hp → Prop} (h : PW X e t) (q : t σ H Q) : wW X e σ H Q := fun whole pins s I => h.run whole pins s σ H Q I q
theorem wA_of {t : TA} {Q : List V → Hp → Prop} (h : PA X es t) (q : t σ H Q) : wA X es σ H Q := fun pos pins s I => h.run pos pins s σ H Q I q
theorem wO_of {e : Option Expr} {t : TO} {Q : Option Int → Hp → Prop} (h : PO X e t) (q : t σ H Q) : wO X e σ H Q := fun pins s I => h.run pins s σ H Q I q
theorem wS_of {st : Stmt} {t : TS} {D : Ends} (h : PS X st t) (q : t D σ H) : wS X st D σ H := fun pins s I => h.run pins s σ H D I q
theorem wSs_of {st : List Stmt} {t : TS} {D : Ends} (h : PSs X st t) (q : t D σ H) : wSs X st D σ H := fun pins s I => h.run pins s σ H D I q
theorem wS_ss {st : Stmt} {D : Ends} (q : wS X st D σ H) : wSs X [st] D σ H := wSs_of (pss_one pS) q
end

/-- from slots M the expression gives d -/
def EvD (X : Cx) (M : List Slot) (e : Expr) (d : D) : Prop := ∀ G0 H0 G σ H, IM X.K G0 H0 M G σ H → ∀ Q : VK, (∀ v G' H', Up G H G' H' → Rp X.K G' v d → Q v H') → wE X e σ H Q
/-- .. gives a new list that nobody else knows -/
def EvO (X : Cx) (M : List Slot) (e : Expr) (ds : List D) : Prop := ∀ G0 H0 G σ H, IM X.K G0 H0 M G σ H → ∀ Q : VK,
  (∀ p vs G' H', Up G H G' H' → H p = none → G' p = none → H' p = some (.lst vs) → RpAll X.K G' vs ds → Q (.ref p) H') → wE X e σ H Q
def EvT (X : Cx) (M : List Slot) (e : Expr) (b : Bool) : Prop := ∀ G0 H0 G σ H, IM X.K G0 H0 M G σ H → ∀ Q : Bool → Hp → Prop, (∀ G' H', Up G H G' H' → Q b H') → wT X e σ H Q
def EvW (X : Cx) (M : List Slot) (e : Expr) (b : Bool) : Prop := ∀ G0 H0 G σ H, IM X.K G0 H0 M G σ H → ∀ Q : Bool → Hp → Prop, (∀ G' H', Up G H G' H' → Q b H') → wW X e σ H Q
def EvA (X : Cx) (M : List Slot) (es : List Expr) (ds : List D) : Prop := ∀ G0 H0 G σ H, IM X.K G0 H0 M G σ H → ∀ Q : List V → Hp → Prop, (∀ vs G' H', Up G H G' H' → RpAll X.K G' vs ds → Q vs H') → wA X es σ H Q
def EvP (X : Cx) (M : List Slot) (e : Option Expr) (o : Option Int) : Prop := ∀ G0 H0 G σ H, IM X.K G0 H0 M G σ H → ∀ Q : Option Int → Hp → Prop, (∀ G' H', Up G H G' H' → Q o H') → wO X e σ H Q

section
variable {X : Cx} {M : List Slot} {e a b c : Expr} {es : List Expr} {d d1 d2 d3 : D} {ds : List D} {pos : Pos}
theorem EvO.toD (h : EvO X M e ds) : EvD X M e (.lst ds) := fun G0 H0 G σ H I Q q =>
  h G0 H0 G σ H I Q fun p vs G' H' u n g hp r => q (.ref p) (upd G' p (.lst vs)) H' (u.ice n hp g) (.lst upd_same (r.mono (Same.new g)))
theorem EvD.to {d' : D} (h : EvD X M e d) (w : d = d') : EvD X M e d' := w ▸ h
theorem EvO.to {ds' : List D} (h : EvO X M e ds) (w : ds = ds') : EvO X M e ds' := w ▸ h
theorem EvT.to {x y : Bool} (h : EvT X M e x) (w : x = y) : EvT X M e y := w ▸ h
theorem evd_var (i : Nat) {x : Str} (hM : M[i]? = some (.d d) := by rfl) (hN : X.N[i]? = some x := by rfl) (hv : Vis X.env.scope x := by first | exact Or.inl rfl | exact Or.inr (Or.inl rfl) | exact Or.inr (Or.inr rfl))
    (hd : (x == ("__debug__" : Str)) = false := by decide) (hcd : (x == ("__classdict__" : Str)) = false := by decide) : EvD X M (.Name x pos) d := fun G0 H0 G σ H I Q q => by
  obtain ⟨v, e, r⟩ := I.sd i d hM
  exact wE_of (pe_var hN hv hd hcd) ⟨v, e, q v G H (.refl I.gh) r⟩
theorem vv (i : Nat) {x : Str} (hM : M[i]? = some (.d d)) (hN : X.N[i]? = some x := by rfl) (hv : Vis X.env.scope x := by first | exact Or.inl rfl | exact Or.inr (Or.inl rfl) | exact Or.inr (Or.inr rfl))
    (hd : (x == ("__debug__" : Str)) = false := by decide) (hcd : (x == ("__classdict__" : Str)) = false := by decide) : EvD X M (.Name x pos) d := evd_var i hM hN hv hd hcd
theorem evd_int {i : Int} {j : Nat} : EvD X M (.Constant (.int i) j pos) (.int i) := fun G0 H0 G σ H I Q q => wE_of pe_int (q _ G H (.refl I.gh) (.int i))
theorem evd_bl {i : Bool} {j : Nat} : EvD X M (.Constant (.bool i) j pos) (.bl i) := fun G0 H0 G σ H I Q q => wE_of pe_bl (q _ G H (.refl I.gh) (.bl i))
theorem evd_non {j : Nat} : EvD X M (.Constant .none j pos) .non := fun G0 H0 G σ H I Q q => wE_of pe_non (q _ G H (.refl I.gh) .non)
theorem evd_str {x : Str} {j : Nat} : EvD X M (.Constant (.str x) j pos) (.str x) := fun G0 H0 G σ H I Q q => wE_of pe_str (q _ G H (.refl I.gh) (.str x))
/-- a constant of the module -/
theorem evd_glI {x : Str} {i : Int} {t : Tok} (hm : X.mg x = some (.int i t)) (hg : Gl X x := by rfl) (hd : (x == ("__debug__" : Str)) = false := by decide) : EvD X M (.Name x pos) (.int i) := fun G0 H0 G σ H I Q q =>
  wE_of (pe_glob (v := .int i) hg hm ⟨_, rfl⟩ hd) (q _ G H (.refl I.gh) (.int i))

/-- an operation on two values -/
def OpD (X : Cx) (f : Value → Value → Sem Value) (d1 d2 d : D) : Prop := ∃ r : R2, OpR X f r ∧ ∀ (G H : Hp) (v1 v2 : V), Same G H → Rp X.K G v1 d1 → Rp X.K G v2 d2 → ∀ Q : VK, (∀ v G' H', Up G H G' H' → Rp X.K G' v d → Q v H') → r v1 v2 H Q
def OpO (X : Cx) (f : Value → Value → Sem Value) (d1 d2 : D) (ds : List D) : Prop := ∃ r : R2, OpR X f r ∧ ∀ (G H : Hp) (v1 v2 : V), Same G H → Rp X.K G v1 d1 → Rp X.K G v2 d2 → ∀ Q : VK,
  (∀ p vs G' H', Up G H G' H' → H p = none → G' p = none → H' p = some (.lst vs) → RpAll X.K G' vs ds → Q (.ref p) H') → r v1 v2 H Q
theorem Up.gn {G H : Hp} {p : Addr} (e : Same G H) (h : H p = none) : G p = none := by
  cases q : G p with
  | none => rfl
  | some o => rw [e _ _ q] at h; cases h
theorem two {G H G1 H1 : Hp} {p : Addr} (u : Up G H G1 H1) (h : H1 p = none) : H p = none := by
  cases q : H p with
  | none => rfl
  | some o => rw [u.h _ _ q] at h; cases h
theorem ev2 {ta tb : Expr} {σ : L2.St} {G0 H0 G H : Hp} (I : IM X.K G0 H0 M G σ H) (ha : EvD X M a d1) (hb : EvD X M b d2) {R : V → V → Hp → Prop}
    (h : ∀ v1 v2 G' H', Up G H G' H' → Rp X.K G' v1 d1 → Rp X.K G' v2 d2 → R v1 v2 H') : wE X a σ H fun x H1 => wE X b σ H1 fun y H2 => R x y H2 :=
  ha G0 H0 G σ H I _ fun v1 G1 H1 u1 r1 => hb G0 H0 G1 σ H1 (I.ext u1) _ fun v2 G2 H2 u2 r2 => h v1 v2 G2 H2 (u1.trans u2) (r1.mono u2.g) r2
theorem evd_op {op : Operator} (ha : EvD X M a d1) (hb : EvD X M b d2) (h : OpD X (binaryOp op) d1 d2 d) : EvD X M (.BinOp a op b pos) d := fun G0 H0 G σ H I Q q => by
  obtain ⟨r, ho, hr⟩ := h
  exact wE_of (pe_op ho pE pE) (ev2 (ta := a) (tb := b) I ha hb fun v1 v2 G' H' u r1 r2 => hr G' H' v1 v2 u.i r1 r2 Q fun v G2 H2 u2 r => q v G2 H2 (u.trans u2) r)
theorem evo_op {op : Operator} (ha : EvD X M a d1) (hb : EvD X M b d2) (h : OpO X (binaryOp op) d1 d2 ds) : EvO X M (.BinOp a op b pos) ds := fun G0 H0 G σ H I Q q => by
  obtain ⟨r, ho, hr⟩ := h
  exact wE_of (pe_op ho pE pE) (ev2 (ta := a) (tb := b) I ha hb fun v1 v2 G' H' u r1 r2 => hr G' H' v1 v2 u.i r1 r2 Q fun p vs G2 H2 u2 n g hp r => q p vs G2 H2 (u.trans u2) (two u n) g hp r)
theorem evd_cmp {op : CmpOp} (ha : EvD X M a d1) (hb : EvD X M b d2) (h : OpD X (compareOp op) d1 d2 d) (hm : behindInMarks op b = false := by first | exact nobehind _ (by decide) (by decide) | rfl) : EvD X M (.Compare a [op] [b] pos) d := fun G0 H0 G σ H I Q q => by
  obtain ⟨r, ho, hr⟩ := h
  exact wE_of (pe_cmpR ho pE pE hm) (ev2 (ta := a) (tb := b) I ha hb fun v1 v2 G' H' u r1 r2 => hr G' H' v1 v2 u.i r1 r2 Q fun v G2 H2 u2 r => q v G2 H2 (u.trans u2) r)
theorem evt_cmp {op : CmpOp} {k : Bool} (ha : EvD X M a d1) (hb : EvD X M b d2) (h : OpD X (compareOp op) d1 d2 (.bl k)) (hm : behindInMarks op b = false := by first | exact nobehind _ (by decide) (by decide) | rfl) : EvT X M (.Compare a [op] [b] pos) k := fun G0 H0 G σ H I Q q => by
  obtain ⟨r, ho, hr⟩ := h
  refine wT_of (pt_cmpR ho pE pE hm) ?_
  exact (ev2 (ta := a) (tb := b) I ha hb fun v1 v2 G' H' u r1 r2 => hr G' H' v1 v2 u.i r1 r2 _ fun v G2 H2 u2 r => ⟨k, by cases r; rfl, q G2 H2 (u.trans u2)⟩)
/-- a ⊲ b ⊲ c -/
theorem evd_chain {op op' : CmpOp} {k k' : Bool} (ha : EvD X M a d1) (hb : EvD X M b d2) (hc : k = true → EvD X M c d3) (h : OpD X (compareOp op) d1 d2 (.bl k)) (h' : k = true → OpD X (compareOp op') d2 d3 (.bl k')) (z : ∃ r : R2, OpR X (compareOp op') r)
    (hm : lastMarks [op, op'] [b, c] = false := by with_unfolding_all rfl) : EvD X M (.Compare a [op, op'] [b, c] pos) (.bl (k && k')) := fun G0 H0 G σ H I Q q => by
  obtain ⟨r, ho, hr⟩ := h
  cases k with
  | true =>
    obtain ⟨r', ho', hr'⟩ := h' rfl
    refine wE_of (pe_chain ho ho' pE pE pE hm) (ev2 (ta := a) (tb := b) I ha hb fun v1 v2 G' H' u r1 r2 => hr G' H' v1 v2 u.i r1 r2 _ fun v G2 H2 u2 rv => ⟨true, by cases rv; rfl, ?_⟩)
    rw [if_pos rfl]
    refine hc rfl G0 H0 G2 σ H2 (I.ext (u.trans u2)) _ fun v3 G3 H3 u3 r3 => ?_
    exact hr' G3 H3 v2 v3 u3.i (r2.mono (u2.g.trans u3.g)) r3 Q fun v G4 H4 u4 r4 => q v G4 H4 (((u.trans u2).trans u3).trans u4) r4
  | false =>
    obtain ⟨r', ho'⟩ := z
    refine wE_of (pe_chain ho ho' pE pE pE hm) (ev2 (ta := a) (tb := b) I ha hb fun v1 v2 G' H' u r1 r2 => hr G' H' v1 v2 u.i r1 r2 _ fun v G2 H2 u2 rv => ⟨false, by cases rv; rfl, ?_⟩)
    rw [if_neg Bool.false_ne_true]
    exact q (.bl false) G2 H2 (u.trans u2) (.bl _)
theorem evd_and1 {op : BoolOp} (h : EvD X M a d) : EvD X M (.BoolOp op [a] pos) d := fun G0 H0 G σ H I Q q => wE_of (pe_one pE) (h G0 H0 G σ H I Q q)
theorem evd_and {x y : Bool} {rest : List Expr} (h1 : EvD X M a (.bl x)) (h2 : x = true → EvD X M (.BoolOp .And (b :: rest) pos) (.bl y)) : EvD X M (.BoolOp .And (a :: b :: rest) pos) (.bl (x && y)) := fun G0 H0 G σ H I Q q =>
  wE_of (pe_and pE pE) (h1 G0 H0 G σ H I _ fun v G1 H1 u1 r => ⟨x, by cases r; rfl, by
    cases x with
    | true => rw [if_pos rfl]; exact h2 rfl G0 H0 G1 σ H1 (I.ext u1) Q fun v G2 H2 u2 r => q v G2 H2 (u1.trans u2) r
    | false => rw [if_neg Bool.false_ne_true]; exact q _ G1 H1 u1 (.bl _)⟩)
theorem evd_or {x y : Bool} {rest : List Expr} (h1 : EvD X M a (.bl x)) (h2 : x = false → EvD X M (.BoolOp .Or (b :: rest) pos) (.bl y)) : EvD X M (.BoolOp .Or (a :: b :: rest) pos) (.bl (x || y)) := fun G0 H0 G σ H I Q q =>
  wE_of (pe_or pE pE) (h1 G0 H0 G σ H I _ fun v G1 H1 u1 r => ⟨x, by cases r; rfl, by
    cases x with
    | true => rw [if_pos rfl]; exact q _ G1 H1 u1 (.bl _)
    | false => rw [if_neg Bool.false_ne_true]; exact h2 rfl G0 H0 G1 σ H1 (I.ext u1) Q fun v G2 H2 u2 r => q v G2 H2 (u1.trans u2) r⟩)
theorem evd_not {x : Bool} (h : EvD X M a (.bl x)) : EvD X M (.UnaryOp .Not a pos) (.bl (!x)) := fun G0 H0 G σ H I Q q =>
  wE_of (pe_not pE) (h G0 H0 G σ H I _ fun v G1 H1 u1 r => ⟨x, by cases r; rfl, q _ G1 H1 u1 (.bl _)⟩)
theorem evd_un {op : UnaryOp} (ha : EvD X M a d1) (h : ∃ r : V → Hp → VK → Prop, UnR X (unaryOp op) r ∧ ∀ (G H : Hp) (v1 : V), Same G H → Rp X.K G v1 d1 → ∀ Q : VK, (∀ v G' H', Up G H G' H' → Rp X.K G' v d → Q v H') → r v1 H Q) : EvD X M (.UnaryOp op a pos) d := fun G0 H0 G σ H I Q q => by
  obtain ⟨r, ho, hr⟩ := h
  exact wE_of (pe_un ho pE) (ha G0 H0 G σ H I _ fun v G1 H1 u1 r1 => hr G1 H1 v u1.i r1 Q fun v G2 H2 u2 r => q v G2 H2 (u1.trans u2) r)
theorem evd_neg {i : Int} (ha : EvD X M a (.int i)) : EvD X M (.UnaryOp .USub a pos) (.int (-i)) :=
  evd_un ha ⟨_, un_neg, fun G H v1 e r1 Q q => ⟨i, by cases r1; rfl, q _ G H (.refl e) (.int _)⟩⟩
theorem evd_if {k : Bool} (h : EvT X M c k) (h1 : k = true → EvD X M a d) (h2 : k = false → EvD X M b d) : EvD X M (.IfExp c a b pos) d := fun G0 H0 G σ H I Q q =>
  wE_of (pe_ifExp pT pE pE) (h G0 H0 G σ H I _ fun G1 H1 u1 => by
    cases k with
    | true => rw [if_pos rfl]; exact h1 rfl G0 H0 G1 σ H1 (I.ext u1) Q fun v G2 H2 u2 r => q v G2 H2 (u1.trans u2) r
    | false => rw [if_neg Bool.false_ne_true]; exact h2 rfl G0 H0 G1 σ H1 (I.ext u1) Q fun v G2 H2 u2 r => q v G2 H2 (u1.trans u2) r)
/-! tests -/
theorem evt_d {k : Bool} (h : EvD X M e (.bl k)) (he : ∀ whole, isTrue e X.env whole = (do let v ← whole; standAt e.pos; holding [v] (truthy v)) := by intro _; rfl) : EvT X M e k := fun G0 H0 G σ H I Q q =>
  wT_of (pt_val pE he) (h G0 H0 G σ H I _ fun v G1 H1 u1 r => ⟨k, by cases r; rfl, q G1 H1 u1⟩)
theorem evt_w {k : Bool} (h : EvW X M e k) : EvT X M e k := fun G0 H0 G σ H I Q q => wT_of (pW.pt) (h G0 H0 G σ H I Q q)
theorem evt_not {k : Bool} (h : EvT X M a k) : EvT X M (.UnaryOp .Not a pos) (!k) := fun G0 H0 G σ H I Q q => wT_of (pt_not pT) (h G0 H0 G σ H I _ fun G1 H1 u1 => q G1 H1 u1)
theorem evw_and1 {k : Bool} (h : EvT X M a k) : EvW X M (.BoolOp .And [a] pos) k := fun G0 H0 G σ H I Q q => wW_of (pw_and1 pT) (h G0 H0 G σ H I Q q)
theorem evw_or1 {k : Bool} (h : EvT X M a k) : EvW X M (.BoolOp .Or [a] pos) k := fun G0 H0 G σ H I Q q => wW_of (pw_or1 pT) (h G0 H0 G σ H I Q q)
theorem evw_and {x y : Bool} {rest : List Expr} (h1 : EvT X M a x) (h2 : x = true → EvW X M (.BoolOp .And (b :: rest) pos) y) : EvW X M (.BoolOp .And (a :: b :: rest) pos) (x && y) := fun G0 H0 G σ H I Q q =>
  wW_of (pw_and pT pW) (h1 G0 H0 G σ H I _ fun G1 H1 u1 => by
    cases x with
    | true => show (if true = true then _ else _); rw [if_pos rfl]; exact h2 rfl G0 H0 G1 σ H1 (I.ext u1) Q fun G2 H2 u2 => q G2 H2 (u1.trans u2)
    | false => show (if false = true then _ else _); rw [if_neg Bool.false_ne_true]; exact q G1 H1 u1)
theorem evw_or {x y : Bool} {rest : List Expr} (h1 : EvT X M a x) (h2 : x = false → EvW X M (.BoolOp .Or (b :: rest) pos) y) : EvW X M (.BoolOp .Or (a :: b :: rest) pos) (x || y) := fun G0 H0 G σ H I Q q =>
  wW_of (pw_or pT pW) (h1 G0 H0 G σ H I _ fun G1 H1 u1 => by
    cases x with
    | true => show (if true = true then _ else _); rw [if_pos rfl]; exact q G1 H1 u1
    | false => show (if false = true then _ else _); rw [if_neg Bool.false_ne_true]; exact h2 rfl G0 H0 G1 σ H1 (I.ext u1) Q fun G2 H2 u2 => q G2 H2 (u1.trans u2))
/-! displays -/
theorem eva_nil : EvA X M [] [] := fun G0 H0 G σ H I Q q => wA_of pa_nil (q [] G H (.refl I.gh) .nil)
theorem eva_cons (h : EvD X M e d) (hr : EvA X M es ds) (hs : starEach (e :: es) X.env = (false, eval e X.env) :: starEach es X.env := by rfl) : EvA X M (e :: es) (d :: ds) := fun G0 H0 G σ H I Q q =>
  wA_of (pa_cons pE pA hs) (h G0 H0 G σ H I _ fun v G1 H1 u1 r => hr G0 H0 G1 σ H1 (I.ext u1) _ fun vs G2 H2 u2 rs => q _ G2 H2 (u1.trans u2) (.cons (r.mono u2.g) rs))
theorem evd_tup {k : Nat} (h : EvA X M es ds) (hl : ds.length ≤ 100000 := by first | (simp; done) | decide | omega) : EvD X M (.Tuple es k pos) (.tup ds) := fun G0 H0 G σ H I Q q =>
  wE_of (pe_tup pA) (h G0 H0 G σ H I _ fun vs G1 H1 u1 r => ⟨by rw [r.len]; exact Evl.sz_of hl, fun p hp => q (.ref p) (upd G1 p (.tup vs)) _ (u1.trans (Up.new u1.i hp)) (.tup upd_same (r.mono (Same.new (Up.gn u1.i hp))))⟩)
theorem evo_lst (h : EvA X M es ds) (hl : ds.length ≤ 100000 := by first | (simp; done) | decide | omega) : EvO X M (.List es pos) ds := fun G0 H0 G σ H I Q q =>
  wE_of (pe_lst pA) (h G0 H0 G σ H I _ fun vs G1 H1 u1 r => ⟨by rw [r.len]; exact Evl.sz_of hl, fun p hp => q p vs G1 _ (u1.trans (Up.newO u1.i hp)) (two u1 hp) (Up.gn u1.i hp) upd_same r⟩)
/-! parts of things -/
def cutD (xs : List D) (lo hi : Option Int) : List D := (xs.drop (HT.sIx xs.length 0 lo)).take (HT.sIx xs.length xs.length hi - HT.sIx xs.length 0 lo)
theorem RpAll.cut {K : PySem.W.Frag} {G : Hp} {vs : List V} {ds : List D} (h : RpAll K G vs ds) (lo hi : Option Int) : RpAll K G (cutV vs lo hi) (cutD ds lo hi) := by
  unfold cutV cutD
  rw [h.len]
  exact (h.drop _).take _
def atD (xs : List D) (i : Int) : Option D := atI xs i
theorem RpAll.at {K : PySem.W.Frag} {G : Hp} {vs : List V} {ds : List D} {i : Int} {d : D} (h : RpAll K G vs ds) (e : atI ds i = some d) : ∃ v, atI vs i = some v ∧ Rp K G v d := by
  unfold atI at e ⊢
  rw [h.len]
  cases hj : ixN ds.length i with
  | none => rw [hj] at e; cases e
  | some j =>
    rw [hj] at e
    exact h.get e
theorem evd_ixT {i : Int} (ha : EvD X M a (.tup ds)) (hb : EvD X M b (.int i)) (e : atI ds i = some d) (hs : PlainIx b := by exact fun _ _ => rfl) : EvD X M (.Subscript a b pos) d := fun G0 H0 G σ H I Q q =>
  wE_of (pe_ix ix_tup pE pE hs) (ev2 (ta := a) (tb := b) I ha hb fun v1 v2 G1 H1 u1 r1 r2 => by
    cases r2
    cases r1 with
    | tup g r =>
      obtain ⟨v, h1, h2⟩ := r.at e
      exact ⟨_, _, _, _, rfl, rfl, SqT.of (u1.i _ _ g), h1, q v G1 H1 u1 h2⟩)
theorem evd_ixL {i : Int} (ha : EvD X M a (.lst ds)) (hb : EvD X M b (.int i)) (e : atI ds i = some d) (hs : PlainIx b := by exact fun _ _ => rfl) : EvD X M (.Subscript a b pos) d := fun G0 H0 G σ H I Q q =>
  wE_of (pe_ix ix_list pE pE hs) (ev2 (ta := a) (tb := b) I ha hb fun v1 v2 G1 H1 u1 r1 r2 => by
    cases r2
    cases r1 with
    | lst g r =>
      obtain ⟨v, h1, h2⟩ := r.at e
      exact ⟨_, _, _, _, rfl, rfl, SqL.of (u1.i _ _ g), h1, q v G1 H1 u1 h2⟩)
theorem evd_ixS {i x : Int} {ns : List Int} (ha : EvD X M a (.scr ns)) (hb : EvD X M b (.int i)) (e : atI ns i = some x) (hs : PlainIx b := by exact fun _ _ => rfl) : EvD X M (.Subscript a b pos) (.int x) := fun G0 H0 G σ H I Q q =>
  wE_of (pe_ix ix_list pE pE hs) (ev2 (ta := a) (tb := b) I ha hb fun v1 v2 G1 H1 u1 r1 r2 => by
    cases r2
    cases r1 with
    | scr g =>
      refine ⟨_, _, _, _, rfl, rfl, Same.seq u1.i g, ?_, q (.int x) G1 H1 u1 (.int x)⟩
      unfold atI at e ⊢
      rw [List.length_map]
      cases hj : ixN ns.length i with
      | none => rw [hj] at e; cases e
      | some j =>
        rw [hj] at e
        show (List.map V.int ns)[j]? = some (V.int x)
        rw [List.getElem?_map, show ns[j]? = some x from e]
        rfl)
theorem evp_none : EvP X M none none := fun G0 H0 G σ H I Q q => wO_of po_none (q G H (.refl I.gh))
theorem evp_some {i : Int} (h : EvD X M e (.int i)) : EvP X M (some e) (some i) := fun G0 H0 G σ H I Q q =>
  wO_of (po_some pE) (h G0 H0 G σ H I _ fun v G1 H1 u1 r => ⟨i, by cases r; rfl, q G1 H1 u1⟩)
theorem evd_slT {lo hi : Option Expr} {i j : Option Int} {p2 : Pos} (ha : EvD X M a (.tup ds)) (h1 : EvP X M lo i) (h2 : EvP X M hi j) : EvD X M (.Subscript a (.Slice lo hi none p2) pos) (.tup (cutD ds i j)) := fun G0 H0 G σ H I Q q =>
  wE_of (pe_slice sl_tupA pE pO pO) (ha G0 H0 G σ H I _ fun v G1 H1 u1 r => h1 G0 H0 G1 σ H1 (I.ext u1) _ fun G2 H2 u2 => h2 G0 H0 G2 σ H2 ((I.ext u1).ext u2) _ fun G3 H3 u3 => by
    have u := (u1.trans u2).trans u3
    have r' := r.mono (u2.g.trans u3.g)
    cases r' with
    | tup g rs =>
      refine ⟨_, _, rfl, SqT.of (u.i _ _ g), fun z => q _ G3 H3 u (.tup g ?_), fun z p hp => q (.ref p) (upd G3 p (.tup (cutV _ i j))) _ (u.trans (Up.new u.i hp)) (.tup upd_same ((rs.cut i j).mono (Same.new (Up.gn u.i hp))))⟩
      have e : cutD ds i j = ds := by
        unfold cutD
        rw [rs.len] at z
        rw [z.1, z.2]
        simp
      rw [e]
      exact rs)
theorem evo_slL {lo hi : Option Expr} {i j : Option Int} {p2 : Pos} (ha : EvD X M a (.lst ds)) (h1 : EvP X M lo i) (h2 : EvP X M hi j) : EvO X M (.Subscript a (.Slice lo hi none p2) pos) (cutD ds i j) := fun G0 H0 G σ H I Q q =>
  wE_of (pe_slice sl_list pE pO pO) (ha G0 H0 G σ H I _ fun v G1 H1 u1 r => h1 G0 H0 G1 σ H1 (I.ext u1) _ fun G2 H2 u2 => h2 G0 H0 G2 σ H2 ((I.ext u1).ext u2) _ fun G3 H3 u3 => by
    have u := (u1.trans u2).trans u3
    have r' := r.mono (u2.g.trans u3.g)
    cases r' with
    | lst g rs =>
      exact ⟨_, _, rfl, SqL.of (u.i _ _ g), fun p hp => q p _ G3 _ (u.trans (Up.newO u.i hp)) (two u hp) (Up.gn u.i hp) upd_same (rs.cut i j)⟩)
/-- a field of an instance -/
theorem zip_lookup {K : PySem.W.Frag} {G : Hp} {f : Str} {d : D} : ∀ {ns : List Str} {vs : List V} {ds : List D}, RpAll K G vs ds → (ns.zip ds).lookup f = some d → ∃ v, (ns.zip vs).lookup f = some v ∧ Rp K G v d
  | [], vs, ds, r, e => by simp at e
  | n :: ns, _, _, .nil, e => by simp at e
  | n :: ns, v :: vs, d' :: ds, .cons r t, e => by
    rw [List.zip_cons_cons, List.lookup_cons] at e ⊢
    cases hb : (f == n) with
    | true => rw [hb] at e; cases e; exact ⟨v, rfl, r⟩
    | false => rw [hb] at e; exact zip_lookup t e
theorem evd_fld {C : Addr} {ns : List Str} {f : Str} (c : Cls X.K C) (n : NoAttr X.K C f) (h : EvD X M e (.ob C ns ds)) (hl : (ns.zip ds).lookup f = some d) (hb : attributeBase e f X.env (eval e X.env) = eval e X.env := by rfl) : EvD X M (.Attribute e f pos) d := fun G0 H0 G σ H I Q q =>
  wE_of (pe_fld pE hb) (h G0 H0 G σ H I _ fun v G1 H1 u1 r => by
    cases r with
    | ob hn g rs =>
      obtain ⟨v, h1, h2⟩ := zip_lookup rs hl
      exact ⟨_, _, _, _, v, rfl, u1.i _ _ g, c, n, h1, q v G1 H1 u1 h2⟩)
/-! built-ins by values -/
def CallD (X : Cx) (f : Value) (ds : List D) (d : D) : Prop := ∃ r, CallR X f r ∧ ∀ (G H : Hp) (vs : List V), Same G H → RpAll X.K G vs ds → ∀ Q : VK, (∀ v G' H', Up G H G' H' → Rp X.K G' v d → Q v H') → r vs H Q
def CallO (X : Cx) (f : Value) (ds : List D) (es : List D) : Prop := ∃ r, CallR X f r ∧ ∀ (G H : Hp) (vs : List V), Same G H → RpAll X.K G vs ds → ∀ Q : VK,
  (∀ p vs G' H', Up G H G' H' → H p = none → G' p = none → H' p = some (.lst vs) → RpAll X.K G' vs es → Q (.ref p) H') → r vs H Q
theorem evd_bi {id : String} {x : Str} {p : Pos} (ha : EvA X M (e :: es) ds) (hc : CallD X (.builtin id) ds d) (hm : X.mg x = none) (hv : bootBuiltins x = some (.builtin id)) (hg : Gl X x := by rfl) (hn : x ≠ "__name__" := by decide) (hdb : (x == ("__debug__" : Str)) = false := by decide)
    (he : starEach (e :: es) X.env = (false, eval e X.env) :: starEach es X.env := by rfl) (hpl : (backTo pos (starEach es X.env)).any (·.1) = false := by rfl) : EvD X M (.Call (.Name x p) (e :: es) [] pos) d := fun G0 H0 G σ H I Q q => by
  obtain ⟨r, ho, hr⟩ := hc
  exact wE_of (pe_callB ho hg hm hv pA hn hdb he hpl) (ha G0 H0 G σ H I _ fun vs G1 H1 u1 rs => hr G1 H1 vs u1.i rs Q fun v G2 H2 u2 r => q v G2 H2 (u1.trans u2) r)
theorem evd_ty {T : String} {x : Str} {p : Pos} (ha : EvA X M (e :: es) ds) (hc : CallD X (.type T) ds d) (hm : X.mg x = none) (hv : bootBuiltins x = some (.type T)) (hg : Gl X x := by rfl) (hn : x ≠ "__name__" := by decide) (hdb : (x == ("__debug__" : Str)) = false := by decide)
    (he : starEach (e :: es) X.env = (false, eval e X.env) :: starEach es X.env := by rfl) (hpl : (backTo pos (starEach es X.env)).any (·.1) = false := by rfl) : EvD X M (.Call (.Name x p) (e :: es) [] pos) d := fun G0 H0 G σ H I Q q => by
  obtain ⟨r, ho, hr⟩ := hc
  exact wE_of (pe_callTy ho hg hm hv pA hn hdb he hpl) (ha G0 H0 G σ H I _ fun vs G1 H1 u1 rs => hr G1 H1 vs u1.i rs Q fun v G2 H2 u2 r => q v G2 H2 (u1.trans u2) r)
theorem evo_ty {T : String} {x : Str} {p : Pos} {zs : List D} (ha : EvA X M (e :: es) ds) (hc : CallO X (.type T) ds zs) (hm : X.mg x = none) (hv : bootBuiltins x = some (.type T)) (hg : Gl X x := by rfl) (hn : x ≠ "__name__" := by decide) (hdb : (x == ("__debug__" : Str)) = false := by decide)
    (he : starEach (e :: es) X.env = (false, eval e X.env) :: starEach es X.env := by rfl) (hpl : (backTo pos (starEach es X.env)).any (·.1) = false := by rfl) : EvO X M (.Call (.Name x p) (e :: es) [] pos) zs := fun G0 H0 G σ H I Q q => by
  obtain ⟨r, ho, hr⟩ := hc
  exact wE_of (pe_callTy ho hg hm hv pA hn hdb he hpl) (ha G0 H0 G σ H I _ fun vs G1 H1 u1 rs => hr G1 H1 vs u1.i rs Q fun p vs G2 H2 u2 n g h r => q p vs G2 H2 (u1.trans u2) (two u1 n) g h r)
end
end ML

set_option linter.all false
set_option maxRecDepth 100000
set_option maxHeartbeats 1000000
/-! M layer: operators and built-ins by values. -/
namespace ML
open PySem L2 PyProof.Rows
section
variable {X : Cx} {M : List Slot} {e a b c : Expr} {es : List Expr} {d d1 d2 d3 : D} {ds xs ys : List D} {pos p : Pos}
/-! operators on ints -/
theorem OpD.ii {f : Value → Value → Sem Value} {C : Int → Int → Prop} {g : Int → Int → Int} {i j : Int} (h : OpR X f (rI C fun i j => .int (g i j))) (hc : C i j) : OpD X f (.int i) (.int j) (.int (g i j)) :=
  ⟨_, h, fun G H v1 v2 e r1 r2 Q q => ⟨i, j, by cases r1; rfl, by cases r2; rfl, hc, q _ G H (.refl e) (.int _)⟩⟩
theorem OpD.i0 {f : Value → Value → Sem Value} {g : Int → Int → Int} {i j : Int} (h : OpR X f (rI0 fun i j => .int (g i j))) : OpD X f (.int i) (.int j) (.int (g i j)) :=
  ⟨_, h, fun G H v1 v2 e r1 r2 Q q => ⟨i, j, by cases r1; rfl, by cases r2; rfl, q _ G H (.refl e) (.int _)⟩⟩
theorem OpD.ib {f : Value → Value → Sem Value} {g : Int → Int → Bool} {i j : Int} (h : OpR X f (rI0 fun i j => .bl (g i j))) : OpD X f (.int i) (.int j) (.bl (g i j)) :=
  ⟨_, h, fun G H v1 v2 e r1 r2 Q q => ⟨i, j, by cases r1; rfl, by cases r2; rfl, q _ G H (.refl e) (.bl _)⟩⟩
variable {i j : Int}
theorem o_add : OpD X (binaryOp .Add) (.int i) (.int j) (.int (i + j)) := .i0 op_add
theorem o_sub : OpD X (binaryOp .Sub) (.int i) (.int j) (.int (i - j)) := .i0 op_sub
theorem o_mul (h : (-(2 ^ 64) < i ∧ i < 2 ^ 64) ∨ (-(2 ^ 64) < j ∧ j < 2 ^ 64)) : OpD X (binaryOp .Mult) (.int i) (.int j) (.int (i * j)) := .ii op_mul h
theorem o_mod (h : 0 < j) : OpD X (binaryOp .Mod) (.int i) (.int j) (.int (i % j)) := .ii op_mod h
theorem o_fdiv (h : 0 < j ∧ j < 1073741824) : OpD X (binaryOp .FloorDiv) (.int i) (.int j) (.int (i / j)) := .ii op_fdiv h
theorem o_pow (h : 0 ≤ j ∧ j ≤ 1000000 ∧ i.natAbs < 2 ^ 64) : OpD X (binaryOp .Pow) (.int i) (.int j) (.int (i ^ j.toNat)) := .ii op_pow h
theorem o_lt : OpD X (compareOp .Lt) (.int i) (.int j) (.bl (decide (i < j))) := .ib op_lt
theorem o_le : OpD X (compareOp .LtE) (.int i) (.int j) (.bl (decide (i ≤ j))) := .ib op_le
theorem o_gt : OpD X (compareOp .Gt) (.int i) (.int j) (.bl (decide (j < i))) := .ib op_gt
theorem o_ge : OpD X (compareOp .GtE) (.int i) (.int j) (.bl (decide (j ≤ i))) := .ib op_ge
theorem dint {i j : Int} : decide (V.int i = V.int j) = decide (i = j) := by
  by_cases h : i = j
  · subst h; simp
  · rw [decide_eq_false h, decide_eq_false fun z => h (V.int.inj z)]
theorem o_eq : OpD X (compareOp .Eq) (.int i) (.int j) (.bl (decide (i = j))) :=
  ⟨_, op_eq, fun G H v1 v2 e r1 r2 Q q => by cases r1; cases r2; exact ⟨rfl, by rw [dint]; exact q _ G H (.refl e) (.bl _)⟩⟩
theorem o_ne : OpD X (compareOp .NotEq) (.int i) (.int j) (.bl (!decide (i = j))) :=
  ⟨_, op_ne, fun G H v1 v2 e r1 r2 Q q => by cases r1; cases r2; exact ⟨rfl, by rw [dint]; exact q _ G H (.refl e) (.bl _)⟩⟩
/-! is None, is True -/
def isNonD : D → Bool
  | .non => true
  | .raw v => decide (v = .non)
  | _ => false
theorem rp_non {K : PySem.W.Frag} {G : Hp} {v : V} {d : D} (r : Rp K G v d) : decide (v = .non) = isNonD d := by
  cases r <;> first | rfl | simp [isNonD]
theorem o_isN : OpD X (compareOp .Is) d .non (.bl (isNonD d)) :=
  ⟨_, op_isN, fun G H v1 v2 e r1 r2 Q q => ⟨by cases r2; rfl, by rw [rp_non r1]; exact q _ G H (.refl e) (.bl _)⟩⟩
theorem o_notN : OpD X (compareOp .IsNot) d .non (.bl (!isNonD d)) :=
  ⟨_, op_notN, fun G H v1 v2 e r1 r2 Q q => ⟨by cases r2; rfl, by rw [rp_non r1]; exact q _ G H (.refl e) (.bl _)⟩⟩
theorem o_isB {x y : Bool} : OpD X (compareOp .Is) (.bl x) (.bl y) (.bl (decide (x = y))) :=
  ⟨_, op_is_bl, fun G H v1 v2 e r1 r2 Q q => ⟨x, y, by cases r1; rfl, by cases r2; rfl, q _ G H (.refl e) (.bl _)⟩⟩
theorem o_isNotB {x y : Bool} : OpD X (compareOp .IsNot) (.bl x) (.bl y) (.bl (!decide (x = y))) :=
  ⟨_, op_isnot_bl, fun G H v1 v2 e r1 r2 Q q => ⟨x, y, by cases r1; rfl, by cases r2; rfl, q _ G H (.refl e) (.bl _)⟩⟩
/-! tuples and lists -/
theorem o_addT (hl : xs.length + ys.length ≤ 100000) : OpD X (binaryOp .Add) (.tup xs) (.tup ys) (.tup (xs ++ ys)) :=
  ⟨_, op_catA, fun G H v1 v2 e r1 r2 Q q => by
    cases r1 with
    | tup g r =>
      cases r2 with
      | tup g' r' =>
        refine ⟨_, _, _, _, rfl, rfl, SqT.of (e _ _ g), SqT.of (e _ _ g'), by rw [r.len, r'.len]; exact Evl.sz_of hl, fun z => q _ G H (.refl e) ?_, fun _ z => q _ G H (.refl e) ?_, fun _ _ p hp => q (.ref p) _ _ (Up.new e hp) (.tup upd_same ((r.app r').mono (Same.new (Up.gn e hp))))⟩
        · have hx := r.len
          rw [z] at hx
          have : xs = [] := List.eq_nil_of_length_eq_zero hx.symm
          rw [this]
          exact .tup g' r'
        · have hx := r'.len
          rw [z] at hx
          have : ys = [] := List.eq_nil_of_length_eq_zero hx.symm
          rw [this, List.append_nil]
          exact .tup g r⟩
theorem o_addL (hl : xs.length + ys.length ≤ 100000) : OpO X (binaryOp .Add) (.lst xs) (.lst ys) (xs ++ ys) :=
  ⟨_, op_cat, fun G H v1 v2 e r1 r2 Q q => by
    cases r1 with
    | lst g r =>
      cases r2 with
      | lst g' r' =>
        exact ⟨_, _, _, _, rfl, rfl, e _ _ g, e _ _ g', by rw [r.len, r'.len]; exact Evl.sz_of hl, fun p hp => q p _ G _ (Up.newO e hp) hp (Up.gn e hp) upd_same (r.app r')⟩⟩
theorem o_mulL {k : Int} (h0 : -100000 ≤ k) (hk : k ≤ 100000) (hl : xs.length * k.toNat ≤ 100000) : OpO X (binaryOp .Mult) (.lst xs) (.int k) (List.replicate k.toNat xs).flatten :=
  ⟨_, op_rep, fun G H v1 v2 e r1 r2 Q q => by
    cases r2
    cases r1 with
    | lst g r =>
      exact ⟨_, k, _, rfl, rfl, e _ _ g, by omega, by omega, by rw [r.len]; exact Evl.sz_of hl, fun p hp => q p _ G _ (Up.newO e hp) hp (Up.gn e hp) upd_same (r.rep _)⟩⟩
/-! flat membership -/
def flatD : D → Bool
  | .non => true
  | .bl _ => true
  | .int _ => true
  | .str _ => true
  | _ => false
/-- an int in a list or tuple of ints -/
theorem inV_ints {x : Int} : ∀ ns : List Int, inV (.int x) (ns.map V.int) = decide (x ∈ ns)
  | [] => rfl
  | n :: ns => by
    have ih := inV_ints (x := x) ns
    unfold inV at ih ⊢
    rw [List.map_cons, List.any_cons, ih]
    show ((n == x) || decide (x ∈ ns)) = decide (x ∈ n :: ns)
    by_cases h : n = x
    · subst h; simp
    · have h' : ¬ x = n := fun z => h z.symm
      simp [h, h']
theorem flat_ints : ∀ ns : List Int, (ns.map V.int).all flatV = true
  | [] => rfl
  | n :: ns => by rw [List.map_cons, List.all_cons, flat_ints ns]; rfl
theorem o_inL {ns : List Int} : OpD X (compareOp .In) (.int i) (.lst (ns.map D.int)) (.bl (decide (i ∈ ns))) :=
  ⟨_, op_in_seq, fun G H v1 v2 e r1 r2 Q q => by
    cases r1
    cases r2 with
    | lst g r =>
      rw [r.intsV] at g
      refine ⟨_, _, rfl, .inl (SqL.of (e _ _ g)), rfl, flat_ints _, ?_⟩
      rw [if_neg Bool.false_ne_true, inV_ints]
      exact q _ G H (.refl e) (.bl _)⟩
theorem o_inT {ns : List Int} : OpD X (compareOp .In) (.int i) (.tup (ns.map D.int)) (.bl (decide (i ∈ ns))) :=
  ⟨_, op_in_seq, fun G H v1 v2 e r1 r2 Q q => by
    cases r1
    cases r2 with
    | tup g r =>
      rw [r.intsV] at g
      refine ⟨_, _, rfl, .inr (SqT.of (e _ _ g)), rfl, flat_ints _, ?_⟩
      rw [if_neg Bool.false_ne_true, inV_ints]
      exact q _ G H (.refl e) (.bl _)⟩
theorem o_ninL {ns : List Int} : OpD X (compareOp .NotIn) (.int i) (.lst (ns.map D.int)) (.bl (!decide (i ∈ ns))) :=
  ⟨_, op_notIn_seq, fun G H v1 v2 e r1 r2 Q q => by
    cases r1
    cases r2 with
    | lst g r =>
      rw [r.intsV] at g
      refine ⟨_, _, rfl, .inl (SqL.of (e _ _ g)), rfl, flat_ints _, ?_⟩
      rw [if_pos rfl, inV_ints]
      exact q _ G H (.refl e) (.bl _)⟩
theorem o_ninT {ns : List Int} : OpD X (compareOp .NotIn) (.int i) (.tup (ns.map D.int)) (.bl (!decide (i ∈ ns))) :=
  ⟨_, op_notIn_seq, fun G H v1 v2 e r1 r2 Q q => by
    cases r1
    cases r2 with
    | tup g r =>
      rw [r.intsV] at g
      refine ⟨_, _, rfl, .inr (SqT.of (e _ _ g)), rfl, flat_ints _, ?_⟩
      rw [if_pos rfl, inV_ints]
      exact q _ G H (.refl e) (.bl _)⟩
/-! == of data of any depth: where both are the same -/
mutual
/-- no bools, no instances: == is sameness -/
def clean : D → Bool
  | .non => true
  | .int _ => true
  | .tup ds => cleanAll ds
  | .lst ds => cleanAll ds
  | _ => false
def cleanAll : List D → Bool
  | [] => true
  | d :: ds => clean d && cleanAll ds
end
mutual
def dpt : D → Nat
  | .tup ds => 1 + dptAll ds
  | .lst ds => 1 + dptAll ds
  | _ => 0
def dptAll : List D → Nat
  | [] => 0
  | d :: ds => max (dpt d) (dptAll ds)
end
mutual
def toPy : D → PyData
  | .int i => .int i
  | .tup ds => .tuple (toPyAll ds)
  | .lst ds => .list (toPyAll ds)
  | _ => .none
def toPyAll : List D → List PyData
  | [] => []
  | d :: ds => toPy d :: toPyAll ds
end
mutual
theorem toPy_dp {K : PySem.W.Frag} {G : Hp} : ∀ {v : V} {d : D}, Rp K G v d → clean d = true → Dp K G v (toPy d)
  | _, _, .non, _ => by unfold toPy; exact .non
  | _, _, .bl b, h => by simp [clean] at h
  | _, _, .int i, _ => by unfold toPy; exact .int i
  | _, _, .str x, h => by simp [clean] at h
  | _, _, .tup g r, h => by unfold toPy; exact .tup (SqT.of g) (toPy_dpAll r (by simpa [clean] using h))
  | _, _, .lst g r, h => by unfold toPy; exact .lst (SqL.of g) (toPy_dpAll r (by simpa [clean] using h))
  | _, _, .ob _ _ _, h => by simp [clean] at h
  | _, _, .scr _, h => by simp [clean] at h
  | _, _, .raw _, h => by simp [clean] at h
theorem toPy_dpAll {K : PySem.W.Frag} {G : Hp} : ∀ {vs : List V} {ds : List D}, RpAll K G vs ds → cleanAll ds = true → DpAll K G vs (toPyAll ds)
  | _, _, .nil, _ => by unfold toPyAll; exact .nil
  | _, _, .cons r t, h => by
    simp only [cleanAll, Bool.and_eq_true] at h
    unfold toPyAll
    exact .cons (toPy_dp r h.1) (toPy_dpAll t h.2)
end
mutual
theorem toPy_lay : ∀ d : D, (toPy d).canLay0 = true
  | .non => by simp [toPy, PyData.canLay0]
  | .bl b => by simp [toPy, PyData.canLay0]
  | .int i => by simp [toPy, PyData.canLay0]
  | .str x => by simp [toPy, PyData.canLay0]
  | .tup ds => by simp only [toPy, PyData.canLay0]; exact toPy_layAll ds
  | .lst ds => by simp only [toPy, PyData.canLay0]; exact toPy_layAll ds
  | .ob _ _ _ => by simp [toPy, PyData.canLay0]
  | .scr _ => by simp [toPy, PyData.canLay0]
  | .raw _ => by simp [toPy, PyData.canLay0]
theorem toPy_layAll : ∀ ds : List D, PyData.canLayAll0 (toPyAll ds) = true
  | [] => by simp [toPyAll, PyData.canLayAll0]
  | d :: ds => by simp only [toPyAll, PyData.canLayAll0, toPy_lay d, toPy_layAll ds]; rfl
end
mutual
theorem toPy_depth : ∀ d : D, (toPy d).depth = dpt d
  | .non => by simp [toPy, PyData.depth, dpt]
  | .bl b => by simp [toPy, PyData.depth, dpt]
  | .int i => by simp [toPy, PyData.depth, dpt]
  | .str x => by simp [toPy, PyData.depth, dpt]
  | .tup ds => by simp only [toPy, PyData.depth, dpt, toPy_depthAll ds] <;> omega
  | .lst ds => by simp only [toPy, PyData.depth, dpt, toPy_depthAll ds] <;> omega
  | .ob _ _ _ => by simp [toPy, PyData.depth, dpt]
  | .scr _ => by simp [toPy, PyData.depth, dpt]
  | .raw _ => by simp [toPy, PyData.depth, dpt]
theorem toPy_depthAll : ∀ ds : List D, PyData.depthAll (toPyAll ds) = dptAll ds
  | [] => by simp [toPyAll, PyData.depthAll, dptAll]
  | d :: ds => by simp only [toPyAll, PyData.depthAll, dptAll, toPy_depth d, toPy_depthAll ds]
end
mutual
theorem eqv_self : ∀ d : D, PyData.eqv (toPy d) (toPy d) = true
  | .non => by simp [toPy, PyData.eqv]
  | .bl b => by simp [toPy, PyData.eqv]
  | .int i => by simp [toPy, PyData.eqv]
  | .str x => by simp [toPy, PyData.eqv]
  | .tup ds => by simp only [toPy, PyData.eqv]; exact eqv_selfAll ds
  | .lst ds => by simp only [toPy, PyData.eqv]; exact eqv_selfAll ds
  | .ob _ _ _ => by simp [toPy, PyData.eqv]
  | .scr _ => by simp [toPy, PyData.eqv]
  | .raw _ => by simp [toPy, PyData.eqv]
theorem eqv_selfAll : ∀ ds : List D, PyData.eqvAll (toPyAll ds) (toPyAll ds) = true
  | [] => by simp [toPyAll, PyData.eqvAll]
  | d :: ds => by simp only [toPyAll, PyData.eqvAll, eqv_self d, eqv_selfAll ds]; rfl
end
theorem shaped_toPy {d : D} (h : dpt d ≤ 64) : SeqAt.shaped (toPy d) = true := by
  unfold SeqAt.shaped
  rw [toPy_lay, toPy_depth, Bool.true_and]
  exact decide_eq_true h
theorem o_eqD (hu : X.A.units + 64 < cLine) (hc : clean d = true) (hd : dpt d ≤ 64) : OpD X (compareOp .Eq) d d (.bl true) :=
  ⟨_, op_eqD hu, fun G H v1 v2 e r1 r2 Q q => ⟨toPy d, toPy d, toPy_dp (r1.mono e) hc, toPy_dp (r2.mono e) hc, shaped_toPy hd, shaped_toPy hd, by rw [eqv_self]; exact q _ G H (.refl e) (.bl _)⟩⟩
theorem o_neD (hu : X.A.units + 64 < cLine) (hc : clean d = true) (hd : dpt d ≤ 64) : OpD X (compareOp .NotEq) d d (.bl false) :=
  ⟨_, op_neD hu, fun G H v1 v2 e r1 r2 Q q => ⟨toPy d, toPy d, toPy_dp (r1.mono e) hc, toPy_dp (r2.mono e) hc, shaped_toPy hd, shaped_toPy hd, by rw [eqv_self]; exact q _ G H (.refl e) (.bl _)⟩⟩
/-! built-ins -/
theorem RpAll.one {K : PySem.W.Frag} {G : Hp} {vs : List V} (r : RpAll K G vs [d]) : ∃ v, vs = [v] ∧ Rp K G v d := by
  cases r with
  | cons r t => cases t; exact ⟨_, rfl, r⟩
theorem RpAll.two {K : PySem.W.Frag} {G : Hp} {vs : List V} (r : RpAll K G vs [d1, d2]) : ∃ v w, vs = [v, w] ∧ Rp K G v d1 ∧ Rp K G w d2 := by
  cases r with
  | cons r t => obtain ⟨w, rfl, q⟩ := t.one; exact ⟨_, _, rfl, r, q⟩
theorem c_int : CallD X (.type "int") [.int i] (.int i) :=
  ⟨_, call_int1, fun G H vs e rr Q q => by obtain ⟨v, rfl, r⟩ := rr.one; cases r; exact .inl ⟨i, rfl, q _ G H (.refl e) (.int _)⟩⟩
theorem c_intB {k : Bool} : CallD X (.type "int") [.bl k] (.int (if k then 1 else 0)) :=
  ⟨_, call_int1, fun G H vs e rr Q q => by obtain ⟨v, rfl, r⟩ := rr.one; cases r; exact .inr ⟨k, rfl, q _ G H (.refl e) (.int _)⟩⟩
theorem c_lenT : CallD X (.builtin "len") [.tup xs] (.int xs.length) :=
  ⟨_, call_len_seq, fun G H vs e rr Q q => by
    obtain ⟨v, rfl, r⟩ := rr.one
    cases r with
    | tup g r => exact ⟨_, _, rfl, .inr (SqT.of (e _ _ g)), by rw [r.len]; exact q _ G H (.refl e) (.int _)⟩⟩
theorem c_lenL : CallD X (.builtin "len") [.lst xs] (.int xs.length) :=
  ⟨_, call_len_seq, fun G H vs e rr Q q => by
    obtain ⟨v, rfl, r⟩ := rr.one
    cases r with
    | lst g r => exact ⟨_, _, rfl, .inl (SqL.of (e _ _ g)), by rw [r.len]; exact q _ G H (.refl e) (.int _)⟩⟩
theorem c_lenS {ns : List Int} : CallD X (.builtin "len") [.scr ns] (.int ns.length) :=
  ⟨_, call_len_seq, fun G H vs e rr Q q => by
    obtain ⟨v, rfl, r⟩ := rr.one
    cases r with
    | scr g => exact ⟨_, _, rfl, .inl (Same.seq e g), by rw [List.length_map]; exact q _ G H (.refl e) (.int _)⟩⟩
theorem c_max2 (hc : X.calm = true) : CallD X (.builtin "max") [.int i, .int j] (.int (max i j)) :=
  ⟨_, call_max2 hc, fun G H vs e rr Q q => by
    obtain ⟨v, w, rfl, r1, r2⟩ := rr.two
    cases r1; cases r2
    refine ⟨i, j, rfl, ?_⟩
    have : (if j > i then j else i) = max i j := by omega
    rw [this]
    exact q _ G H (.refl e) (.int _)⟩
theorem c_min2 (hc : X.calm = true) : CallD X (.builtin "min") [.int i, .int j] (.int (min i j)) :=
  ⟨_, call_min2 hc, fun G H vs e rr Q q => by
    obtain ⟨v, w, rfl, r1, r2⟩ := rr.two
    cases r1; cases r2
    refine ⟨i, j, rfl, ?_⟩
    have : (if j < i then j else i) = min i j := by omega
    rw [this]
    exact q _ G H (.refl e) (.int _)⟩
theorem c_tupL : CallD X (.type "tuple") [.lst xs] (.tup xs) :=
  ⟨_, call_tuple_of, fun G H vs e rr Q q => by
    obtain ⟨v, rfl, r⟩ := rr.one
    cases r with
    | lst g r => exact ⟨_, _, rfl, .inl ⟨SqL.of (e _ _ g), fun p hp => q (.ref p) _ _ (Up.new e hp) (.tup upd_same (r.mono (Same.new (Up.gn e hp))))⟩⟩⟩
theorem c_tupT : CallD X (.type "tuple") [.tup xs] (.tup xs) :=
  ⟨_, call_tuple_of, fun G H vs e rr Q q => by
    obtain ⟨v, rfl, r⟩ := rr.one
    cases r with
    | tup g r => exact ⟨_, _, rfl, .inr ⟨SqT.of (e _ _ g), q _ G H (.refl e) (.tup g r)⟩⟩⟩
theorem c_listT : CallO X (.type "list") [.tup xs] xs :=
  ⟨_, call_list_of, fun G H vs e rr Q q => by
    obtain ⟨v, rfl, r⟩ := rr.one
    cases r with
    | tup g r => exact ⟨_, _, rfl, .inr (SqT.of (e _ _ g)), fun p hp => q p _ G _ (Up.newO e hp) hp (Up.gn e hp) upd_same r⟩⟩
theorem c_listL : CallO X (.type "list") [.lst xs] xs :=
  ⟨_, call_list_of, fun G H vs e rr Q q => by
    obtain ⟨v, rfl, r⟩ := rr.one
    cases r with
    | lst g r => exact ⟨_, _, rfl, .inl (SqL.of (e _ _ g)), fun p hp => q p _ G _ (Up.newO e hp) hp (Up.gn e hp) upd_same r⟩⟩
/-! isinstance -/
/-- the type of data -/
def tyN : D → String
  | .non => "NoneType"
  | .bl _ => "bool"
  | .int _ => "int"
  | .str _ => "str"
  | .tup _ => "tuple"
  | _ => "list"
structure ObT (K : PySem.W.Frag) (C : Addr) : Prop where
  cl : Cls K C
  ha : PySem.W.findIn K (.ref C) "__class__" = some (some (.builtin "object.__class__"))
  hn : PySem.W.specialIn K (.builtin "object.__class__") "__get__" = some (some (.builtin "getset_descriptor.__get__"))
  ht : PySem.W.takesIn K (.builtin "object.__class__") = some true
  hm : PySem.W.mroIn K C (.type "object") = some true
/-- the type, as a value -/
inductive TyD (K : PySem.W.Frag) : D → Value → Prop
  | b {d : D} (h : match d with | .ob _ _ _ => False | .scr _ => False | .raw _ => False | _ => True) : TyD K d (.type (tyN d))
  | o {C : Addr} {ns : List Str} {ds : List D} (h : ObT K C) : TyD K (.ob C ns ds) (.ref C)
theorem TyD.of {K : PySem.W.Frag} {G : Hp} {v : V} {d : D} {t : Value} (h : TyD K d t) (r : Rp K G v d) : TyX K G v t := by
  cases h with
  | b h =>
    cases r with
    | non => exact .base .non
    | bl b => exact .base (.bl b)
    | int i => exact .base (.int i)
    | str x => exact .base (.str x)
    | tup g _ => exact .base (.tup g)
    | lst g _ => exact .base (.lst g)
    | ob _ _ _ => exact h.elim
    | scr _ => exact h.elim
    | raw _ => exact h.elim
  | o h =>
    cases r with
    | ob _ g _ => exact .base (.ins g h.cl h.ha h.hn h.ht h.hm)
theorem ea1 {σ : L2.St} {H : Hp} {Q : List V → Hp → Prop} (hs : starEach [e] X.env = (false, eval e X.env) :: starEach [] X.env) (h : wE X e σ H fun v H1 => Q [v] H1) : wA X [e] σ H Q := wA_of (pa_cons pE pa_nil hs) h
/-- isinstance(a, T), T a built-in type -/
theorem evd_isi {T : Str} {Tn : String} {t : Value} {k : Bool} {p1 p2 : Pos} (ha : EvD X M a d) (ht : TyD X.K d t) (hk : PySem.W.kitOne X.K t (.type Tn) = some k) (hm : X.mg "isinstance" = none) (hT : X.mg T = none) (hv : bootBuiltins T = some (.type Tn))
    (hg : Gl X "isinstance" := by rfl) (hgT : Gl X T := by rfl) (hn : T ≠ "__name__" := by decide) (hdb : (T == ("__debug__" : Str)) = false := by decide)
    (he : starEach [a, .Name T p2] X.env = (false, eval a X.env) :: starEach [.Name T p2] X.env := by rfl) (he2 : starEach [.Name T p2] X.env = (false, eval (.Name T p2) X.env) :: starEach [] X.env := by rfl)
    (hpl : (backTo pos (starEach [.Name T p2] X.env)).any (·.1) = false := by rfl) : EvD X M (.Call (.Name "isinstance" p1) [a, .Name T p2] [] pos) (.bl k) := fun G0 H0 G σ H I Q q =>
  wE_of (pe_callB call_isi hg hm (by decide +kernel) (pa_cons pE (pa_cons (pe_bltn (v := .ty Tn) hgT hT hv rfl hn hdb) pa_nil he2) he) (by decide) (by decide) he hpl)
    (ha G0 H0 G σ H I _ fun v G1 H1 u1 r => ⟨v, _, t, _, k, rfl, .ty _, ht.of (r.mono u1.i), hk, q _ G1 H1 u1 (.bl _)⟩)
/-- isinstance(a, C), C a class of one's own -/
theorem evd_isC {C : Addr} {T : Str} {t : Value} {k : Bool} {p1 p2 : Pos} (ha : EvD X M a d) (ht : TyD X.K d t) (hk : PySem.W.kitOne X.K t (.ref C) = some k) (hm : X.mg "isinstance" = none) (hT : X.mg T = some (.ref C))
    (hg : Gl X "isinstance" := by rfl) (hgT : Gl X T := by rfl) (hdb : (T == ("__debug__" : Str)) = false := by decide)
    (he : starEach [a, .Name T p2] X.env = (false, eval a X.env) :: starEach [.Name T p2] X.env := by rfl) (he2 : starEach [.Name T p2] X.env = (false, eval (.Name T p2) X.env) :: starEach [] X.env := by rfl)
    (hpl : (backTo pos (starEach [.Name T p2] X.env)).any (·.1) = false := by rfl) : EvD X M (.Call (.Name "isinstance" p1) [a, .Name T p2] [] pos) (.bl k) := fun G0 H0 G σ H I Q q =>
  wE_of (pe_callB call_isi hg hm (by decide +kernel) (pa_cons pE (pa_cons (pe_glob (v := .ref C) hgT hT rfl hdb) pa_nil he2) he) (by decide) (by decide) he hpl)
    (ha G0 H0 G σ H I _ fun v G1 H1 u1 r => ⟨v, _, t, _, k, rfl, .own _, ht.of (r.mono u1.i), hk, q _ G1 H1 u1 (.bl _)⟩)
/-- isinstance(a, (S, T)) -/
theorem evd_isi2 {S T : Str} {Sn Tn : String} {t : Value} {k : Bool} {p1 p2 p3 p4 : Pos} {n : Nat} (ha : EvD X M a d) (ht : TyD X.K d t) (hk : PySem.W.kitAny X.K t [.type Sn, .type Tn] = some k) (hm : X.mg "isinstance" = none)
    (hS : X.mg S = none) (hvS : bootBuiltins S = some (.type Sn)) (hT : X.mg T = none) (hv : bootBuiltins T = some (.type Tn))
    (hg : Gl X "isinstance" := by rfl) (hgS : Gl X S := by rfl) (hgT : Gl X T := by rfl) (hnS : S ≠ "__name__" := by decide) (hn : T ≠ "__name__" := by decide) (hdS : (S == ("__debug__" : Str)) = false := by decide) (hdb : (T == ("__debug__" : Str)) = false := by decide)
    (he : starEach [a, .Tuple [.Name S p2, .Name T p3] n p4] X.env = (false, eval a X.env) :: starEach [.Tuple [.Name S p2, .Name T p3] n p4] X.env := by rfl)
    (he2 : starEach [.Tuple [.Name S p2, .Name T p3] n p4] X.env = (false, eval (.Tuple [.Name S p2, .Name T p3] n p4) X.env) :: starEach [] X.env := by rfl)
    (hpl : (backTo pos (starEach [.Tuple [.Name S p2, .Name T p3] n p4] X.env)).any (·.1) = false := by rfl) : EvD X M (.Call (.Name "isinstance" p1) [a, .Tuple [.Name S p2, .Name T p3] n p4] [] pos) (.bl k) := fun G0 H0 G σ H I Q q =>
  wE_of (pe_callB call_isiT hg hm (by decide +kernel) (pa_cons pE (pa_cons (pe_tup (pa_cons (pe_bltn (v := .ty Sn) hgS hS hvS rfl hnS hdS) (pa_cons (pe_bltn (v := .ty Tn) hgT hT hv rfl hn hdb) pa_nil))) pa_nil he2) he) (by decide) (by decide) he hpl)
    (ha G0 H0 G σ H I _ fun v G1 H1 u1 r => ⟨by show 2 ≤ sizeLine; decide, fun p hp => ⟨v, p, [.ty Sn, .ty Tn], t, _, k, rfl, upd_same, .cons (.ty _) (.cons (.ty _) .nil), ht.of (r.mono (u1.i.trans (Same.new hp))), hk, q _ _ _ (u1.trans (Up.newO u1.i hp)) (.bl _)⟩⟩)
end
end ML

set_option linter.all false
set_option maxRecDepth 100000
set_option maxHeartbeats 1000000
/-! M layer: what is walked, targets, comprehensions, lists of one's own lent for an expression. -/
namespace ML
open PySem L2 PyProof.Rows

/-! ### what is walked -/
def wI (X : Cx) (tg iter : Expr) : TI := fun σ H R => ∀ pins s, Inv X pins σ H s → wpAny (model X.prog X.w) X.A (eval iter X.env) (fun v s1 => wpAny (model X.prog X.w) X.A (pyIter v) (PIE X pins σ tg R) X.xe s1) X.xe s
theorem pI {X : Cx} {tg iter : Expr} : PI X tg iter (wI X tg iter) := ⟨fun pins s σ H R I h => h pins s I⟩
theorem wI_of {X : Cx} {tg iter : Expr} {t : TI} {σ : L2.St} {H : Hp} {R : It → Hp → Prop} (h : PI X tg iter t) (q : t σ H R) : wI X tg iter σ H R := fun pins s I => h.run pins s σ H R I q
structure WalkD (K : PySem.W.Frag) (J : It) (G1 : Hp) (items : List D) : Prop where
  goes : ∀ i G H, i < items.length → Same G1 G → Same G H → J.go i H
  stops : ∀ G H, Same G1 G → Same G H → J.stop items.length H
  yields : ∀ i G H x H', i < items.length → Same G1 G → Same G H → J.yld i H x H' → ∃ G', Up G H G' H' ∧ ∀ d, items[i]? = some d → Rp K G' x d
/-- the loop over iter walks the items -/
def SrcD (X : Cx) (M : List Slot) (tg iter : Expr) (items : List D) : Prop := ∀ G0 H0 G σ H, IM X.K G0 H0 M G σ H → ∀ R : It → Hp → Prop, (∀ J G' H', Up G H G' H' → WalkD X.K J G' items → R J H') → wI X tg iter σ H R
section
variable {X : Cx} {M : List Slot} {e a b c tg : Expr} {es : List Expr} {d d1 d2 d3 : D} {ds xs ys : List D} {pos p : Pos}
theorem src_tup (h : EvD X M e (.tup ds)) : SrcD X M tg e ds := fun G0 H0 G σ H I R q =>
  wI_of (pi_tup pE) (h G0 H0 G σ H I _ fun v G1 H1 u1 r => by
    cases r with
    | @tup a vs _ g r =>
      refine ⟨a, rfl, ⟨vs, SqT.of (u1.i _ _ g)⟩, q _ G1 H1 u1 ⟨fun i G2 H2 hi s1 s2 => ?_, fun G2 H2 s1 s2 => ⟨vs, SqT.of (s2 _ _ (s1 _ _ g)), by rw [r.len]; exact Nat.le_refl _⟩, fun i G2 H2 x H3 hi s1 s2 y => ?_⟩⟩
      · obtain ⟨v, h1, h2⟩ := r.get (i := i) (d := ds[i]) (by simp [hi])
        exact ⟨vs, v, SqT.of (s2 _ _ (s1 _ _ g)), h1⟩
      · obtain ⟨rfl, y⟩ := y
        have hv := y vs (SqT.of (s2 _ _ (s1 _ _ g)))
        refine ⟨G2, .refl s2, fun d hd => ?_⟩
        obtain ⟨v, h1, h2⟩ := r.get hd
        rw [hv] at h1
        cases h1
        exact h2.mono s1)
theorem src_lst (h : EvD X M e (.lst ds)) : SrcD X M tg e ds := fun G0 H0 G σ H I R q =>
  wI_of (pi_list pE) (h G0 H0 G σ H I _ fun v G1 H1 u1 r => by
    cases r with
    | @lst a vs _ g r =>
      refine ⟨a, rfl, ⟨vs, SqL.of (u1.i _ _ g)⟩, q _ G1 H1 u1 ⟨fun i G2 H2 hi s1 s2 => ?_, fun G2 H2 s1 s2 => ⟨vs, SqL.of (s2 _ _ (s1 _ _ g)), by rw [r.len]; exact Nat.le_refl _⟩, fun i G2 H2 x H3 hi s1 s2 y => ?_⟩⟩
      · obtain ⟨v, h1, h2⟩ := r.get (i := i) (d := ds[i]) (by simp [hi])
        exact ⟨vs, v, SqL.of (s2 _ _ (s1 _ _ g)), h1⟩
      · obtain ⟨rfl, y⟩ := y
        have hv := y vs (SqL.of (s2 _ _ (s1 _ _ g)))
        refine ⟨G2, .refl s2, fun d hd => ?_⟩
        obtain ⟨v, h1, h2⟩ := r.get hd
        rw [hv] at h1
        cases h1
        exact h2.mono s1)
theorem src_scr {ns : List Int} (h : EvD X M e (.scr ns)) : SrcD X M tg e (ns.map D.int) := fun G0 H0 G σ H I R q =>
  wI_of (pi_list pE) (h G0 H0 G σ H I _ fun v G1 H1 u1 r => by
    cases r with
    | @scr a _ g =>
      refine ⟨a, rfl, ⟨_, Same.seq u1.i g⟩, q _ G1 H1 u1 ⟨fun i G2 H2 hi s1 s2 => ?_, fun G2 H2 s1 s2 => ⟨_, Same.seq (s1.trans s2) g, by simp⟩, fun i G2 H2 x H3 hi s1 s2 y => ?_⟩⟩
      · rw [List.length_map] at hi
        exact ⟨_, .int ns[i], Same.seq (s1.trans s2) g, by simp [hi]⟩
      · obtain ⟨rfl, y⟩ := y
        have hv := y _ (Same.seq (s1.trans s2) g)
        refine ⟨G2, .refl s2, fun d hd => ?_⟩
        rw [List.getElem?_map] at hv hd
        cases hn : ns[i]? with
        | none => rw [hn] at hv; cases hv
        | some n =>
          rw [hn] at hv hd
          cases hv; cases hd
          exact .int n)
theorem WalkD.range {K : PySem.W.Frag} {G1 : Hp} {lo : Int} {n : Nat} : WalkD K (Itr lo n) G1 ((List.range n).map fun (i : Nat) => D.int (lo + (i : Int))) := by
  refine ⟨fun i G H hi _ _ => by rw [List.length_map, List.length_range] at hi; exact hi, fun G H _ _ => by show n ≤ _; simp, fun i G H x H' hi s1 s2 y => ?_⟩
  obtain ⟨rfl, rfl⟩ := y
  refine ⟨G, .refl s2, fun d hd => ?_⟩
  rw [List.length_map, List.length_range] at hi
  rw [List.getElem?_map, List.getElem?_range hi] at hd
  cases hd
  exact .int _
theorem src_rng1 {n : Int} (h : EvD X M a (.int n)) (hn : n < 2 ^ 62) (hn0 : -(2 ^ 62) ≤ n) (hm : X.mg "range" = none) (hg : Gl X "range" := by rfl) (hs : starEach [a] X.env = [(false, eval a X.env)] := by rfl) :
    SrcD X M tg (.Call (.Name "range" p) [a] [] pos) ((List.range n.toNat).map fun (i : Nat) => D.int (i : Int)) := fun G0 H0 G σ H I R q =>
  wI_of (pi_range1 hg hm pA hs) (wA_of (pa_cons pE pa_nil hs) (h G0 H0 G σ H I _ fun v G1 H1 u1 r => by
    cases r
    refine ⟨n, rfl, hn0, hn, q _ G1 H1 u1 ?_⟩
    have w := WalkD.range (K := X.K) (G1 := G1) (lo := 0) (n := n.toNat)
    simpa using w))
theorem src_rng2 {m n : Int} (h1 : EvD X M a (.int m)) (h2 : EvD X M b (.int n)) (hb : -(2 ^ 62) ≤ m ∧ m < 2 ^ 62 ∧ -(2 ^ 62) ≤ n ∧ n < 2 ^ 62) (hm : X.mg "range" = none) (hg : Gl X "range" := by rfl) (hs : starEach [a, b] X.env = [(false, eval a X.env), (false, eval b X.env)] := by rfl) (hs2 : starEach [b] X.env = [(false, eval b X.env)] := by rfl) :
    SrcD X M tg (.Call (.Name "range" p) [a, b] [] pos) ((List.range (n - m).toNat).map fun (i : Nat) => D.int (m + (i : Int))) := fun G0 H0 G σ H I R q =>
  wI_of (pi_range2 hg hm pA hs hs2) (wA_of (pa_cons pE (pa_cons pE pa_nil hs2) (by rw [hs, hs2])) (ev2 (ta := a) (tb := b) I h1 h2 fun v1 v2 G1 H1 u1 r1 r2 => by
    cases r1; cases r2
    exact ⟨m, n, rfl, hb, q _ G1 H1 u1 WalkD.range⟩))
/-- enumerate's pairs -/
def enumD (ds : List D) : List D := (List.range ds.length).zipWith (fun (i : Nat) d => D.tup [.int (i : Int), d]) ds
theorem enumD_len : (enumD ds).length = ds.length := by simp [enumD]
theorem enumD_get {i : Nat} {d : D} (h : (enumD ds)[i]? = some d) : ∃ x, ds[i]? = some x ∧ d = .tup [.int (i : Int), x] := by
  have hi := (List.getElem?_eq_some_iff.mp h).1
  rw [enumD_len] at hi
  refine ⟨ds[i], by simp [hi], ?_⟩
  simp only [enumD, List.getElem?_zipWith] at h
  simp [hi] at h
  exact h.symm
theorem src_enumL {elts : List Expr} {kk : Nat} {tpos : Pos} (h : EvD X M e (.lst ds)) (hm : X.mg "enumerate" = none) (hg : Gl X "enumerate" := by rfl) (hs : starEach [e] X.env = [(false, eval e X.env)] := by rfl) :
    SrcD X M (.Tuple elts kk tpos) (.Call (.Name "enumerate" p) [e] [] pos) (enumD ds) := fun G0 H0 G σ H I R q =>
  wI_of (pi_enum hg hm pA hs) (wA_of (pa_cons pE pa_nil hs) (h G0 H0 G σ H I _ fun v G1 H1 u1 r => by
    cases r with
    | @lst a vs _ g r =>
      refine ⟨a, vs, rfl, SqL.of (u1.i _ _ g), q _ G1 H1 u1 ⟨fun i G2 H2 hi s1 s2 => ?_, fun G2 H2 s1 s2 => ⟨vs, SqL.of (s2 _ _ (s1 _ _ g)), by rw [r.len, enumD_len]; exact Nat.le_refl _⟩, fun i G2 H2 x H3 hi s1 s2 y => ?_⟩⟩
      · rw [enumD_len] at hi
        obtain ⟨v, h1, h2⟩ := r.get (i := i) (d := ds[i]) (by simp [hi])
        exact ⟨vs, v, SqL.of (s2 _ _ (s1 _ _ g)), h1⟩
      · obtain ⟨T, x', rfl, hT, rfl, y⟩ := y
        have hv := y vs (SqL.of (s2 _ _ (s1 _ _ g)))
        refine ⟨upd G2 T (.tup [.int (i : Nat), x']), Up.new s2 hT, fun d hd => ?_⟩
        obtain ⟨z, hz, rfl⟩ := enumD_get hd
        obtain ⟨v, h1, h2⟩ := r.get hz
        rw [hv] at h1
        cases h1
        exact .tup upd_same (.cons (.int _) (.cons (h2.mono (s1.trans (Same.new (Up.gn s2 hT)))) .nil))))

/-! ### targets -/
def wG (X : Cx) (tg : Expr) : TG := fun v σ H Q => ∀ pins s u, Inv X pins σ H s → RelV v u → wpAny (model X.prog X.w) X.A (assign tg X.env u) (fun _ s' => ∃ σ' H', Inv X pins σ' H' s' ∧ Q σ' H') X.xe s
def wGs (X : Cx) (ts : List Expr) : TGs := fun vs σ H Q => ∀ pins s us, Inv X pins σ H s → Vals vs us → wpAny (model X.prog X.w) X.A (assignInOrder ((assignEach ts X.env).map (·.2)) us) (fun _ s' => ∃ σ' H', Inv X pins σ' H' s' ∧ Q σ' H') X.xe s
theorem pG : PG X tg (wG X tg) := ⟨fun pins s σ H v u Q I r h => h pins s u I r⟩
theorem pGs {ts : List Expr} : PGs X ts (wGs X ts) := ⟨fun pins s σ H v u Q I r h => h pins s u I r⟩
theorem wG_of {t : TG} {v : V} {σ : L2.St} {H : Hp} {Q : L2.St → Hp → Prop} (h : PG X tg t) (q : t v σ H Q) : wG X tg v σ H Q := fun pins s u I r => h.run pins s σ H v u Q I r q
theorem wGs_of {ts : List Expr} {t : TGs} {vs : List V} {σ : L2.St} {H : Hp} {Q : L2.St → Hp → Prop} (h : PGs X ts t) (q : t vs σ H Q) : wGs X ts vs σ H Q := fun pins s u I r => h.run pins s σ H vs u Q I r q
/-- from M the store of d to tg leads to M2; only the slots js change -/
def TgD (X : Cx) (M : List Slot) (tg : Expr) (d : D) (M2 : List Slot) (js : List Nat) : Prop := ∀ G0 H0 G σ H v, IM X.K G0 H0 M G σ H → Rp X.K G v d → ∀ Q : L2.St → Hp → Prop,
  (∀ σ', IM X.K G0 H0 M2 G σ' H → σ'.length = σ.length → (∀ i, i ∉ js → σ'[i]? = σ[i]?) → Q σ' H) → wG X tg v σ H Q
def TgsD (X : Cx) (M : List Slot) (ts : List Expr) (ds : List D) (M2 : List Slot) (js : List Nat) : Prop := ∀ G0 H0 G σ H vs, IM X.K G0 H0 M G σ H → RpAll X.K G vs ds → ∀ Q : L2.St → Hp → Prop,
  (∀ σ', IM X.K G0 H0 M2 G σ' H → σ'.length = σ.length → (∀ i, i ∉ js → σ'[i]? = σ[i]?) → Q σ' H) → wGs X ts vs σ H Q
theorem tg_name (i : Nat) {x : Str} (hN : X.N.Nodup) (hi : X.N[i]? = some x := by rfl) (hx : Loc X.env.scope x := by first | exact Or.inl rfl | exact Or.inr rfl) (hf : X.fn x = true ∨ X.env.scope.names.lookup x = some .local := by first | exact .inl rfl | exact .inr rfl) :
    TgD X M (.Name x pos) d (M.set i (.d d)) [i] := fun G0 H0 G σ H v I r Q q =>
  wG_of (pg_name hN hi hx hf) (q _ (I.set r i) (by rw [List.length_set]) fun j hj => List.getElem?_set_ne (by simp at hj; omega))
theorem tgs_nil : TgsD X M [] [] M [] := fun G0 H0 G σ H vs I r Q q => by
  cases r
  exact wGs_of pgs_nil ⟨rfl, q σ I rfl fun _ _ => rfl⟩
theorem tgs_cons {M1 M2 : List Slot} {js ks : List Nat} (h1 : TgD X M e d M1 js) (h2 : TgsD X M1 es ds M2 ks) (hs : (assignEach (e :: es) X.env).map (·.2) = assign e X.env :: (assignEach es X.env).map (·.2) := by rfl) : TgsD X M (e :: es) (d :: ds) M2 (js ++ ks) := fun G0 H0 G σ H vs I r Q q => by
  cases r with
  | @cons v vs _ _ r rs =>
    exact wGs_of (pgs_cons pG pGs hs) ⟨v, vs, rfl, h1 G0 H0 G σ H v I r _ fun σ1 I1 l1 k1 => h2 G0 H0 G σ1 H vs I1 rs _ fun σ2 I2 l2 k2 => q σ2 I2 (l2.trans l1) fun i hi => by
      simp only [List.mem_append, not_or] at hi
      rw [k2 i hi.2, k1 i hi.1]⟩
theorem tg_tup {M2 : List Slot} {js : List Nat} {k n : Nat} (hc : X.calm = true) (h : TgsD X M es ds M2 js) (hl : ds.length = n := by rfl) (hn : (assignEach es X.env).length = n := by rfl) (hst : (assignEach es X.env).findIdx? (·.1) = none := by rfl) : TgD X M (.Tuple es k pos) (.tup ds) M2 js := fun G0 H0 G σ H v I r Q q => by
  cases r with
  | @tup a vs _ g rs => exact wG_of (pg_tup hc pGs hn hst) ⟨a, vs, rfl, SqT.of (I.gh _ _ g), by rw [rs.len]; exact hl, h G0 H0 G σ H vs I rs Q q⟩

/-! ### comprehensions -/
def wTs (X : Cx) (ifs : List Expr) : TT := fun σ H Q => ∀ pins s, Inv X pins σ H s → wpAny (model X.prog X.w) X.A (forIn ifs true fun c r => if r = true then do let ok ← isTrue c X.env (eval c X.env); pure (ForInStep.yield ok) else pure (ForInStep.yield r)) (TP X pins σ Q) X.xe s
theorem wTs_of {ifs : List Expr} {t : TT} {σ : L2.St} {H : Hp} {Q : Bool → Hp → Prop} (h : PTs X ifs t) (q : t σ H Q) : wTs X ifs σ H Q := fun pins s I => h.run pins s σ H Q I q
def EvTs (X : Cx) (M : List Slot) (ifs : List Expr) (b : Bool) : Prop := ∀ G0 H0 G σ H, IM X.K G0 H0 M G σ H → ∀ Q : Bool → Hp → Prop, (∀ G' H', Up G H G' H' → Q b H') → wTs X ifs σ H Q
theorem evts_nil : EvTs X M [] true := fun G0 H0 G σ H I Q q => wTs_of pts_nil (q G H (.refl I.gh))
theorem evts_one {k : Bool} (h : EvT X M c k) : EvTs X M [c] k := fun G0 H0 G σ H I Q q => wTs_of (pts_one pT) (h G0 H0 G σ H I Q q)
def wipeM (M : List Slot) : List Nat → List Slot
  | [] => M
  | v :: vs => (wipeM M vs).set v .no
theorem IM.setNo {K : PySem.W.Frag} {G0 H0 G H : Hp} {σ : L2.St} (I : IM K G0 H0 M G σ H) (i : Nat) : IM K G0 H0 (M.set i .no) G (σ.set i none) H := by
  have key : ∀ {j : Nat} {s : Slot}, (M.set i .no)[j]? = some s → s ≠ .no → i ≠ j ∧ M[j]? = some s := fun {j s} h n => by
    by_cases z : i = j
    · subst z
      by_cases l : i < M.length
      · rw [List.getElem?_set_self l] at h; cases h; exact absurd rfl n
      · rw [List.getElem?_eq_none (by rw [List.length_set]; omega)] at h; cases h
    · rw [List.getElem?_set_ne z] at h; exact ⟨z, h⟩
  refine ⟨I.up, by rw [List.length_set, List.length_set, I.len], fun j d h => ?_, fun j ds h => ?_, fun j k ds es p h1 h2 a b => ?_⟩
  · obtain ⟨z, h⟩ := key h (by intro z; cases z)
    rw [List.getElem?_set_ne z]
    exact I.sd j d h
  · obtain ⟨z, h⟩ := key h (by intro z; cases z)
    rw [List.getElem?_set_ne z]
    exact I.so j ds h
  · obtain ⟨z1, h1⟩ := key h1 (by intro z; cases z)
    obtain ⟨z2, h2⟩ := key h2 (by intro z; cases z)
    rw [List.getElem?_set_ne z1] at a
    rw [List.getElem?_set_ne z2] at b
    exact I.inj j k ds es p h1 h2 a b
theorem IM.wipe {K : PySem.W.Frag} {G0 H0 G H : Hp} {σ : L2.St} (I : IM K G0 H0 M G σ H) : ∀ vs : List Nat, IM K G0 H0 (wipeM M vs) G (L2.wipe σ vs) H
  | [] => I
  | v :: vs => (IM.wipe I vs).setNo v
theorem wipe_get {σ : L2.St} : ∀ {vs : List Nat} {i : Nat}, (L2.wipe σ vs)[i]? = if i ∈ vs then (if i < σ.length then some none else none) else σ[i]?
  | [], i => by simp [L2.wipe]
  | v :: vs, i => by
    have ih := wipe_get (σ := σ) (vs := vs) (i := i)
    unfold L2.wipe
    by_cases z : v = i
    · subst z
      by_cases l : v < σ.length
      · rw [List.getElem?_set_self (by rw [wipe_length]; exact l)]
        simp [l]
      · rw [List.getElem?_eq_none (by rw [List.length_set, wipe_length]; omega)]
        simp [l]
    · rw [List.getElem?_set_ne z, ih]
      have z' : ¬ i = v := fun w => z w.symm
      simp [z']
theorem wipe_eq {σ σ' : L2.St} {vs : List Nat} (hl : σ'.length = σ.length) (h : ∀ i, i ∉ vs → σ'[i]? = σ[i]?) : L2.wipe σ' vs = L2.wipe σ vs := by
  apply List.ext_getElem?
  intro i
  rw [wipe_get, wipe_get, hl]
  by_cases z : i ∈ vs
  · simp [z]
  · simp [z, h i z]
abbrev Blk (X : Cx) (scope : Scope) (P : Cx → Prop) : Prop := ∀ (s : Shared) (H : Hp) (C : Addr) (cl : List (Str × Addr)) (fp : List Addr), P (X.blk s H scope (compEnvC scope cl C X.env) fp)
section
variable {elt iter : Expr} {ifs : List Expr} {scope : Scope} {own : List (Str × Nat)} {α : Type} {enc : α → D} {items : List α} {f : α → D} {p : α → Bool} {M2 : α → List Slot} {js : List Nat}
def gB (X : Cx) (scope : Scope) (tg : Expr) : TG := fun v σ H Q => Blk X scope fun Y => wG Y tg v σ H Q
def ttB (X : Cx) (scope : Scope) (ifs : List Expr) : TT := fun σ H Q => Blk X scope fun Y => wTs Y ifs σ H Q
def teB (X : Cx) (scope : Scope) (e : Expr) : TE := fun σ H Q => Blk X scope fun Y => wE Y e σ H Q
theorem lc_read (hsrc : SrcD X M tg iter (items.map enc)) (hjs : ∀ j ∈ js, j ∈ own.map (·.2)) (ht : Blk X scope fun Y => ∀ d ∈ items, TgD Y (wipeM M (own.map (·.2))) tg (enc d) (M2 d) js)
    (hif : Blk X scope fun Y => ∀ d ∈ items, EvTs Y (M2 d) ifs (p d)) (hel : Blk X scope fun Y => ∀ d ∈ items, p d = true → EvD Y (M2 d) elt (f d)) (hlen : items.length ≤ 100000)
    {G0 H0 G : Hp} {σ : L2.St} {H : Hp} (I : IM X.K G0 H0 M G σ H) {Q : VK} (q : ∀ p' vs G' H', Up G H G' H' → H p' = none → G' p' = none → H' p' = some (.lst vs) → RpAll X.K G' vs ((items.filter p).map f) → Q (.ref p') H') :
    tLc (wI X tg iter) (gB X scope tg) (ttB X scope ifs) (teB X scope elt) (own.map (·.2)) σ H Q := by
  refine hsrc G0 H0 G σ H I _ fun J G1 H1 u1 w => ?_
  have el : (items.map enc).length = items.length := List.length_map _
  intro D0 hD
  refine ⟨fun i m Hc => m = items.length - i ∧ i ≤ items.length ∧ ∃ Gc acc, Up G1 H1 Gc Hc ∧ Gc D0 = none ∧ Hc D0 = some (.lst acc) ∧ RpAll X.K Gc acc (((items.take i).filter p).map f),
    ⟨items.length, by simp, Nat.zero_le _, G1, [], Up.newO u1.i hD, Up.gn u1.i hD, upd_same, by simp; exact .nil⟩, ?_⟩
  rintro i m Hc ⟨rfl, hi, Gc, acc, uc, gD, hDc, racc⟩
  by_cases hlt : i < items.length
  · right
    refine ⟨w.goes i Gc Hc (by rw [el]; exact hlt) uc.g uc.i, fun Hn => i + 1 ≤ items.length ∧ ∃ Gc acc, Up G1 H1 Gc Hn ∧ Gc D0 = none ∧ Hn D0 = some (.lst acc) ∧ RpAll X.K Gc acc (((items.take (i + 1)).filter p).map f),
      fun Hn hn => ⟨items.length - (i + 1), by omega, rfl, hn.1, hn.2⟩, fun x H2 y => ?_⟩
    obtain ⟨G2, u2, hx⟩ := w.yields i Gc Hc x H2 (by rw [el]; exact hlt) uc.g uc.i y
    have hd : items[i]? = some items[i] := by simp [hlt]
    have hmem : items[i] ∈ items := List.getElem_mem hlt
    have rx := hx (enc items[i]) (by rw [List.getElem?_map, hd]; rfl)
    have I2 := (I.ext ((u1.trans uc).trans u2)).wipe (own.map (·.2))
    intro s0 Hb C cl fp
    refine ht s0 Hb C cl fp _ hmem G0 H0 G2 _ H2 x I2 rx _ fun σ2 I3 l3 kj => ⟨?_, ?_⟩
    · have e1 : L2.wipe (L2.wipe σ (own.map (·.2))) (own.map (·.2)) = L2.wipe σ (own.map (·.2)) := wipe_eq (wipe_length _ _) fun i hi => by rw [wipe_get]; simp only [hi, if_false]
      rw [← e1]
      exact wipe_eq l3 fun i hi => kj i fun z => hi (hjs i z)
    · intro s1 Hb1 C1 cl1 fp1
      have gD2 : G2 D0 = none := u2.f D0 _ hDc gD
      have et : items.take (i + 1) = items.take i ++ [items[i]] := by rw [List.take_succ, hd]; rfl
      refine hif s1 Hb1 C1 cl1 fp1 _ hmem G0 H0 G2 σ2 H2 I3 _ fun G3 H3 u3 => ?_
      have gD3 : G3 D0 = none := u3.f D0 _ (u2.h _ _ hDc) gD2
      have hD3 : H3 D0 = some (.lst acc) := u3.h _ _ (u2.h _ _ hDc)
      cases hp : p items[i] with
      | false =>
        rw [if_neg Bool.false_ne_true]
        refine ⟨hlt, G3, acc, (uc.trans u2).trans u3, gD3, hD3, ?_⟩
        rw [et, List.filter_append, List.map_append]
        simp only [List.filter_cons, hp, List.filter_nil]
        rw [show (if false = true then [items[i]] else []) = ([] : List α) from if_neg Bool.false_ne_true, List.map_nil, List.append_nil]
        exact racc.mono (u2.g.trans u3.g)
      | true =>
        rw [if_pos rfl]
        intro s2 Hb2 C2 cl2 fp2
        refine hel s2 Hb2 C2 cl2 fp2 _ hmem hp G0 H0 G3 σ2 H3 (I3.ext u3) _ fun y G4 H4 u4 ry => ?_
        have gD4 : G4 D0 = none := u4.f D0 _ hD3 gD3
        have hl : acc.length ≤ items.length := by
          rw [racc.len, List.length_map]
          exact Nat.le_trans (List.length_filter_le _ _) (by rw [List.length_take]; omega)
        refine ⟨acc, u4.h _ _ hD3, Evl.sz_lt (n := acc.length) ?_, hlt, G4, acc ++ [y], ?_, gD4, upd_same, ?_⟩
        · have : acc.length ≤ i := by
            rw [racc.len, List.length_map]
            exact Nat.le_trans (List.length_filter_le _ _) (by rw [List.length_take]; omega)
          omega
        · have u := ((uc.trans u2).trans u3).trans u4
          refine ⟨u.g, fun a o e => ?_, fun a o e => ?_, u.f⟩
          · rw [upd_ne (ne_of_none e hD)]; exact u.h _ _ e
          · rw [upd_ne (ne_of_none e gD4)]; exact u.i _ _ e
        · rw [et, List.filter_append, List.map_append]
          simp only [List.filter_cons, hp, List.filter_nil]
          rw [if_pos trivial]
          exact (racc.mono ((u2.g.trans u3.g).trans u4.g)).app (.cons ry .nil)
  · have e : i = items.length := by omega
    subst e
    left
    refine ⟨by have z := w.stops Gc Hc uc.g uc.i; rw [el] at z; exact z, q D0 acc Gc Hc (u1.trans uc) (two u1 hD) gD hDc ?_⟩
    rw [List.take_length] at racc
    exact racc
theorem gB_ok (s : Shared) (H : Hp) (C : Addr) (cl : List (Str × Addr)) (fp : List Addr) : PG (X.blk s H scope (compEnvC scope cl C X.env) fp) tg (gB X scope tg) := ⟨fun pins s1 σ H1 v u Q I r h => h s H C cl fp pins s1 u I r⟩
theorem ttB_ok (s : Shared) (H : Hp) (C : Addr) (cl : List (Str × Addr)) (fp : List Addr) : PTs (X.blk s H scope (compEnvC scope cl C X.env) fp) ifs (ttB X scope ifs) := ⟨fun pins s1 σ H1 Q I h => h s H C cl fp pins s1 I⟩
theorem teB_ok (s : Shared) (H : Hp) (C : Addr) (cl : List (Str × Addr)) (fp : List Addr) : PE (X.blk s H scope (compEnvC scope cl C X.env) fp) elt (teB X scope elt) := ⟨fun pins s1 σ H1 Q I h => h s H C cl fp pins s1 I⟩
/-- [elt for tg in iter if ..] -/
theorem evo_lc (own : List (Str × Nat)) (hsrc : SrcD X M tg iter (items.map enc)) (hc : X.calm = true) (hN : X.N.Nodup) (ok : BlkOk X.N X.env.scope scope own) (hjs : ∀ j ∈ js, j ∈ own.map (·.2)) (ht : Blk X scope fun Y => ∀ d ∈ items, TgD Y (wipeM M (own.map (·.2))) tg (enc d) (M2 d) js)
    (hif : Blk X scope fun Y => ∀ d ∈ items, EvTs Y (M2 d) ifs (p d)) (hel : Blk X scope fun Y => ∀ d ∈ items, p d = true → EvD Y (M2 d) elt (f d)) (hlen : items.length ≤ 100000) (hs : ∀ x, foldedSetIterable iter X.env x = pure x := by intro _; rfl) :
    EvO X M (.ListComp elt [⟨tg, iter, ifs, 0⟩] scope pos) ((items.filter p).map f) := fun G0 H0 G σ H I Q q =>
  wE_of (pe_lc hc hN pI ok gB_ok ttB_ok teB_ok hs) (lc_read hsrc hjs ht hif hel hlen I q)
/-- [elt for tg in iter] -/
theorem evo_map (own : List (Str × Nat)) (enc : α → D) (items : List α) (f : α → D) (M2 : α → List Slot) (js : List Nat) (hsrc : SrcD X M tg iter (items.map enc)) (hc : X.calm = true) (hN : X.N.Nodup) (ok : BlkOk X.N X.env.scope scope own) (hjs : ∀ j ∈ js, j ∈ own.map (·.2)) (ht : Blk X scope fun Y => ∀ d ∈ items, TgD Y (wipeM M (own.map (·.2))) tg (enc d) (M2 d) js)
    (hel : Blk X scope fun Y => ∀ d ∈ items, EvD Y (M2 d) elt (f d)) (hlen : items.length ≤ 100000) (hs : ∀ x, foldedSetIterable iter X.env x = pure x := by intro _; rfl) :
    EvO X M (.ListComp elt [⟨tg, iter, [], 0⟩] scope pos) (items.map f) := by
  have h := evo_lc (pos := pos) (p := fun _ => true) own hsrc hc hN ok hjs ht (fun _ _ _ _ _ d hd => evts_nil) (fun s H C cl fp d hd _ => hel s H C cl fp d hd) hlen hs
  rw [List.filter_eq_self.mpr (fun _ _ => rfl)] at h
  exact h
end
end
end ML

set_option linter.all false
set_option maxRecDepth 100000
set_option maxHeartbeats 1000000
/-! M layer: own lists lent, statements, loops. -/
namespace ML
open PySem L2 PyProof.Rows

/-! ### own lists lent for an expression -/
def frzS : Slot → Slot
  | .o ds => .d (.lst ds)
  | s => s
def frz (M : List Slot) : List Slot := M.map frzS
mutual
/-- no list, no script within -/
def noL : D → Bool
  | .lst _ => false
  | .scr _ => false
  | .tup ds => noLAll ds
  | .ob _ _ ds => noLAll ds
  | _ => true
def noLAll : List D → Bool
  | [] => true
  | d :: ds => noL d && noLAll ds
end
mutual
theorem Rp.cut {K : PySem.W.Frag} {G G' : Hp} (ht : ∀ a xs, G a = some (.tup xs) → G' a = some (.tup xs)) (hi : ∀ a C dx fs, G a = some (.ins C dx fs) → G' a = some (.ins C dx fs)) : ∀ {v : V} {d : D}, Rp K G v d → noL d = true → Rp K G' v d
  | _, _, .non, _ => .non
  | _, _, .bl b, _ => .bl b
  | _, _, .int i, _ => .int i
  | _, _, .str x, _ => .str x
  | _, _, .tup g r, h => .tup (ht _ _ g) (RpAll.cutL ht hi r (by simpa [noL] using h))
  | _, _, .lst g r, h => by simp [noL] at h
  | _, _, .ob n g r, h => .ob n (hi _ _ _ _ g) (RpAll.cutL ht hi r (by simpa [noL] using h))
  | _, _, .scr _, h => by simp [noL] at h
  | _, _, .raw v, _ => .raw v
theorem RpAll.cutL {K : PySem.W.Frag} {G G' : Hp} (ht : ∀ a xs, G a = some (.tup xs) → G' a = some (.tup xs)) (hi : ∀ a C dx fs, G a = some (.ins C dx fs) → G' a = some (.ins C dx fs)) : ∀ {vs : List V} {ds : List D}, RpAll K G vs ds → noLAll ds = true → RpAll K G' vs ds
  | _, _, .nil, _ => .nil
  | _, _, .cons r t, h => by
    simp only [noLAll, Bool.and_eq_true] at h
    exact .cons (Rp.cut ht hi r h.1) (RpAll.cutL ht hi t h.2)
end
open Classical in
/-- the own lists of M, as they stand -/
noncomputable def Own (M : List Slot) (σ : L2.St) (a : Addr) : Prop := ∃ (i : Nat) (ds : List D), M[i]? = some (.o ds) ∧ σ[i]? = some (some (.ref a))
open Classical in
noncomputable def withO (M : List Slot) (σ : L2.St) (G H : Hp) : Hp := fun a => if Own M σ a then H a else G a
open Classical in
noncomputable def lessO (M : List Slot) (σ : L2.St) (G : Hp) : Hp := fun a => if Own M σ a then none else G a
section
variable {K : PySem.W.Frag} {G0 H0 G H G' H' : Hp} {M : List Slot} {σ : L2.St}
theorem own_at (I : IM K G0 H0 M G σ H) {a : Addr} (o : Own M σ a) : ∃ vs, H0 a = none ∧ G a = none ∧ H a = some (.lst vs) := by
  obtain ⟨i, ds, h1, h2⟩ := o
  obtain ⟨p, vs, a1, b, c, d, _⟩ := I.so i ds h1
  rw [h2] at a1; cases a1
  exact ⟨vs, b, c, d⟩
theorem frz_im (I : IM K G0 H0 M G σ H) : IM K G0 H0 (frz M) (withO M σ G H) σ H ∧ Same G (withO M σ G H) := by
  have s1 : Same G (withO M σ G H) := fun a o e => by
    unfold withO
    by_cases z : Own M σ a
    · obtain ⟨_, _, c, _⟩ := own_at I z
      rw [c] at e; cases e
    · rw [if_neg z]; exact e
  refine ⟨⟨⟨I.up.g.trans s1, I.up.h, fun a o e => ?_, fun a o e n => ?_⟩, by unfold frz; rw [List.length_map]; exact I.len, fun i d h => ?_, fun i ds h => ?_, fun i j ds es p h1 h2 _ _ => ?_⟩, s1⟩
  · unfold withO at e
    by_cases z : Own M σ a
    · rw [if_pos z] at e; exact e
    · rw [if_neg z] at e; exact I.up.i _ _ e
  · unfold withO
    by_cases z : Own M σ a
    · obtain ⟨_, b, _⟩ := own_at I z
      rw [b] at e; cases e
    · rw [if_neg z]; exact I.up.f a o e n
  · unfold frz at h
    rw [List.getElem?_map] at h
    cases hm : M[i]? with
    | none => rw [hm] at h; cases h
    | some s =>
      rw [hm] at h
      have h : frzS s = .d d := Option.some.inj h
      cases s with
      | no => cases h
      | d d' =>
        cases h
        obtain ⟨v, a, r⟩ := I.sd i _ hm
        exact ⟨v, a, r.mono s1⟩
      | o ds =>
        cases h
        obtain ⟨p, vs, a, b, c, e, r⟩ := I.so i ds hm
        refine ⟨_, a, .lst ?_ (r.mono s1)⟩
        unfold withO
        rw [if_pos ⟨i, ds, hm, a⟩]
        exact e
  · exfalso
    unfold frz at h
    rw [List.getElem?_map] at h
    cases hm : M[i]? with
    | none => rw [hm] at h; cases h
    | some s => rw [hm] at h; have h : frzS s = .o ds := Option.some.inj h; cases s <;> cases h
  · exfalso
    unfold frz at h1
    rw [List.getElem?_map] at h1
    cases hm : M[i]? with
    | none => rw [hm] at h1; cases h1
    | some s => rw [hm] at h1; have h : frzS s = .o ds := Option.some.inj h1; cases s <;> cases h
/-- back: what is reached without a list is as it was -/
theorem thaw (I : IM K G0 H0 M G σ H) (u : Up (withO M σ G H) H G' H') : Up G H (lessO M σ G') H' ∧
    (∀ a xs, G' a = some (.tup xs) → lessO M σ G' a = some (.tup xs)) ∧ (∀ a C dx fs, G' a = some (.ins C dx fs) → lessO M σ G' a = some (.ins C dx fs)) := by
  have key : ∀ a o, Own M σ a → G' a = some o → ∃ vs, o = .lst vs := fun a o z e => by
    obtain ⟨vs, _, _, d⟩ := own_at I z
    have e1 := u.h _ _ d
    have e2 := u.i _ _ e
    rw [e1] at e2; cases e2
    exact ⟨vs, rfl⟩
  refine ⟨⟨fun a o e => ?_, u.h, fun a o e => ?_, fun a o e n => ?_⟩, fun a xs e => ?_, fun a C dx fs e => ?_⟩
  · unfold lessO
    by_cases z : Own M σ a
    · obtain ⟨_, _, c, _⟩ := own_at I z
      rw [c] at e; cases e
    · rw [if_neg z]
      refine u.g _ _ ?_
      unfold withO
      rw [if_neg z]; exact e
  · unfold lessO at e
    by_cases z : Own M σ a
    · rw [if_pos z] at e; cases e
    · rw [if_neg z] at e; exact u.i _ _ e
  · unfold lessO
    by_cases z : Own M σ a
    · rw [if_pos z]
    · rw [if_neg z]
      refine u.f a o e ?_
      unfold withO
      rw [if_neg z]; exact n
  · unfold lessO
    by_cases z : Own M σ a
    · obtain ⟨vs, q⟩ := key a _ z e; cases q
    · rw [if_neg z]; exact e
  · unfold lessO
    by_cases z : Own M σ a
    · obtain ⟨vs, q⟩ := key a _ z e; cases q
    · rw [if_neg z]; exact e
end
section
variable {X : Cx} {M : List Slot} {e a b c tg : Expr} {es : List Expr} {d d1 d2 d3 : D} {ds xs ys : List D} {pos p : Pos}
theorem lend (h : EvD X (frz M) e d) (n : noL d = true := by rfl) : EvD X M e d := fun G0 H0 G σ H I Q q =>
  h G0 H0 _ σ H (frz_im I).1 Q fun v G' H' u r => by
    obtain ⟨u', t1, t2⟩ := thaw I u
    exact q v _ H' u' (r.cut t1 t2 n)
theorem lendT {k : Bool} (h : EvT X (frz M) e k) : EvT X M e k := fun G0 H0 G σ H I Q q =>
  h G0 H0 _ σ H (frz_im I).1 Q fun G' H' u => q _ H' (thaw I u).1
theorem lendO (h : EvO X (frz M) e ds) (n : noLAll ds = true) : EvO X M e ds := fun G0 H0 G σ H I Q q =>
  h G0 H0 _ σ H (frz_im I).1 Q fun p vs G' H' u hn g hp r => by
    obtain ⟨u', t1, t2⟩ := thaw I u
    refine q p vs _ H' u' hn ?_ hp (r.cutL t1 t2 n)
    unfold lessO
    by_cases z : Own M σ p
    · rw [if_pos z]
    · rw [if_neg z]; exact g
theorem noLAll_ints : ∀ ns : List Int, noLAll (ns.map D.int) = true
  | [] => rfl
  | n :: ns => by rw [List.map_cons]; show (true && noLAll (ns.map D.int)) = true; rw [noLAll_ints ns]; rfl
theorem noLAll_of {ds : List D} (h : ∀ d ∈ ds, noL d = true) : noLAll ds = true := by
  induction ds with
  | nil => rfl
  | cons d ds ih => show (noL d && noLAll ds) = true; rw [h d (by simp), ih fun x hx => h x (by simp [hx])]; rfl
end

/-! ### statements -/
structure Post where
  nx : List Slot → Prop
  rt : D → Prop
  bk : List Slot → Prop := fun _ => False
  ct : List Slot → Prop := fun _ => False
  rx : Hp → Hp → Hp → L2.St → Hp → Prop := fun _ _ _ _ _ => False
  bs : Hp → Hp → Prop := fun _ _ => True
/-- the ends, from where G is frozen on -/
structure Fits (K : PySem.W.Frag) (G0 H0 Gs : Hp) (P : Post) (E : Ends) : Prop where
  nx : ∀ M G σ H, P.nx M → Same Gs G → IM K G0 H0 M G σ H → E.nx σ H
  rt : ∀ d v G H, P.rt d → Up G0 H0 G H → Rp K G v d → E.rt v H
  bk : ∀ M G σ H, P.bk M → Same Gs G → IM K G0 H0 M G σ H → E.bk σ H
  ct : ∀ M G σ H, P.ct M → Same Gs G → IM K G0 H0 M G σ H → E.ct σ H
  rx : ∀ G σ H, P.rx G0 H0 G σ H → E.nx σ H
  bs : P.bs G0 H0
theorem Fits.up {K : PySem.W.Frag} {G0 H0 G G' : Hp} {P : Post} {E : Ends} (F : Fits K G0 H0 G P E) (s : Same G G') : Fits K G0 H0 G' P E :=
  ⟨fun M G σ H h s' => F.nx M G σ H h (s.trans s'), F.rt, fun M G σ H h s' => F.bk M G σ H h (s.trans s'), fun M G σ H h s' => F.ct M G σ H h (s.trans s'), F.rx, F.bs⟩
def Sd (X : Cx) (M : List Slot) (sts : List Stmt) (P : Post) : Prop := ∀ G0 H0 G σ H E, IM X.K G0 H0 M G σ H → Fits X.K G0 H0 G P E → wSs X sts E σ H
def Sd1 (X : Cx) (M : List Slot) (st : Stmt) (P : Post) : Prop := ∀ G0 H0 G σ H E, IM X.K G0 H0 M G σ H → Fits X.K G0 H0 G P E → wS X st E σ H
section
variable {X : Cx} {M M' : List Slot} {e a b c tg iter : Expr} {es : List Expr} {d d1 d2 d3 : D} {ds xs ys : List D} {pos p pos' : Pos} {P : Post} {st : Stmt} {rest body orelse : List Stmt}
theorem sd_nil (h : P.nx M) : Sd X M [] P := fun G0 H0 G σ H E I F => wSs_of pss_nil (F.nx _ _ _ _ h (.refl _) I)
theorem sd_cons {R : List Slot → Prop} (h1 : Sd1 X M st { nx := R, rt := P.rt, bk := P.bk, ct := P.ct }) (h2 : ∀ M', R M' → Sd X M' rest P) : Sd X M (st :: rest) P := fun G0 H0 G σ H E I F =>
  wSs_of (pss_cons pS pSs) (h1 G0 H0 G σ H { E with nx := fun σ' H' => wSs X rest E σ' H' } I ⟨fun M' G' σ' H' r s I' => h2 M' r G0 H0 G' σ' H' E I' (F.up s), F.rt, F.bk, F.ct, fun _ _ _ z => z.elim, trivial⟩)
/-- one statement that leads on to M' -/
theorem sd_then (h1 : ∀ G0 H0 G σ H E, IM X.K G0 H0 M G σ H → (∀ G' σ' H', Same G G' → IM X.K G0 H0 M' G' σ' H' → E.nx σ' H') → wS X st E σ H) (h2 : Sd X M' rest P) : Sd X M (st :: rest) P := fun G0 H0 G σ H E I F =>
  wSs_of (pss_cons pS pSs) (h1 G0 H0 G σ H { E with nx := fun σ' H' => wSs X rest E σ' H' } I fun G' σ' H' s I' => h2 G0 H0 G' σ' H' E I' (F.up s))
theorem sd_le (l : Le M M') (h : Sd X M' rest P) : Sd X M rest P := fun G0 H0 G σ H E I F => h G0 H0 G σ H E (l.im I) F
theorem sd_post {P' : Post} (h : Sd X M rest P') (nx : ∀ M, P'.nx M → P.nx M) (rt : ∀ d, P'.rt d → P.rt d) (bk : ∀ M, P'.bk M → P.bk M) (ct : ∀ M, P'.ct M → P.ct M) (rx : ∀ G0 H0 G σ H, P'.rx G0 H0 G σ H → P.rx G0 H0 G σ H) (bs : ∀ G0 H0, P.bs G0 H0 → P'.bs G0 H0) : Sd X M rest P := fun G0 H0 G σ H E I F =>
  h G0 H0 G σ H E I ⟨fun M G σ H q => F.nx M G σ H (nx M q), fun d v G H q => F.rt d v G H (rt d q), fun M G σ H q => F.bk M G σ H (bk M q), fun M G σ H q => F.ct M G σ H (ct M q), fun G σ H q => F.rx G σ H (rx _ _ _ _ _ q), bs _ _ F.bs⟩
/-- x = e -/
theorem sd_set (i : Nat) {x : Str} (he : EvD X M e d) (hN : X.N.Nodup) (h : Sd X (M.set i (.d d)) rest P) (hi : X.N[i]? = some x := by rfl) (hx : Loc X.env.scope x := by first | exact Or.inl rfl | exact Or.inr rfl) (hs : swapsWith e (some (.Name x pos')) pos.line X.env = pure false := by rfl)
    (hf : X.fn x = true ∨ X.env.scope.names.lookup x = some .local := by first | exact .inl rfl | exact .inr rfl) : Sd X M (.Assign [.Name x pos'] e pos :: rest) P :=
  sd_then (fun G0 H0 G σ H E I k => wS_of (ps_set hN hi hx pE hs hf) (he G0 H0 G σ H I _ fun v G' H' u r => k G' _ H' u.g ((I.ext u).set r i))) h
theorem IM.fresh {K : PySem.W.Frag} {G0 H0 G H G' H' : Hp} {σ : L2.St} {p : Addr} {vs : List V} (I : IM K G0 H0 M G σ H) (u : Up G H G' H') (hn : H p = none) (g : G' p = none) (hp : H' p = some (.lst vs)) (r : RpAll K G' vs ds) (i : Nat) : IM K G0 H0 (M.set i (.o ds)) G' (σ.set i (some (.ref p))) H' :=
  (I.ext u).setO (two I.up hn) g hp r (fun j es h1 h2 => by
    obtain ⟨q, ws, a, _, _, c, _⟩ := I.so j es h1
    rw [h2] at a; cases a
    rw [hn] at c; cases c) i
theorem sd_setO (i : Nat) {x : Str} (he : EvO X M e ds) (hN : X.N.Nodup) (h : Sd X (M.set i (.o ds)) rest P) (hi : X.N[i]? = some x := by rfl) (hx : Loc X.env.scope x := by first | exact Or.inl rfl | exact Or.inr rfl) (hs : swapsWith e (some (.Name x pos')) pos.line X.env = pure false := by rfl)
    (hf : X.fn x = true ∨ X.env.scope.names.lookup x = some .local := by first | exact .inl rfl | exact .inr rfl) : Sd X M (.Assign [.Name x pos'] e pos :: rest) P :=
  sd_then (fun G0 H0 G σ H E I k => wS_of (ps_set hN hi hx pE hs hf) (he G0 H0 G σ H I _ fun p vs G' H' u hn g hp r => k G' _ H' u.g (I.fresh u hn g hp r i))) h
/-- x = [.. for ..] -/
theorem sd_setLc (i : Nat) {x : Str} {elt : Expr} {ifs : List Expr} {scope : Scope} {α : Type} {enc : α → D} {items : List α} {f : α → D} {pr : α → Bool} {M2 : α → List Slot} {js : List Nat} (own : List (Str × Nat)) (hsrc : SrcD X M tg iter (items.map enc)) (hc : X.calm = true) (hN : X.N.Nodup) (ok : BlkOk X.N X.env.scope scope own) (hjs : ∀ j ∈ js, j ∈ own.map (·.2))
    (ht : Blk X scope fun Y => ∀ d ∈ items, TgD Y (wipeM M (own.map (·.2))) tg (enc d) (M2 d) js) (hif : Blk X scope fun Y => ∀ d ∈ items, EvTs Y (M2 d) ifs (pr d)) (hel : Blk X scope fun Y => ∀ d ∈ items, pr d = true → EvD Y (M2 d) elt (f d)) (hlen : items.length ≤ 100000)
    (h : Sd X (M.set i (.d (.lst ((items.filter pr).map f)))) rest P) (hsw : swapsWith (.ListComp elt [⟨tg, iter, ifs, 0⟩] scope p) (some (.Name x pos')) pos.line X.env = pure true := by exact sw_true rfl rfl rfl (by decide +kernel)) (hi : X.N[i]? = some x := by rfl) (hyl : X.env.scope.names.lookup x = some .local := by rfl)
    (hs : ∀ x, foldedSetIterable iter X.env x = pure x := by intro _; rfl) : Sd X M (.Assign [.Name x pos'] (.ListComp elt [⟨tg, iter, ifs, 0⟩] scope p) pos :: rest) P :=
  sd_then (fun G0 H0 G σ H E I k => wS_of (ps_setLc hc hN hi hyl hsw pI ok gB_ok ttB_ok teB_ok hs) (lc_read hsrc hjs ht hif hel hlen I fun p vs G' H' u hn g hp r =>
    k (upd G' p (.lst vs)) _ H' (u.ice hn hp g).g ((I.ext (u.ice hn hp g)).set (.lst upd_same (r.mono (Same.new g))) i))) h
theorem sd_setLcO (i : Nat) {x : Str} {elt : Expr} {ifs : List Expr} {scope : Scope} {α : Type} {enc : α → D} {items : List α} {f : α → D} {pr : α → Bool} {M2 : α → List Slot} {js : List Nat} (own : List (Str × Nat)) (hsrc : SrcD X M tg iter (items.map enc)) (hc : X.calm = true) (hN : X.N.Nodup) (ok : BlkOk X.N X.env.scope scope own) (hjs : ∀ j ∈ js, j ∈ own.map (·.2))
    (ht : Blk X scope fun Y => ∀ d ∈ items, TgD Y (wipeM M (own.map (·.2))) tg (enc d) (M2 d) js) (hif : Blk X scope fun Y => ∀ d ∈ items, EvTs Y (M2 d) ifs (pr d)) (hel : Blk X scope fun Y => ∀ d ∈ items, pr d = true → EvD Y (M2 d) elt (f d)) (hlen : items.length ≤ 100000)
    (h : Sd X (M.set i (.o ((items.filter pr).map f))) rest P) (hsw : swapsWith (.ListComp elt [⟨tg, iter, ifs, 0⟩] scope p) (some (.Name x pos')) pos.line X.env = pure true := by exact sw_true rfl rfl rfl (by decide +kernel)) (hi : X.N[i]? = some x := by rfl) (hyl : X.env.scope.names.lookup x = some .local := by rfl)
    (hs : ∀ x, foldedSetIterable iter X.env x = pure x := by intro _; rfl) : Sd X M (.Assign [.Name x pos'] (.ListComp elt [⟨tg, iter, ifs, 0⟩] scope p) pos :: rest) P :=
  sd_then (fun G0 H0 G σ H E I k => wS_of (ps_setLc hc hN hi hyl hsw pI ok gB_ok ttB_ok teB_ok hs) (lc_read hsrc hjs ht hif hel hlen I fun p vs G' H' u hn g hp r => k G' _ H' u.g (I.fresh u hn g hp r i))) h
/-- x = [elt for tg in iter] -/
theorem sd_setMap (i : Nat) {x : Str} {elt : Expr} {scope : Scope} {α : Type} (own : List (Str × Nat)) (enc : α → D) (items : List α) (f : α → D) (M2 : α → List Slot) (js : List Nat) (hsrc : SrcD X M tg iter (items.map enc)) (hc : X.calm = true) (hN : X.N.Nodup) (ok : BlkOk X.N X.env.scope scope own) (hjs : ∀ j ∈ js, j ∈ own.map (·.2))
    (ht : Blk X scope fun Y => ∀ d ∈ items, TgD Y (wipeM M (own.map (·.2))) tg (enc d) (M2 d) js) (hel : Blk X scope fun Y => ∀ d ∈ items, EvD Y (M2 d) elt (f d)) (hlen : items.length ≤ 100000)
    (h : Sd X (M.set i (.d (.lst (items.map f)))) rest P) (hsw : swapsWith (.ListComp elt [⟨tg, iter, [], 0⟩] scope p) (some (.Name x pos')) pos.line X.env = pure true := by exact sw_true rfl rfl rfl (by decide +kernel)) (hi : X.N[i]? = some x := by rfl) (hyl : X.env.scope.names.lookup x = some .local := by rfl)
    (hs : ∀ x, foldedSetIterable iter X.env x = pure x := by intro _; rfl) : Sd X M (.Assign [.Name x pos'] (.ListComp elt [⟨tg, iter, [], 0⟩] scope p) pos :: rest) P := by
  refine sd_setLc i (pr := fun _ => true) own hsrc hc hN ok hjs ht (fun _ _ _ _ _ d hd => evts_nil) (fun s H C cl fp d hd _ => hel s H C cl fp d hd) hlen ?_ hsw hi hyl hs
  rw [List.filter_eq_self.mpr (fun _ _ => rfl)]
  exact h
theorem sd_setMapO (i : Nat) {x : Str} {elt : Expr} {scope : Scope} {α : Type} (own : List (Str × Nat)) (enc : α → D) (items : List α) (f : α → D) (M2 : α → List Slot) (js : List Nat) (hsrc : SrcD X M tg iter (items.map enc)) (hc : X.calm = true) (hN : X.N.Nodup) (ok : BlkOk X.N X.env.scope scope own) (hjs : ∀ j ∈ js, j ∈ own.map (·.2))
    (ht : Blk X scope fun Y => ∀ d ∈ items, TgD Y (wipeM M (own.map (·.2))) tg (enc d) (M2 d) js) (hel : Blk X scope fun Y => ∀ d ∈ items, EvD Y (M2 d) elt (f d)) (hlen : items.length ≤ 100000)
    (h : Sd X (M.set i (.o (items.map f))) rest P) (hsw : swapsWith (.ListComp elt [⟨tg, iter, [], 0⟩] scope p) (some (.Name x pos')) pos.line X.env = pure true := by exact sw_true rfl rfl rfl (by decide +kernel)) (hi : X.N[i]? = some x := by rfl) (hyl : X.env.scope.names.lookup x = some .local := by rfl)
    (hs : ∀ x, foldedSetIterable iter X.env x = pure x := by intro _; rfl) : Sd X M (.Assign [.Name x pos'] (.ListComp elt [⟨tg, iter, [], 0⟩] scope p) pos :: rest) P := by
  refine sd_setLcO i (pr := fun _ => true) own hsrc hc hN ok hjs ht (fun _ _ _ _ _ d hd => evts_nil) (fun s H C cl fp d hd _ => hel s H C cl fp d hd) hlen ?_ hsw hi hyl hs
  rw [List.filter_eq_self.mpr (fun _ _ => rfl)]
  exact h
/-- a, b = e -/
theorem sd_tg {M2 : List Slot} {js : List Nat} (he : EvD X M e d) (ht : TgD X M tg d M2 js) (h : Sd X M2 rest P) (hs : swapsWithSole [tg] e pos.line X.env = pure false := by rfl) (hw : swappedStores [tg] e X.env = pure none := by rfl) (h1 : (assignEach [tg] X.env).map (·.2) = [assign tg X.env] := by rfl) : Sd X M (.Assign [tg] e pos :: rest) P :=
  sd_then (fun G0 H0 G σ H E I k => wS_of (ps_asg pE pG hs hw h1) (he G0 H0 G σ H I _ fun v G' H' u r => ht G0 H0 G' σ H' v (I.ext u) r _ fun σ' I' _ _ => k G' σ' H' u.g I')) h
theorem sd_par (i j : Nat) {x y : Str} {a b : Expr} {px py pt : Pos} {kt k2 : Nat} {pt2 : Pos} (ha : EvD X M a d1) (hb : EvD X M b d2) (hc : X.calm = true) (hN : X.N.Nodup) (h : Sd X ((M.set i (.d d1)).set j (.d d2)) rest P) (hi : X.N[i]? = some x := by rfl) (hj : X.N[j]? = some y := by rfl) (hij : i ≠ j := by decide)
    (hx : X.env.scope.names.lookup x = some .local := by rfl) (hy : X.env.scope.names.lookup y = some .local := by rfl)
    (hw : swappedStores [.Tuple [.Name x px, .Name y py] kt pt] (.Tuple [a, b] k2 pt2) X.env = pure (some [x, y]) := by rfl)
    (hs : swapsWithSole [.Tuple [.Name x px, .Name y py] kt pt] (.Tuple [a, b] k2 pt2) pos.line X.env = pure false := by rfl)
    (he1 : starEach [a, b] X.env = (false, eval a X.env) :: starEach [b] X.env := by rfl) (he2 : starEach [b] X.env = (false, eval b X.env) :: starEach [] X.env := by rfl) : Sd X M (.Assign [.Tuple [.Name x px, .Name y py] kt pt] (.Tuple [a, b] k2 pt2) pos :: rest) P :=
  sd_then (fun G0 H0 G σ H E I k => wS_of (ps_par hc hN hi hj hij hx hy pA hw hs) (wA_of (pa_cons pE (pa_cons pE pa_nil he2) he1) (ev2 (ta := a) (tb := b) I ha hb fun v1 v2 G' H' u r1 r2 => ⟨v1, v2, rfl, k G' _ H' u.g (((I.ext u).set r1 i).set r2 j)⟩))) h
theorem sd_ret (he : EvD X M e d) (h : P.rt d) : Sd X M (.Return (some e) pos :: rest) P := fun G0 H0 G σ H E I F =>
  wSs_of (pss_cons pS pSs) (wS_of (ps_ret pE) (he G0 H0 G σ H I _ fun v G' H' u r => F.rt d v G' H' h (I.up.trans u) r))
theorem sd_retN (h : P.rt .non) : Sd X M (.Return none pos :: rest) P := fun G0 H0 G σ H E I F =>
  wSs_of (pss_cons pS pSs) (wS_of ps_retN (F.rt _ _ G H h I.up .non))
/-- the own list in slot i is handed out -/
theorem sd_retO (i : Nat) {x : Str} (hM : M[i]? = some (.o ds)) (h : P.rt (.lst ds)) (hN : X.N[i]? = some x := by rfl) (hv : Vis X.env.scope x := by first | exact Or.inl rfl | exact Or.inr (Or.inl rfl) | exact Or.inr (Or.inr rfl))
    (hd : (x == ("__debug__" : Str)) = false := by decide) (hcd : (x == ("__classdict__" : Str)) = false := by decide) : Sd X M (.Return (some (.Name x p)) pos :: rest) P := fun G0 H0 G σ H E I F => by
  obtain ⟨q, vs, a, b, c, d, r⟩ := I.so i ds hM
  refine wSs_of (pss_cons pS pSs) (wS_of (ps_ret (pe_var hN hv hd hcd)) ⟨_, a, F.rt _ _ (upd G q (.lst vs)) H h ⟨I.up.g.trans (Same.new c), I.up.h, fun x o e => ?_, fun x o e n => ?_⟩ (.lst upd_same (r.mono (Same.new c)))⟩)
  · by_cases z : x = q
    · subst z; rw [upd_same] at e; rw [d]; exact e
    · rw [upd_ne z] at e; exact I.up.i _ _ e
  · rw [upd_ne (ne_of_none e b)]; exact I.up.f x o e n
theorem sd_drop (he : EvD X M e d) (h : Sd X M rest P) (hs : swapsWith e none pos.line X.env = pure false := by rfl) : Sd X M (.Expr e pos :: rest) P :=
  sd_then (fun G0 H0 G σ H E I k => wS_of (ps_expr pE hs) (he G0 H0 G σ H I _ fun v G' H' u r => k G' σ H' u.g (I.ext u))) h
theorem sd_pass (h : Sd X M rest P) : Sd X M (.Pass pos :: rest) P := sd_then (fun G0 H0 G σ H E I k => wS_of ps_pass (k G σ H (.refl _) I)) h
theorem sd_break (h : P.bk M) : Sd X M (.Break pos :: rest) P := fun G0 H0 G σ H E I F => wSs_of (pss_cons pS pSs) (wS_of ps_break (F.bk _ _ _ _ h (.refl _) I))
theorem sd_continue (h : P.ct M) : Sd X M (.Continue pos :: rest) P := fun G0 H0 G σ H E I F => wSs_of (pss_cons pS pSs) (wS_of ps_continue (F.ct _ _ _ _ h (.refl _) I))
/-- the own list in slot i is never changed any more -/
theorem sd_ice (i : Nat) (hM : M[i]? = some (.o ds)) (h : Sd X (M.set i (.d (.lst ds))) rest P) : Sd X M rest P := fun G0 H0 G σ H E I F => by
  obtain ⟨q, vs, a, b, c, d, r⟩ := I.so i ds hM
  have hlt : i < σ.length := by rw [I.len]; exact (List.getElem?_eq_some_iff.mp hM).1
  have es : σ.set i (some (.ref q)) = σ := by
    apply List.ext_getElem?
    intro j
    by_cases z : i = j
    · subst z; rw [List.getElem?_set_self hlt, a]
    · rw [List.getElem?_set_ne z]
  refine h G0 H0 (upd G q (.lst vs)) σ H E ?_ (F.up (Same.new c))
  have I1 : IM X.K G0 H0 (M.set i .no) G (σ.set i none) H := I.setNo i
  have up : Up G0 H0 (upd G q (.lst vs)) H := ⟨I.up.g.trans (Same.new c), I.up.h, fun x o e => by
      by_cases z : x = q
      · subst z; rw [upd_same] at e; rw [d]; exact e
      · rw [upd_ne z] at e; exact I.up.i _ _ e, fun x o e n => by rw [upd_ne (ne_of_none e b)]; exact I.up.f x o e n⟩
  have I2 : IM X.K G0 H0 (M.set i .no) (upd G q (.lst vs)) (σ.set i none) H := by
    refine ⟨up, I1.len, fun j d' hj => ?_, fun j es hj => ?_, I1.inj⟩
    · obtain ⟨v, a1, r1⟩ := I1.sd j d' hj
      exact ⟨v, a1, r1.mono (Same.new c)⟩
    · obtain ⟨q', ws, a1, b1, c1, d1', r1⟩ := I1.so j es hj
      refine ⟨q', ws, a1, b1, ?_, d1', r1.mono (Same.new c)⟩
      have hne : i ≠ j := fun z => by
        subst z
        rw [List.getElem?_set_self (by rw [← I.len]; exact hlt)] at hj; cases hj
      rw [List.getElem?_set_ne hne] at hj a1
      rw [upd_ne fun z => hne (I.inj i j _ _ q hM hj a (by rw [a1, z]))]
      exact c1
  have I3 := I2.set (v := .ref q) (d := .lst ds) (.lst upd_same (r.mono (Same.new c))) i
  rw [List.set_set, List.set_set, es] at I3
  exact I3
/-- a method of one's own list in slot i, called -/
theorem lm {i : Nat} {x name : Str} {id : String} {r : V → List V → Hp → VK → Prop} {p1 p2 p3 : Pos} (slot : PySem.Slot "list" name id) (hty : typeOf (.builtin id) = pure (.type "method_descriptor")) (hm : MtR X id r) (ha : EvA X M (e :: es) xs) (hM : M[i]? = some (.o ds)) (hN : X.N[i]? = some x) (hv : Vis X.env.scope x)
    (hd : (x == ("__debug__" : Str)) = false) (hcd : (x == ("__classdict__" : Str)) = false) (hbase : attributeBase (.Name x p1) name X.env (eval (.Name x p1) X.env) = eval (.Name x p1) X.env)
    (hfew : ((backTo p3 (starEach (e :: es) X.env)).all (fun x => !x.1) && (backToKw p3 (keywordEach [] X.env)).all (fun x => x.1.isSome) && decide ((e :: es).length + ([] : List Keyword).length + (if ([] : List Keyword).isEmpty then 0 else 1) < 30)) = true)
    (hline : (p2.endLine == p3.line) = true) (hs : starEach (e :: es) X.env = (false, eval e X.env) :: starEach es X.env) (hplain : (backTo p3 (starEach es X.env)).any (·.1) = false)
    {G0 H0 G H : Hp} {σ : L2.St} (I : IM X.K G0 H0 M G σ H) {Q : VK} (k : ∀ q vs ws G' H', σ[i]? = some (some (.ref q)) → Up G H G' H' → H' q = some (.lst vs) → RpAll X.K G' vs ds → RpAll X.K G' ws xs → r (.ref q) ws H' Q) :
    wE X (.Call (.Attribute (.Name x p1) name p2) (e :: es) [] p3) σ H Q := by
  obtain ⟨q, vs, a, b, c, dd, rr⟩ := I.so i ds hM
  refine wE_of (pe_bm PySem.F.plainAttrs_list slot hty hm (pe_var hN hv hd hcd) pA hbase hfew hline hs hplain) ⟨_, a, .inl ⟨rfl, vs, SqL.of dd⟩, ha G0 H0 G σ H I _ fun ws G' H' u rw => ?_⟩
  exact k q vs ws G' H' a u (u.h _ _ dd) (rr.mono u.g) rw
/-- l.append(e), l one's own list in slot i -/
theorem sd_append (i : Nat) (hM : M[i]? = some (.o ds)) {x : Str} {p1 p2 p3 : Pos} (he : EvD X M e d) (hl : ds.length < 100000) (h : Sd X (M.set i (.o (ds ++ [d]))) rest P) (hN : X.N[i]? = some x := by rfl) (hv : Vis X.env.scope x := by first | exact Or.inl rfl | exact Or.inr (Or.inl rfl) | exact Or.inr (Or.inr rfl))
    (hd : (x == ("__debug__" : Str)) = false := by decide) (hcd : (x == ("__classdict__" : Str)) = false := by decide) (he1 : starEach [e] X.env = (false, eval e X.env) :: starEach [] X.env := by rfl)
    (hbase : attributeBase (.Name x p1) "append" X.env (eval (.Name x p1) X.env) = eval (.Name x p1) X.env := by rfl) (hfew : ((backTo p3 (starEach [e] X.env)).all (fun x => !x.1) && (backToKw p3 (keywordEach [] X.env)).all (fun x => x.1.isSome) && decide ([e].length + ([] : List Keyword).length + (if ([] : List Keyword).isEmpty then 0 else 1) < 30)) = true := by rfl)
    (hpl : (backTo p3 (starEach [] X.env)).any (·.1) = false := by rfl) (hline : (p2.endLine == p3.line) = true := by rfl)
    (hs : swapsWith (.Call (.Attribute (.Name x p1) "append" p2) [e] [] p3) none pos.line X.env = pure false := by rfl) : Sd X M (.Expr (.Call (.Attribute (.Name x p1) "append" p2) [e] [] p3) pos :: rest) P :=
  sd_then (fun G0 H0 G σ H E I k => wS_of (ps_expr pE hs) (lm PySem.F.slot_list_append PySem.F.type_list_append mt_append (eva_cons he eva_nil he1) hM hN hv hd hcd hbase hfew hline he1 hpl I fun q vs ws G' H' a u dd r rw => by
    obtain ⟨v, rfl, rv⟩ := rw.one
    exact ⟨q, vs, v, rfl, rfl, dd, by rw [r.len]; exact Evl.sz_lt hl, k G' σ _ u.g ((I.ext u).write hM a (r.app (.cons rv .nil)))⟩)) h
/-- l.extend(e) -/
theorem sd_extend (i : Nat) (hM : M[i]? = some (.o ds)) {x : Str} {p1 p2 p3 : Pos} (he : EvD X M e (.lst xs)) (hl : ds.length + xs.length ≤ 100000) (h : Sd X (M.set i (.o (ds ++ xs))) rest P) (hN : X.N[i]? = some x := by rfl) (hv : Vis X.env.scope x := by first | exact Or.inl rfl | exact Or.inr (Or.inl rfl) | exact Or.inr (Or.inr rfl))
    (hd : (x == ("__debug__" : Str)) = false := by decide) (hcd : (x == ("__classdict__" : Str)) = false := by decide) (he1 : starEach [e] X.env = (false, eval e X.env) :: starEach [] X.env := by rfl)
    (hbase : attributeBase (.Name x p1) "extend" X.env (eval (.Name x p1) X.env) = eval (.Name x p1) X.env := by rfl) (hfew : ((backTo p3 (starEach [e] X.env)).all (fun x => !x.1) && (backToKw p3 (keywordEach [] X.env)).all (fun x => x.1.isSome) && decide ([e].length + ([] : List Keyword).length + (if ([] : List Keyword).isEmpty then 0 else 1) < 30)) = true := by rfl)
    (hpl : (backTo p3 (starEach [] X.env)).any (·.1) = false := by rfl) (hline : (p2.endLine == p3.line) = true := by rfl)
    (hs : swapsWith (.Call (.Attribute (.Name x p1) "extend" p2) [e] [] p3) none pos.line X.env = pure false := by rfl) : Sd X M (.Expr (.Call (.Attribute (.Name x p1) "extend" p2) [e] [] p3) pos :: rest) P :=
  sd_then (fun G0 H0 G σ H E I k => wS_of (ps_expr pE hs) (lm PySem.F.slot_list_extend PySem.F.type_list_extend mt_extend (eva_cons he eva_nil he1) hM hN hv hd hcd hbase hfew hline he1 hpl I fun q vs ws G' H' a u dd r rw => by
    obtain ⟨v, rfl, rv⟩ := rw.one
    cases rv with
    | lst g rs => exact ⟨q, _, vs, _, rfl, rfl, dd, u.i _ _ g, by rw [r.len, rs.len]; exact Evl.sz_of hl, k G' σ _ u.g ((I.ext u).write hM a (r.app rs))⟩)) h
/-- l.insert(k, e) -/
theorem sd_insert (i : Nat) (hM : M[i]? = some (.o ds)) {x : Str} {p1 p2 p3 : Pos} {b : Expr} {n : Int} (hb : EvD X M b (.int n)) (he : EvD X M e d) (hn : 0 ≤ n ∧ n < 2 ^ 63) (hl : ds.length < 100000) (h : Sd X (M.set i (.o (ds.take n.toNat ++ [d] ++ ds.drop n.toNat))) rest P) (hN : X.N[i]? = some x := by rfl) (hv : Vis X.env.scope x := by first | exact Or.inl rfl | exact Or.inr (Or.inl rfl) | exact Or.inr (Or.inr rfl))
    (hd : (x == ("__debug__" : Str)) = false := by decide) (hcd : (x == ("__classdict__" : Str)) = false := by decide) (he0 : starEach [b, e] X.env = (false, eval b X.env) :: starEach [e] X.env := by rfl) (he1 : starEach [e] X.env = (false, eval e X.env) :: starEach [] X.env := by rfl)
    (hbase : attributeBase (.Name x p1) "insert" X.env (eval (.Name x p1) X.env) = eval (.Name x p1) X.env := by rfl) (hfew : ((backTo p3 (starEach [b, e] X.env)).all (fun x => !x.1) && (backToKw p3 (keywordEach [] X.env)).all (fun x => x.1.isSome) && decide ([b, e].length + ([] : List Keyword).length + (if ([] : List Keyword).isEmpty then 0 else 1) < 30)) = true := by rfl)
    (hpl : (backTo p3 (starEach [e] X.env)).any (·.1) = false := by rfl) (hline : (p2.endLine == p3.line) = true := by rfl)
    (hs : swapsWith (.Call (.Attribute (.Name x p1) "insert" p2) [b, e] [] p3) none pos.line X.env = pure false := by rfl) : Sd X M (.Expr (.Call (.Attribute (.Name x p1) "insert" p2) [b, e] [] p3) pos :: rest) P :=
  sd_then (fun G0 H0 G σ H E I k => wS_of (ps_expr pE hs) (lm PySem.F.slot_list_insert PySem.F.type_list_insert mt_insert (eva_cons hb (eva_cons he eva_nil he1) he0) hM hN hv hd hcd hbase hfew hline he0 hpl I fun q vs ws G' H' a u dd r rw => by
    obtain ⟨v, w, rfl, rv, rw'⟩ := rw.two
    cases rv
    exact ⟨q, vs, n, w, rfl, rfl, dd, by rw [r.len]; exact Evl.sz_lt hl, hn.1, hn.2, k G' σ _ u.g ((I.ext u).write hM a (((r.take _).app (.cons rw' .nil)).app (r.drop _)))⟩)) h
/-- y = l.pop() -/
theorem sd_pop (i j : Nat) (hM : M[i]? = some (.o (ds ++ [d]))) {x y : Str} {p1 p2 p3 py : Pos} (hN : X.N.Nodup) (h : Sd X ((M.set i (.o ds)).set j (.d d)) rest P) (hij : i ≠ j := by decide) (hNi : X.N[i]? = some x := by rfl) (hv : Vis X.env.scope x := by first | exact Or.inl rfl | exact Or.inr (Or.inl rfl) | exact Or.inr (Or.inr rfl))
    (hd : (x == ("__debug__" : Str)) = false := by decide) (hcd : (x == ("__classdict__" : Str)) = false := by decide)
    (hbase : attributeBase (.Name x p1) "pop" X.env (eval (.Name x p1) X.env) = eval (.Name x p1) X.env := by rfl) (hline : (p2.endLine == p3.line) = true := by rfl)
    (hj : X.N[j]? = some y := by rfl) (hx : Loc X.env.scope y := by first | exact Or.inl rfl | exact Or.inr rfl) (hs : swapsWith (.Call (.Attribute (.Name x p1) "pop" p2) [] [] p3) (some (.Name y py)) pos.line X.env = pure false := by rfl)
    (hf : X.fn y = true ∨ X.env.scope.names.lookup y = some .local := by first | exact .inl rfl | exact .inr rfl) : Sd X M (.Assign [.Name y py] (.Call (.Attribute (.Name x p1) "pop" p2) [] [] p3) pos :: rest) P :=
  sd_then (fun G0 H0 G σ H E I k => by
    obtain ⟨q, vs, a, b, c, dd, rr⟩ := I.so i _ hM
    refine wS_of (ps_set hN hj hx (pe_bm0 PySem.F.plainAttrs_list PySem.F.slot_list_pop PySem.F.type_list_pop mt_pop (pe_var hNi hv hd hcd) hbase hline) hs hf) ⟨_, a, .inl ⟨rfl, vs, SqL.of dd⟩, ?_⟩
    obtain ⟨v, h1, h2⟩ := rr.get (i := ds.length) (d := d) (by simp)
    have hl : vs.length - 1 = ds.length := by rw [rr.len]; simp
    have hr := rr.dropLast
    rw [List.dropLast_concat] at hr
    exact ⟨q, vs, v, rfl, rfl, dd, by rw [hl]; exact h1, k G _ _ (.refl _) ((I.write hM a hr).set h2 j)⟩) h
/-- l.pop() -/
theorem sd_popE (i : Nat) (hM : M[i]? = some (.o (ds ++ [d]))) {x : Str} {p1 p2 p3 : Pos} (h : Sd X (M.set i (.o ds)) rest P) (hNi : X.N[i]? = some x := by rfl) (hv : Vis X.env.scope x := by first | exact Or.inl rfl | exact Or.inr (Or.inl rfl) | exact Or.inr (Or.inr rfl))
    (hd : (x == ("__debug__" : Str)) = false := by decide) (hcd : (x == ("__classdict__" : Str)) = false := by decide)
    (hbase : attributeBase (.Name x p1) "pop" X.env (eval (.Name x p1) X.env) = eval (.Name x p1) X.env := by rfl) (hline : (p2.endLine == p3.line) = true := by rfl)
    (hs : swapsWith (.Call (.Attribute (.Name x p1) "pop" p2) [] [] p3) none pos.line X.env = pure false := by rfl) : Sd X M (.Expr (.Call (.Attribute (.Name x p1) "pop" p2) [] [] p3) pos :: rest) P :=
  sd_then (fun G0 H0 G σ H E I k => by
    obtain ⟨q, vs, a, b, c, dd, rr⟩ := I.so i _ hM
    refine wS_of (ps_expr (pe_bm0 PySem.F.plainAttrs_list PySem.F.slot_list_pop PySem.F.type_list_pop mt_pop (pe_var hNi hv hd hcd) hbase hline) hs) ⟨_, a, .inl ⟨rfl, vs, SqL.of dd⟩, ?_⟩
    obtain ⟨v, h1, h2⟩ := rr.get (i := ds.length) (d := d) (by simp)
    have hl : vs.length - 1 = ds.length := by rw [rr.len]; simp
    have hr := rr.dropLast
    rw [List.dropLast_concat] at hr
    exact ⟨q, vs, v, rfl, rfl, dd, by rw [hl]; exact h1, k G σ _ (.refl _) (I.write hM a hr)⟩) h
/-- l[b] = e -/
theorem sd_item (i : Nat) (hM : M[i]? = some (.o ds)) {x : Str} {p1 p2 : Pos} {n : Int} {m : Nat} (he : EvD X M e d) (hb : EvD X M b (.int n)) (hn : ixN ds.length n = some m) (h : Sd X (M.set i (.o (ds.set m d))) rest P) (hN : X.N[i]? = some x := by rfl) (hv : Vis X.env.scope x := by first | exact Or.inl rfl | exact Or.inr (Or.inl rfl) | exact Or.inr (Or.inr rfl))
    (hd : (x == ("__debug__" : Str)) = false := by decide) (hcd : (x == ("__classdict__" : Str)) = false := by decide)
    (ha : ∀ v, assign (.Subscript (.Name x p1) b p2) X.env v = (do
      let ov ← holding [v] (eval (.Name x p1) X.env)
      let iv ← holding [v, ov] (eval b X.env)
      standAt p2
      holding [v, ov, iv] (setItem ov iv v)
      release [v, ov, iv] []) := by intro _; rfl)
    (hs : swapsWithSole [.Subscript (.Name x p1) b p2] e pos.line X.env = pure false := by rfl) (hw : swappedStores [.Subscript (.Name x p1) b p2] e X.env = pure none := by rfl)
    (h1 : (assignEach [.Subscript (.Name x p1) b p2] X.env).map (·.2) = [assign (.Subscript (.Name x p1) b p2) X.env] := by rfl) : Sd X M (.Assign [.Subscript (.Name x p1) b p2] e pos :: rest) P :=
  sd_then (fun G0 H0 G σ H E I k => wS_of (ps_asg pE (pg_sub (pe_var hN hv hd hcd) pE set_list ha) hs hw h1) (he G0 H0 G σ H I _ fun v G1 H1 u1 r1 => by
    obtain ⟨q, vs, a, b1, c, dd, rr⟩ := (I.ext u1).so i _ hM
    refine ⟨_, a, hb G0 H0 G1 σ H1 (I.ext u1) _ fun w G2 H2 u2 r2 => ?_⟩
    cases r2
    exact ⟨q, vs, n, m, rfl, rfl, u2.h _ _ dd, by rw [rr.len]; exact hn, k G2 σ _ (u1.g.trans u2.g) (((I.ext u1).ext u2).write hM a ((rr.mono u2.g).set m (r1.mono u2.g)))⟩)) h
/-- x += e, ints -/
theorem sd_addI (i : Nat) {x : Str} {n m : Int} (hM : M[i]? = some (.d (.int n))) (he : EvD X M e (.int m)) (hN : X.N.Nodup) (hip : PIp X .Add (ipI (· + ·))) (h : Sd X (M.set i (.d (.int (n + m)))) rest P) (hi : X.N[i]? = some x := by rfl) (hx : Loc X.env.scope x := by first | exact Or.inl rfl | exact Or.inr rfl)
    (hf : X.fn x = true ∨ X.env.scope.names.lookup x = some .local := by first | exact .inl rfl | exact .inr rfl) : Sd X M (.AugAssign (.Name x pos') .Add e pos :: rest) P :=
  sd_then (fun G0 H0 G σ H E I k => by
    obtain ⟨v, a, r⟩ := I.sd i _ hM
    cases r
    exact wS_of (ps_aug hN hi hx pE hip hf) ⟨_, a, he G0 H0 G σ H I _ fun w G1 H1 u1 r1 => ⟨n, m, rfl, by cases r1; rfl, k G1 _ H1 u1.g ((I.ext u1).set (.int _) i)⟩⟩) h
/-! if -/
theorem sd1_if {k : Bool} (hc : EvT X M c k) (h1 : k = true → Sd X M body P) (h2 : k = false → Sd X M orelse P) : Sd1 X M (.If c body orelse pos) P := fun G0 H0 G σ H E I F =>
  wS_of (ps_if pT pSs pSs) (hc G0 H0 G σ H I _ fun G1 H1 u1 => by
    cases k with
    | true => rw [if_pos rfl]; exact h1 rfl G0 H0 G1 σ H1 E (I.ext u1) (F.up u1.g)
    | false => rw [if_neg Bool.false_ne_true]; exact h2 rfl G0 H0 G1 σ H1 E (I.ext u1) (F.up u1.g))
/-- each branch goes on by itself -/
theorem sd_if {k : Bool} (hc : EvT X M c k) (h1 : k = true → Sd X M body { nx := fun M' => Sd X M' rest P, rt := P.rt, bk := P.bk, ct := P.ct }) (h2 : k = false → Sd X M orelse { nx := fun M' => Sd X M' rest P, rt := P.rt, bk := P.bk, ct := P.ct }) : Sd X M (.If c body orelse pos :: rest) P :=
  sd_cons (R := fun M' => Sd X M' rest P) (sd1_if hc h1 h2) fun M' h => h
/-- both branches come to A -/
theorem sd_ifJ (A : List Slot) {k : Bool} (hc : EvT X M c k) (h1 : k = true → Sd X M body { nx := fun M' => Le M' A, rt := P.rt, bk := P.bk, ct := P.ct }) (h2 : k = false → Sd X M orelse { nx := fun M' => Le M' A, rt := P.rt, bk := P.bk, ct := P.ct }) (h : Sd X A rest P) : Sd X M (.If c body orelse pos :: rest) P :=
  sd_cons (R := fun M' => Le M' A) (sd1_if hc h1 h2) fun M' l => sd_le l h
/-! loops -/
/-- for tg in iter: a word I of the items taken and a state s, the slots A s; out by break into B -/
theorem sd_for {α S : Type} {enc : α → D} {xs : List α} (I : List α → S → Prop) (A : S → List Slot) (M2 : S → α → List Slot) {js : S → α → List Nat} (B : List Slot → Prop) (hsrc : SrcD X M tg iter (xs.map enc)) (hc : X.calm = true) (s0 : S) (i0 : I [] s0) (h0 : Le M (A s0))
    (ht : ∀ pre x post s, xs = pre ++ x :: post → I pre s → TgD X (A s) tg (enc x) (M2 s x) (js s x))
    (hb : ∀ pre x post s, xs = pre ++ x :: post → I pre s → Sd X (M2 s x) body { nx := fun M' => ∃ s', I (pre ++ [x]) s' ∧ Le M' (A s'), ct := fun M' => ∃ s', I (pre ++ [x]) s' ∧ Le M' (A s'), bk := B, rt := P.rt }) (hd : ∀ s, I xs s → Sd X (A s) rest P) (hbk : ∀ M', B M' → Sd X M' rest P)
    (hp : PassesOwn (model X.prog X.w) X.A X.env X.xe := by exact PassesOwn.never) (hs : ∀ x, foldedSetIterable iter X.env x = pure x := by intro _; rfl) : Sd X M (.For tg iter body [] pos :: rest) P := by
  refine sd_cons (R := fun M' => (∃ s, I xs s ∧ Le M' (A s)) ∨ B M') (fun G0 H0 G σ H E J F => ?_) fun M' h => by
    rcases h with ⟨s, h⟩ | h
    · exact sd_le h.2 (hd s h.1)
    · exact hbk M' h
  refine wS_of (ps_for hp hc pI pG pSs hs) (hsrc G0 H0 G σ H J _ fun Jt G1 H1 u1 w => ?_)
  have el : (xs.map enc).length = xs.length := List.length_map _
  refine ⟨fun i m σ' H' => m = xs.length - i ∧ i ≤ xs.length ∧ ∃ s, I (xs.take i) s ∧ ∃ G', Same G1 G' ∧ IM X.K G0 H0 (A s) G' σ' H', ⟨xs.length, by simp, Nat.zero_le _, s0, by simpa using i0, G1, .refl _, by simpa using h0.im (J.ext u1)⟩, ?_⟩
  rintro i m σ' H' ⟨rfl, hi, s, ii, G', s1, I'⟩
  by_cases hlt : i < xs.length
  · right
    have et : xs.take (i + 1) = xs.take i ++ [xs[i]] := by rw [List.take_succ, List.getElem?_eq_getElem hlt]; rfl
    have es : xs = xs.take i ++ xs[i] :: xs.drop (i + 1) := by rw [List.getElem_cons_drop, List.take_append_drop]
    refine ⟨w.goes i G' H' (by rw [el]; exact hlt) s1 I'.gh, fun σ'' H'' => ∃ s', I (xs.take (i + 1)) s' ∧ ∃ G'', Same G1 G'' ∧ IM X.K G0 H0 (A s') G'' σ'' H'', fun σ'' H'' h => ⟨xs.length - (i + 1), by omega, rfl, hlt, h⟩, fun x H2 y => ?_⟩
    obtain ⟨G2, u2, hx⟩ := w.yields i G' H' x H2 (by rw [el]; exact hlt) s1 I'.gh y
    refine ht _ _ _ s es ii G0 H0 G2 σ' H2 x (I'.ext u2) (hx _ (by rw [List.getElem?_map, List.getElem?_eq_getElem hlt]; rfl)) _ fun σ3 I3 _ _ => ?_
    rw [et]
    have hF : Fits X.K G0 H0 G2 { nx := fun M' => ∃ s', I (xs.take i ++ [xs[i]]) s' ∧ Le M' (A s'), ct := fun M' => ∃ s', I (xs.take i ++ [xs[i]]) s' ∧ Le M' (A s'), bk := B, rt := P.rt }
        { E with nx := fun σ'' H'' => ∃ s', I (xs.take i ++ [xs[i]]) s' ∧ ∃ G'', Same G1 G'' ∧ IM X.K G0 H0 (A s') G'' σ'' H'', ct := fun σ'' H'' => ∃ s', I (xs.take i ++ [xs[i]]) s' ∧ ∃ G'', Same G1 G'' ∧ IM X.K G0 H0 (A s') G'' σ'' H'', bk := E.nx } :=
      ⟨fun M G σ H ⟨s', l⟩ s J => ⟨s', l.1, G, (s1.trans u2.g).trans s, l.2.im J⟩, F.rt, fun M G σ H b s J => F.nx _ _ _ _ (.inr b) (((u1.g.trans s1).trans u2.g).trans s) J, fun M G σ H ⟨s', l⟩ s J => ⟨s', l.1, G, (s1.trans u2.g).trans s, l.2.im J⟩, fun _ _ _ z => z.elim, trivial⟩
    exact hb _ _ _ s es ii G0 H0 G2 σ3 H2 _ I3 hF
  · have e : i = xs.length := by omega
    subst e
    rw [List.take_length] at ii
    exact .inl ⟨by have z := w.stops G' H' s1 I'.gh; rw [el] at z; exact z, F.nx _ _ _ _ (.inl ⟨s, ii, Le.refl _⟩) (u1.g.trans s1) I'⟩
/-- while c: a word I of a state s, slots A s, a measure -/
theorem sd_while {S : Type} (A : S → List Slot) (I : S → Prop) (μ : S → Nat) (B : List Slot → Prop) (s0 : S) (i0 : I s0) (h0 : Le M (A s0)) (ts : S → Bool) (hc : ∀ s, I s → EvT X (A s) c (ts s))
    (hb : ∀ s, I s → ts s = true → Sd X (A s) body { nx := fun M' => ∃ s', I s' ∧ μ s' < μ s ∧ Le M' (A s'), ct := fun M' => ∃ s', I s' ∧ μ s' < μ s ∧ Le M' (A s'), bk := B, rt := P.rt }) (hd : ∀ s, I s → ts s = false → Sd X (A s) rest P) (hbk : ∀ M', B M' → Sd X M' rest P)
    (hp : PassesOwn (model X.prog X.w) X.A X.env X.xe := by exact PassesOwn.never) : Sd X M (.While c body [] pos :: rest) P := by
  refine sd_cons (R := fun M' => (∃ s, I s ∧ ts s = false ∧ M' = A s) ∨ B M') (fun G0 H0 G σ H E J F => ?_) fun M' h => by
    rcases h with ⟨s, i, t, rfl⟩ | h
    · exact hd s i t
    · exact hbk M' h
  refine wS_of (ps_while hp pT pSs) ⟨fun m σ' H' => ∃ s G', m = μ s ∧ I s ∧ Same G G' ∧ IM X.K G0 H0 (A s) G' σ' H', ⟨_, s0, G, rfl, i0, .refl _, h0.im J⟩, ?_⟩
  rintro m σ' H' ⟨s, G', rfl, i, s1, J'⟩
  refine hc s i G0 H0 G' σ' H' J' _ fun G2 H2 u2 => ?_
  cases ht : ts s with
  | false => rw [if_neg Bool.false_ne_true]; exact F.nx _ _ _ _ (.inl ⟨s, i, ht, rfl⟩) (s1.trans u2.g) (J'.ext u2)
  | true =>
    rw [if_pos rfl]
    refine ⟨fun σ'' H'' => ∃ s' G'', I s' ∧ μ s' < μ s ∧ Same G G'' ∧ IM X.K G0 H0 (A s') G'' σ'' H'', fun σ'' H'' ⟨s', G'', i', l, s2, J2⟩ => ⟨μ s', l, s', G'', rfl, i', s2, J2⟩, ?_⟩
    exact hb s i ht G0 H0 G2 σ' H2 _ (J'.ext u2) ⟨fun M G3 σ H ⟨s', i', l, le⟩ s3 J3 => ⟨s', G3, i', l, (s1.trans u2.g).trans s3, le.im J3⟩, F.rt, fun M G3 σ H b s3 J3 => F.nx _ _ _ _ (.inr b) ((s1.trans u2.g).trans s3) J3,
      fun M G3 σ H ⟨s', i', l, le⟩ s3 J3 => ⟨s', G3, i', l, (s1.trans u2.g).trans s3, le.im J3⟩, fun _ _ _ z => z.elim, trivial⟩
/-- s.f = y, the last row of an __init__ -/
theorem sd_fldLast (i j : Nat) {x : Addr} {s y f : Str} {p1 p2 p3 : Pos} (hM : M[i]? = some (.d (.raw (.ref x)))) (hy : M[j]? = some (.d d))
    (hx : ∀ G0 H0 G σ H v, P.bs G0 H0 → IM X.K G0 H0 M G σ H → Rp X.K G v d → ∃ C dx fs, H x = some (.ins C dx fs) ∧ Cls X.K C ∧ NoAttr X.K C f ∧ fs.length < 1000 ∧ P.rx G0 H0 G σ (upd H x (.ins C dx (putF f v fs))))
    (hN : X.N[i]? = some s := by rfl) (hv : Vis X.env.scope s := by first | exact Or.inl rfl | exact Or.inr (Or.inl rfl) | exact Or.inr (Or.inr rfl)) (hd : (s == ("__debug__" : Str)) = false := by decide) (hcd : (s == ("__classdict__" : Str)) = false := by decide)
    (hN' : X.N[j]? = some y := by rfl) (hv' : Vis X.env.scope y := by first | exact Or.inl rfl | exact Or.inr (Or.inl rfl) | exact Or.inr (Or.inr rfl)) (hd' : (y == ("__debug__" : Str)) = false := by decide) (hcd' : (y == ("__classdict__" : Str)) = false := by decide)
    (hs : swapsWith (.Name y p3) (some (.Attribute (.Name s p1) f p2)) pos.line X.env = pure false := by rfl) : Sd X M [.Assign [.Attribute (.Name s p1) f p2] (.Name y p3) pos] P := fun G0 H0 G σ H E I F => by
  obtain ⟨v, a, r⟩ := I.sd j d hy
  obtain ⟨w, b, r2⟩ := I.sd i _ hM
  cases r2
  obtain ⟨C, dx, fs, h1, h2, h3, h4, h5⟩ := hx G0 H0 G σ H v F.bs I r
  exact wSs_of (pss_one (ps_fld (pe_var hN hv hd hcd) (pe_var hN' hv' hd' hcd') hs)) ⟨v, a, _, b, x, C, dx, fs, rfl, h1, h2, h3, h4, F.rx _ _ _ h5⟩
end
end ML

set_option linter.all false
set_option maxRecDepth 100000
set_option maxHeartbeats 1000000
/-! M layer: defs and calls; enumerate(tuple), min and max of a pair, list(range). -/
namespace PySem
open PySem
set_option maxHeartbeats 1000000 in
theorem ml_meets_enumerate_new1 {v : Value} {o : Obj} {H : Heap → Prop} (B : Begins v o H) :
    Meets (Builtin.«enumerate.__new__» ⟨[.type "enumerate", v], []⟩) (fun _ R s => H s.heap ∧
      R (.ok (.ret (.ref (s.heap.push o).objs.size))) { s with heap := (s.heap.push o).push { cls := .type "enumerate", data := .fields #[.none, .bool false, .ref s.heap.objs.size, rawInt 0, .none, .none] } }) :=
  .of_wp fun prog w A R s h => by
    obtain ⟨hp, g, d, tk, os⟩ := s; obtain ⟨h1, h⟩ := h
    have hsub := sub_enumerate
    have q1 : ∀ {A' : Around} {E : Value → Shared → Prop} {Q : Value → Shared → Prop}, Q (.ref hp.objs.size) ⟨hp.push o, g, d, tk, os⟩ → wpAny (model prog w) A' (pyIter v) Q E ⟨hp, g, d, tk, os⟩ :=
      fun q => B.iter prog w _ _ ⟨hp, g, d, tk, os⟩ _ h1 q
    wp_walk using q1
    refine wpAny_stack_any fun st => wpAny_pure ?_
    split
    · rename_i c _ _ _ _ _
      cases (c == Value.type "enumerate")
      · wp_walk using q1
        exact ⟨_, rfl, h⟩
      · wp_walk using q1
        exact ⟨_, rfl, h⟩
    · wp_walk using q1
      exact ⟨_, rfl, h⟩
theorem ml_enum_begins {prog : Program} {w : World} {A : Around} {E : Value → Shared → Prop} {s : Shared} {v : Value} {o : Obj} {H : Heap → Prop} {Q : Value → Shared → Prop} (B : Begins v o H) (h1 : H s.heap)
    (h : ∀ h', IsEnum h' (s.heap.objs.size + 1) s.heap.objs.size 0 .none → h'.get? s.heap.objs.size = some o → h'.objs.size = s.heap.objs.size + 2 →
      (∀ b o, s.heap.get? b = some o → h'.get? b = some o) → Q (.ref (s.heap.objs.size + 1)) { s with heap := h' }) :
    wpAny (model prog w) A (call (.type "enumerate") [v]) Q E s := by
  refine callType_new F.called_enumerate (by decide) (F.typeCall_enumerate_1 _) (F.newCall_enumerate_1 _) (fun obj => F.args_object_init_2 obj _) F.entry_enumerate_new
    (ml_meets_enumerate_new1 B) ⟨h1, ?_⟩
  have hz : (s.heap.push o).objs.size = s.heap.objs.size + 1 := Heap.size_push ..
  show _ ∧ _
  rw [hz]
  have he : IsEnum ((s.heap.push o).push { cls := .type "enumerate", data := .fields #[.none, .bool false, .ref s.heap.objs.size, rawInt 0, .none, .none] }) (s.heap.objs.size + 1) s.heap.objs.size 0 .none := by
    have := Heap.get?_push_size (s.heap.push o) (o := { cls := .type "enumerate", data := .fields #[.none, .bool false, .ref s.heap.objs.size, rawInt 0, .none, .none] }) rfl
    rw [hz] at this; exact this
  refine ⟨⟨_, he, rfl⟩, h _ he (Heap.get?_push_of_some _ (Heap.get?_push_size _ B.free)) (by rw [Heap.size_push, hz]) fun b o x => Heap.get?_push_of_some _ (Heap.get?_push_of_some _ x)⟩
end PySem
namespace ML
open PySem L2 PyProof.Rows PySem.Spec PySem.SeqAt
/-! ### enumerate(tuple) -/
/-- the tuple at a, each item in a new pair -/
def IteT (K : PySem.W.Frag) (a : Addr) : It :=
  ⟨fun i H => ∃ (xs : List V) (x : V), SqT K H a xs ∧ xs[i]? = some x, fun i H v H' => ∃ T x, v = .ref T ∧ H T = none ∧ H' = upd H T (.tup [.int (i : Nat), x]) ∧ ∀ xs, SqT K H a xs → xs[i]? = some x, fun i H => ∃ xs : List V, SqT K H a xs ∧ i = xs.length⟩
theorem turn_enumT {P : Program} {w : World} {K : PySem.W.Frag} {elts : List Expr} {kk : Nat} {tpos : Pos} (a e it : Addr) (hai : a ≠ it) :
    Turn P w K (.Tuple elts kk tpos) (IteT K a) [e, it] e (fun i h => (∃ old, IsEnum h e it ((i : Nat) : Int) old) ∧ h.IsTupleIter it a i ∧ e ≠ it ∧ a ≠ e) where
  mem := by simp
  obj := fun i h st b hb => by
    obtain ⟨⟨old, he⟩, ⟨o, ho, hc, hd⟩, _⟩ := st
    have e' : b = e ∨ b = it := by simpa using hb
    rcases e' with z | z
    · rw [z]; exact ⟨_, he, fun v q => nomatch q⟩
    · rw [z]; exact ⟨o, ho, fun v q => by rw [hd] at q; cases q⟩
  keep := fun i h h' st k => let ⟨⟨old, he⟩, hi, hne⟩ := st; ⟨⟨old, k e (by simp) _ he⟩, hi.at fun o q => k it (by simp) o q, hne⟩
  item := by
    intro X hP hw hK hc i pins s σ H E I hf st hg
    subst hP hw hK
    obtain ⟨⟨old, he⟩, hit, hne, hae⟩ := st
    obtain ⟨xs, x, hq, hx⟩ := hg
    obtain ⟨its, rv, p, hz⟩ := I.tuple hq
    obtain ⟨u, hu, ru⟩ := rv.get hx
    have hel : e < s.heap.objs.size := Heap.lt_size he
    have hil : it < s.heap.objs.size := by obtain ⟨_, q, _⟩ := hit; exact Heap.lt_size q
    have hiu : i < its.toArray.size := by
      have := (List.getElem?_eq_some_iff.mp hu).1
      simpa using this
    have hia : X.A.in1.handled = none := I.ok.hd hc
    have D := Draws.tuple (prog := X.prog) (w := X.w) (A := X.A.in1) hia it a hai its.toArray
    have hef : e ∉ [it, a] := by simp only [List.mem_cons, List.mem_nil_iff, or_false, not_or]; exact ⟨hne, Ne.symm hae⟩
    refine wpAny_pyNext_enum_itemD D he ⟨hit, p⟩ hiu hne hef fun x' h' tk hx' ho hst hT hsz hk => ?_
    have exu : x' = u := by
      have h1 : its.toArray[i]? = some x' := hx'
      rw [List.getElem?_toArray, hu] at h1
      exact (Option.some.inj h1).symm
    subst exu
    refine ⟨_, rfl, wpAny_letOwnedTupleGo_enum (s := { s with heap := h', toks := tk + 1 }) ho fun h'' he' sb => ?_⟩
    have hT2 : h''.get? s.heap.objs.size = some { cls := .type "tuple", data := .seq #[.int i tk, x'] } := (sb.2 _ (Nat.ne_of_gt hel)).trans hT
    have new : ObjOk X.prog X.w (upd H s.heap.objs.size (.tup [.int (i : Nat), x])) h'' s.heap.objs.size (.tup [.int (i : Nat), x]) :=
      ⟨by show 2 ≤ sizeLine; decide, [.int i tk, x'], .cons ⟨_, rfl⟩ (.cons ru .nil), ⟨_, hT2, rfl, _, rfl⟩⟩
    have I1 : Inv X pins σ (upd H s.heap.objs.size (.tup [.int (i : Nat), x])) { s with heap := h'', toks := tk + 1 } :=
      I.turnedNew (ch := [e, it]) (fun b ob hb q => (sb.2 b (fun z => hb (by simp [z]))).trans (hk b ob (fun z => hb (by simp [z])) (fun z => hb (by simp [z])) q)) hf (Nat.le_refl _) new
    refine ⟨.ref s.heap.objs.size, _, I1, rfl, ⟨_, x, rfl, I.hok.fresh (Nat.le_refl _), rfl, fun ys hy => by rw [I.tuple_inj hy hq]; exact hx⟩, ⟨⟨x', ?_⟩, hst.1.at fun o q => (sb.2 it (Ne.symm hne)).trans q, hne, hae⟩, fun b hb => ?_⟩
    · have e1 : ((i + 1 : Nat) : Int) = (i : Int) + 1 := by omega
      rw [e1]; exact he'
    · have hb' : b < s.heap.objs.size := by
        have e' : b = e ∨ b = it := by simpa using hb
        rcases e' with z | z
        · rw [z]; exact hel
        · rw [z]; exact hil
      rw [upd_ne (Nat.ne_of_lt hb')]
      exact (hf b hb).1
  done := by
    intro X hP hw hK hc i pins s σ H E I hf st hg
    subst hP hw hK
    obtain ⟨⟨old, he⟩, hit, hne, hae⟩ := st
    obtain ⟨xs, hq, hx⟩ := hg
    obtain ⟨its, rv, p, hz⟩ := I.tuple hq
    obtain ⟨f0, f1, f2, f3, f4, f5⟩ := hf it (by simp)
    have hl := rv.length
    have hia : X.A.in1.handled = none := I.ok.hd hc
    have D := Draws.tuple (prog := X.prog) (w := X.w) (A := X.A.in1) hia it a hai its.toArray
    have en : i = its.toArray.size := by rw [List.size_toArray]; omega
    exact wpAny_pyNext_enum_endD D he ⟨en ▸ hit, p⟩ fun h' eb => ⟨rfl, I.turned (t' := s.toks) (fun b o hb q => eb b o hb q) f0 f1 f3 f4 f5⟩
  self := fun A i s Q E st h => let ⟨⟨_, he⟩, _⟩ := st; wpAny_pyIter_enum he h
def iEnumT (K : PySem.W.Frag) (ta : TA) : TI := fun σ H R => ta σ H fun vs H1 => ∃ a xs, vs = [.ref a] ∧ SqT K H1 a xs ∧ R (IteT K a) H1
theorem pi_enumT {X : Cx} {e : Expr} {ta : TA} {p pos tpos : Pos} {elts : List Expr} {kk : Nat} (hg : Gl X "enumerate") (hm : X.mg "enumerate" = none) (ha : PA X [e] ta) (hs : starEach [e] X.env = [(false, eval e X.env)] := by rfl) :
    PI X (.Tuple elts kk tpos) (.Call (.Name "enumerate" p) [e] [] pos) (iEnumT X.K ta) := by
  refine ⟨fun pins s σ H R I h => ?_⟩
  refine Call_ (ld_blt I hg hm boot_enumerate (PyProof.Rows.callWith_type1 (thn (ha.run pos pins s σ H _ I h) fun us s1 ⟨vs, H1, I1, r1, q1⟩ => ?_) hs rfl))
  obtain ⟨a, xs, ex, hq, q⟩ := q1
  subst ex
  cases r1 with
  | cons r rr =>
    cases rr
    cases r
    obtain ⟨its, rv, p', hz⟩ := I1.tuple hq
    refine ml_enum_begins (begins_tuple a its.toArray) p' fun h' he hit hsz hk => wpAny_pyIter_enum he ?_
    have hal : a < s1.heap.objs.size := by obtain ⟨o, ho, _⟩ := p'; exact Heap.lt_size ho
    have I2 : Inv X pins σ H1 { s1 with heap := h' } := I1.kept (t' := s1.toks) hk
    refine ⟨s1.heap.objs.size + 1, [s1.heap.objs.size + 1, s1.heap.objs.size], _, _, H1, rfl, I2, turn_enumT a (s1.heap.objs.size + 1) s1.heap.objs.size (Nat.ne_of_lt hal), ⟨⟨.none, he⟩, ⟨_, hit, rfl, rfl⟩, Nat.succ_ne_self _, Nat.ne_of_lt (Nat.lt_succ_of_lt hal)⟩, fun b hb => ?_, q⟩
    have e' : b = s1.heap.objs.size + 1 ∨ b = s1.heap.objs.size := by simpa using hb
    have hle : s1.heap.objs.size ≤ b := by
      rcases e' with z | z
      · rw [z]; exact Nat.le_add_right _ _
      · rw [z]; exact Nat.le_refl _
    exact I1.fpOk hle (I1.hok.fresh hle)
section
variable {X : Cx} {M : List Slot} {e a b c tg : Expr} {es : List Expr} {d d1 d2 d3 : D} {ds xs ys : List D} {pos p : Pos}
theorem src_enumT {elts : List Expr} {kk : Nat} {tpos : Pos} (h : EvD X M e (.tup ds)) (hm : X.mg "enumerate" = none) (hg : Gl X "enumerate" := by rfl) (hs : starEach [e] X.env = [(false, eval e X.env)] := by rfl) :
    SrcD X M (.Tuple elts kk tpos) (.Call (.Name "enumerate" p) [e] [] pos) (enumD ds) := fun G0 H0 G σ H I R q =>
  wI_of (pi_enumT hg hm pA hs) (wA_of (pa_cons pE pa_nil hs) (h G0 H0 G σ H I _ fun v G1 H1 u1 r => by
    cases r with
    | @tup a vs _ g r =>
      refine ⟨a, vs, rfl, SqT.of (u1.i _ _ g), q _ G1 H1 u1 ⟨fun i G2 H2 hi s1 s2 => ?_, fun G2 H2 s1 s2 => ⟨vs, SqT.of (s2 _ _ (s1 _ _ g)), by rw [r.len, enumD_len]⟩, fun i G2 H2 x H3 hi s1 s2 y => ?_⟩⟩
      · rw [enumD_len] at hi
        obtain ⟨v, h1, h2⟩ := r.get (i := i) (d := ds[i]) (by simp [hi])
        exact ⟨vs, v, SqT.of (s2 _ _ (s1 _ _ g)), h1⟩
      · obtain ⟨T, x', rfl, hT, rfl, y⟩ := y
        have hv := y vs (SqT.of (s2 _ _ (s1 _ _ g)))
        refine ⟨upd G2 T (.tup [.int (i : Nat), x']), Up.new s2 hT, fun d hd => ?_⟩
        obtain ⟨z, hz, rfl⟩ := enumD_get hd
        obtain ⟨v, h1, h2⟩ := r.get hz
        rw [hv] at h1
        cases h1
        exact .tup upd_same (.cons (.int _) (.cons (h2.mono (s1.trans (Same.new (Up.gn s2 hT)))) .nil))))
/-! ### min, max of a pair -/
theorem reads2 {s : Shared} {pins : List (Addr × Obj)} {σ : L2.St} {H : Hp} {a : Addr} {i j : Int} (I : Inv X pins σ H s) (g : SqT X.K H a [V.int i, V.int j]) : ∃ its : List Value, Vals [V.int i, V.int j] its ∧ IsTup s.heap a its.toArray ∧ ∃ as, ReadsAll s.heap its.toArray.toList [.int i, .int j] as := by
  obtain ⟨its, rv, p, hz⟩ := I.tuple g
  refine ⟨its, rv, p, ?_⟩
  obtain ⟨u1, u2, rfl, ⟨t1, rfl⟩, ⟨t2, rfl⟩⟩ := vals2 rv
  exact ⟨_, .cons (.int i t1) (.cons (.int j t2) .nil)⟩
theorem alike2 (i j : Int) : PySem.W.AlikeAll [.int i, .int j] := ⟨fun x hx y hy => by
    simp at hx hy
    rcases hx with rfl | rfl <;> rcases hy with rfl | rfl <;> rfl, fun x hx => by
    simp at hx
    rcases hx with rfl | rfl <;> (intro z; cases z)⟩
def r2 (K : PySem.W.Frag) (f : Int → Int → Int) : List V → Hp → VK → Prop := fun xs H Q => ∃ a i j, xs = [.ref a] ∧ SqT K H a [.int i, .int j] ∧ Q (.int (f i j)) H
theorem call_maxT (hc : X.calm = true) (hu : X.A.units + 64 < cLine) : CallR X (.builtin "max") (r2 X.K max) := by
  intro pins s σ H xs us Q I r h
  obtain ⟨a, i, j, rfl, g, q⟩ := h
  rw [Vals.ref1 r]
  obtain ⟨its, rv, p, as, rd⟩ := reads2 I g
  refine PySem.W.max_tuple_data (I.ok.hd hc) p rd (alike2 i j) (by simp [PyData.depthAll, PyData.depth]; omega) fun k v h' tk bs hv rv' hk => ?_
  have e : PySem.W.maxD (.int i) [.int j] = .int (max i j) := by have := PySem.W.maxD_ints i [j]; simpa using this
  rw [e] at rv'
  have : ∃ t, v = .int (max i j) t := by cases rv'; exact ⟨_, rfl⟩
  exact ⟨.int (max i j), H, I.kept hk, this, q⟩
theorem call_minT (hc : X.calm = true) (hu : X.A.units + 64 < cLine) : CallR X (.builtin "min") (r2 X.K min) := by
  intro pins s σ H xs us Q I r h
  obtain ⟨a, i, j, rfl, g, q⟩ := h
  rw [Vals.ref1 r]
  obtain ⟨its, rv, p, as, rd⟩ := reads2 I g
  refine PySem.W.min_tuple_data (I.ok.hd hc) p rd (alike2 i j) (by simp [PyData.depthAll, PyData.depth]; omega) fun k v h' tk bs hv rv' hk => ?_
  have e : PySem.W.minD (.int i) [.int j] = .int (min i j) := by have := PySem.W.minD_ints i [j]; simpa using this
  rw [e] at rv'
  have : ∃ t, v = .int (min i j) t := by cases rv'; exact ⟨_, rfl⟩
  exact ⟨.int (min i j), H, I.kept hk, this, q⟩
theorem c_maxT {i j : Int} (hc : X.calm = true) (hu : X.A.units + 64 < cLine) : CallD X (.builtin "max") [.tup [.int i, .int j]] (.int (max i j)) :=
  ⟨_, call_maxT hc hu, fun G H vs e rr Q q => by
    obtain ⟨v, rfl, r⟩ := rr.one
    cases r with
    | tup g r =>
      obtain ⟨v, w, rfl, r1, r2⟩ := r.two
      cases r1; cases r2
      exact ⟨_, i, j, rfl, SqT.of (e _ _ g), q _ G H (.refl e) (.int _)⟩⟩
theorem c_minT {i j : Int} (hc : X.calm = true) (hu : X.A.units + 64 < cLine) : CallD X (.builtin "min") [.tup [.int i, .int j]] (.int (min i j)) :=
  ⟨_, call_minT hc hu, fun G H vs e rr Q q => by
    obtain ⟨v, rfl, r⟩ := rr.one
    cases r with
    | tup g r =>
      obtain ⟨v, w, rfl, r1, r2⟩ := r.two
      cases r1; cases r2
      exact ⟨_, i, j, rfl, SqT.of (e _ _ g), q _ G H (.refl e) (.int _)⟩⟩
/-- list(range(n)) -/
theorem evo_listRg {n : Int} {p1 p2 pos2 : Pos} (ha : EvD X M a (.int n)) (hn : -100000 ≤ n ∧ n ≤ 100000) (hc : X.calm = true) (hm : X.mg "list" = none) (hm2 : X.mg "range" = none) (hg : Gl X "list" := by rfl) (hg2 : Gl X "range" := by rfl)
    (na : starEach [.Call (.Name "range" p2) [a] [] pos2] X.env = (false, eval (.Call (.Name "range" p2) [a] [] pos2) X.env) :: starEach [] X.env := by rfl) (na2 : starEach [a] X.env = (false, eval a X.env) :: starEach [] X.env := by rfl) :
    EvO X M (.Call (.Name "list" p1) [.Call (.Name "range" p2) [a] [] pos2] [] pos) ((List.range n.toNat).map fun (i : Nat) => D.int (i : Int)) := fun G0 H0 G σ H I Q q =>
  wE_of (pe_listRg hc hg hm (prg_1 hg2 hm2 pE na2) na) (ha G0 H0 G σ H I _ fun v G1 H1 u1 r => ⟨n, by cases r; rfl, ⟨by omega, by omega, by omega, by omega, by omega⟩, fun p hp => q p _ G1 _ (u1.trans (Up.newO u1.i hp)) (two u1 hp) (Up.gn u1.i hp) upd_same (by
    unfold rgV
    have e : ∀ ks : List Nat, RpAll X.K G1 (ks.map fun (i : Nat) => V.int (0 + (i : Int))) (ks.map fun (i : Nat) => D.int (i : Int)) := by
      intro ks
      induction ks with
      | nil => exact .nil
      | cons k ks ih => exact .cons (by show Rp X.K G1 (V.int (0 + (k : Int))) (D.int (k : Int)); rw [Int.zero_add]; exact .int _) ih
    have e2 : (n - 0).toNat = n.toNat := by rw [Int.sub_zero]
    rw [e2]
    exact e _)⟩)
end
/-! ### defs -/
/-- the promise of a def that changes nothing: from data to data -/
def PureSp (K : PySem.W.Frag) (spec : List D → D → Prop) : Sp := fun vs H Q _ => ∃ G ds d, Same G H ∧ RpAll K G vs ds ∧ spec ds d ∧ ∀ v G' H', Up G H G' H' → Rp K G' v d → Q v H'
abbrev CXf (P : Program) (w : World) (K : PySem.W.Frag) (mg : Str → Option Value) (base : Heap) (N : List Str) (qual : Str) (st : Stmt) (f : Addr) (cdv : Value) (A : Around) (outer : List Env) (s : Shared) (H : Hp) (E : XK) : Cx :=
  (cxOf CX0 P w K mg base N qual (defScope st) f cdv A outer s H E).nox
def startM (n : Nat) (ds : List D) : List Slot := ds.map Slot.d ++ List.replicate (n - ds.length) .no
section
variable {P : Program} {w : World} {K : PySem.W.Frag} {mg : Str → Option Value} {base : Heap}
theorem rp_get {G : Hp} : ∀ {vs : List V} {ds : List D} (n i : Nat) (d : D), RpAll K G vs ds → (startM n ds)[i]? = some (.d d) → ∃ v, (vs.map some ++ List.replicate (n - vs.length) none)[i]? = some (some v) ∧ Rp K G v d := by
  intro vs ds n i d r h
  unfold startM at h
  by_cases hi : i < ds.length
  · rw [List.getElem?_append_left (by simpa using hi), List.getElem?_map] at h
    cases hd : ds[i]? with
    | none => rw [hd] at h; cases h
    | some d' =>
      rw [hd] at h
      cases h
      obtain ⟨v, h1, h2⟩ := r.get hd
      refine ⟨v, ?_, h2⟩
      rw [List.getElem?_append_left (by rw [List.length_map, r.len]; exact hi), List.getElem?_map, h1]
      rfl
  · exfalso
    rw [List.getElem?_append_right (by simpa using hi)] at h
    have := List.mem_of_getElem? h
    have := List.eq_of_mem_replicate this
    cases this
theorem start_im {G H : Hp} {vs : List V} {ds : List D} {N : List Str} (e : Same G H) (r : RpAll K G vs ds) (hn : ds.length ≤ N.length) : IM K G H (startM N.length ds) G (L2.start N vs) H := by
  have hno : ∀ (i : Nat) (es : List D), (startM N.length ds)[i]? = some (.o es) → False := fun i es h => by
    have hm := List.mem_of_getElem? h
    unfold startM at hm
    rcases List.mem_append.mp hm with z | z
    · obtain ⟨_, _, q⟩ := List.mem_map.mp z; cases q
    · have := List.eq_of_mem_replicate z; cases this
  refine ⟨.refl e, ?_, fun i d h => rp_get N.length i d r h, fun i es h => (hno i es h).elim, fun i j es es' p h => (hno i es h).elim⟩
  unfold L2.start startM
  simp [r.len]
/-- THE RULE for a def that changes nothing -/
theorem fn_pure {x qual : Str} {st : Stmt} {f : Addr} {fd : FuncData} {N ps : List Str} {k : Nat} {spec : List D → D → Prop} (F : Fun K x qual st f fd) (S : FnScope N ps (defScope st)) (hlen : ∀ ds d, spec ds d → ds.length = ps.length) (hN : ps.length ≤ N.length)
    (h : ∀ (cdv : Value) (A : Around) (outer : List Env) (s : Shared) (H : Hp) (E : XK), Room k (CXf P w K mg base N qual st f cdv A outer s H E).A → ∀ ds d, spec ds d →
      Sd (CXf P w K mg base N qual st f cdv A outer s H E) (startM N.length ds) (defBody st) { nx := fun _ => d = .non, rt := fun d' => d' = d }) : FnOk P w K mg base CX0 (k + 1) f fd ps (PureSp K spec) := by
  refine F.ok S (fun vs H Q E hsp => ?_) fun cdv A outer s H vs Q E hr hsp => ?_
  · obtain ⟨G, ds, d, e, r, sp, _⟩ := hsp
    rw [r.len]; exact hlen _ _ sp
  · obtain ⟨G, ds, d, e, r, sp, q⟩ := hsp
    refine ⟨_, pSs, ?_⟩
    exact h cdv A outer s H E hr ds d sp G H G (L2.start N vs) H _ (start_im e r (by rw [hlen _ _ sp]; exact hN)) ⟨fun M G' σ H' hd _ I => by subst hd; exact q .non G' H' I.up .non, fun d' v G' H' hd u r => by subst hd; exact q v G' H' u r, fun _ _ _ _ z => z.elim, fun _ _ _ _ z => z.elim, fun _ _ _ z => z.elim, trivial⟩
end
/-- a def of the module keeps its promise -/
structure Kn (P : Program) (w : World) (K : PySem.W.Frag) (mg : Str → Option Value) (base : Heap) (k : Nat) (x : Str) (spec : List D → D → Prop) : Prop where
  ex : ∃ f fd ps, FnOk P w K mg base CX0 k f fd ps (PureSp K spec) ∧ mg x = some (.ref f) ∧ PySem.W.keepIn K (.ref f) = true ∧ Binds K fd ps []
section
variable {X : Cx} {M : List Slot} {e a b c tg : Expr} {es : List Expr} {d d1 d2 d3 : D} {ds xs ys : List D} {pos p : Pos}
theorem evd_fn {k : Nat} {x : Str} {spec : List D → D → Prop} (h : Kn X.prog X.w X.K X.mg X.base k x spec) (hr : Room k X.A) (ha : EvA X M (e :: es) ds) (hs : spec ds d) (hg : Gl X x := by rfl) (hdb : (x == ("__debug__" : Str)) = false := by decide)
    (he : starEach (e :: es) X.env = (false, eval e X.env) :: starEach es X.env := by rfl) (hpl : (backTo pos (starEach es X.env)).any (·.1) = false := by rfl) : EvD X M (.Call (.Name x p) (e :: es) [] pos) d := fun G0 H0 G σ H I Q q => by
  obtain ⟨f, fd, ps, F, hm, hk, hb⟩ := h.ex
  exact wE_of (pe_call F hr hg hm hk hb .nil pass0 pA hdb he hpl) (ha G0 H0 G σ H I _ fun vs G1 H1 u1 rs => ⟨G1, ds, d, u1.i, by rw [List.append_nil]; exact rs, hs, fun v G2 H2 u2 r => q v G2 H2 (u1.trans u2) r⟩)
theorem evd_fn0 {k : Nat} {x : Str} {spec : List D → D → Prop} (h : Kn X.prog X.w X.K X.mg X.base k x spec) (hr : Room k X.A) (hs : spec [] d) (hg : Gl X x := by rfl) (hdb : (x == ("__debug__" : Str)) = false := by decide) : EvD X M (.Call (.Name x p) [] [] pos) d := fun G0 H0 G σ H I Q q => by
  obtain ⟨f, fd, ps, F, hm, hk, hb⟩ := h.ex
  exact wE_of (pe_call0 F hr hg hm hk hb .nil pass0 hdb) ⟨G, [], d, I.gh, .nil, hs, fun v G2 H2 u2 r => q v G2 H2 u2 r⟩
end
end ML

set_option linter.all false
set_option maxRecDepth 100000
set_option maxHeartbeats 1000000
/-! M layer: instances made; a class with one field. -/
namespace ML
open PySem L2 PyProof.Rows
/-- what an __init__ promises that sets the field f of the new instance -/
def InitSp {α : Type} (K : PySem.W.Frag) (C : Addr) (fl : Str) (enc : α → List D) (pre : α → Prop) (r : α → D) : Sp := fun vs H Q _ => ∃ (x dx : Addr) (us : List V) (G : Hp) (a : α), vs = .ref x :: us ∧ H x = some (.ins C dx []) ∧ Same G H ∧ G x = none ∧ RpAll K G us (enc a) ∧ pre a ∧
  ∀ v G' H1, Up G H G' H1 → Rp K G' v (r a) → Q .non (upd H1 x (.ins C dx [(fl, v)]))
section
variable {P : Program} {w : World} {K : PySem.W.Frag} {mg : Str → Option Value} {base : Heap}
theorem fn_init {α : Type} {enc : α → List D} {pre : α → Prop} {r : α → D} {C : Addr} {fl qual : Str} {st : Stmt} {f : Addr} {fd : FuncData} {N ps : List Str} {k : Nat} (F : Fun K "__init__" qual st f fd) (S : FnScope N ps (defScope st)) (hlen : ∀ a, (enc a).length + 1 = ps.length) (hN : ps.length ≤ N.length)
    (h : ∀ (cdv : Value) (A : Around) (outer : List Env) (s : Shared) (H : Hp) (E : XK), Room k (CXf P w K mg base N qual st f cdv A outer s H E).A → ∀ (x dx : Addr) a, pre a →
      Sd (CXf P w K mg base N qual st f cdv A outer s H E) (startM N.length (.raw (.ref x) :: enc a)) (defBody st)
        { nx := fun _ => False, rt := fun _ => False, bs := fun G0 H0 => H0 x = some (.ins C dx []), rx := fun G0 H0 G σ H' => ∃ v H1, Up G0 H0 G H1 ∧ Rp K G v (r a) ∧ H' = upd H1 x (.ins C dx [(fl, v)]) }) : FnOk P w K mg base CX0 (k + 1) f fd ps (InitSp K C fl enc pre r) := by
  refine F.ok S (fun vs H Q E hsp => ?_) fun cdv A outer s H vs Q E hr hsp => ?_
  · obtain ⟨x, dx, us, G, a, rfl, _, _, _, rs, _⟩ := hsp
    rw [List.length_cons, rs.len]; exact hlen a
  · obtain ⟨x, dx, us, G, a, rfl, hx, e, gx, rs, hp, q⟩ := hsp
    refine ⟨_, pSs, ?_⟩
    have ll : (D.raw (.ref x) :: enc a).length ≤ N.length := by rw [List.length_cons, hlen a]; exact hN
    exact h cdv A outer s H E hr x dx a hp G H G (L2.start N (.ref x :: us)) H _ (start_im e (.cons (.raw _) rs) ll) ⟨fun _ _ _ _ z => z.elim, fun _ _ _ _ z => z.elim, fun _ _ _ _ z => z.elim, fun _ _ _ _ z => z.elim,
      fun G' σ H' rx => by
        obtain ⟨v, H1, u, r, rfl⟩ := rx
        exact q v G' H1 u r, hx⟩
end
section
variable {X : Cx} {M : List Slot} {e a b c tg : Expr} {es : List Expr} {d d1 d2 d3 : D} {ds xs ys : List D} {pos p : Pos}
/-- C(e, ..) of a class with one field -/
theorem evd_make {α : Type} {enc : α → List D} {pre : α → Prop} {r : α → D} {C f : Addr} {fl x : Str} {fd : FuncData} {ps : List Str} {k : Nat} (Mk0 : Mk X.K C f) (F : FnOk X.prog X.w X.K X.mg X.base CX0 k f fd ps (InitSp X.K C fl enc pre r)) (hr : Room (k + 1) X.A) (hm : X.mg x = some (.ref C)) (hb : Binds X.K fd ps [])
    (y : α) (ha : EvA X M (e :: es) (enc y)) (hp : pre y) (hg : Gl X x := by rfl) (hdb : (x == ("__debug__" : Str)) = false := by decide)
    (he : starEach (e :: es) X.env = (false, eval e X.env) :: starEach es X.env := by rfl) (hpl : (backTo pos (starEach es X.env)).any (·.1) = false := by rfl) : EvD X M (.Call (.Name x p) (e :: es) [] pos) (.ob C [fl] [r y]) := fun G0 H0 G σ H I Q q =>
  wE_of (pe_make Mk0 F hr hg hm hb .nil pass0 pA hdb he hpl) (ha G0 H0 G σ H I _ fun vs G1 H1 u1 rs => by
    intro o dx ho hdx hne
    rw [List.append_nil]
    have s1 : Same H1 (upd (upd H1 dx (.own o)) o (.ins C dx [])) := fun b z hz => by
      rw [upd_ne (ne_of_none hz ho), upd_ne (ne_of_none hz hdx)]; exact hz
    refine ⟨o, dx, vs, G1, y, rfl, upd_same, u1.i.trans s1, Up.gn u1.i ho, rs, hp, fun v G2 H2 u2 rv => ⟨rfl, ?_⟩⟩
    have g2o : G2 o = none := u2.f o _ upd_same (Up.gn u1.i ho)
    have s2 : Same G2 (upd G2 o (.ins C dx [(fl, v)])) := Same.new g2o
    refine q (.ref o) (upd G2 o (.ins C dx [(fl, v)])) _ (u1.trans ⟨u2.g.trans s2, fun b z hz => ?_, fun b z hz => ?_, fun b z hz n => ?_⟩) (.ob (by rfl) upd_same (.cons (rv.mono s2) .nil))
    · rw [upd_ne (ne_of_none hz ho)]
      exact u2.h _ _ (s1 _ _ hz)
    · by_cases w : b = o
      · subst w; rw [upd_same] at hz ⊢; exact hz
      · rw [upd_ne w] at hz ⊢; exact u2.i _ _ hz
    · rw [upd_ne (ne_of_none hz ho)]
      exact u2.f b z (s1 _ _ hz) n)
/-- a == b of two instances with the same fields, by their class's own __eq__ -/
theorem evd_eqOwn {C f : Addr} {ns : List Str} {fd : FuncData} {ps : List Str} {k : Nat} {spec : List D → D → Prop} (F : FnOk X.prog X.w X.K X.mg X.base CX0 k f fd ps (PureSp X.K spec)) (hsp : spec [.ob C ns ds, .ob C ns ds] (.bl true)) (hr : Room k X.A)
    (hs : PySem.W.findIn X.K (.ref C) "__eq__" = some (some (.ref f))) (hf : PySem.W.isFn X.K (.ref f) = true) (hb : Binds X.K fd ps []) (ha : EvD X M a (.ob C ns ds)) (hb' : EvD X M b (.ob C ns ds)) : EvD X M (.Compare a [.Eq] [b] pos) (.bl true) := by
  let R : Addr → Addr → Hp → Prop := fun p q H => ∃ G, Same G H ∧ Rp X.K G (.ref p) (.ob C ns ds) ∧ Rp X.K G (.ref q) (.ob C ns ds)
  have F' : FnOk X.prog X.w X.K X.mg X.base CX0 k f fd ps (spEq R) := F.imp fun vs H Q E ⟨p, q, e, ⟨G, s, r1, r2⟩, k⟩ => by
    subst e
    exact ⟨G, _, _, s, .cons r1 (.cons r2 .nil), hsp, fun v G' H' u r => by cases r; exact k H' u.h⟩
  refine evd_cmp ha hb' ⟨_, op_eqG (rcG_ins F' hs hf hb (pass0 (X := X))) hr, fun G H v1 v2 e r1 r2 Q q => ?_⟩
  cases r1 with
  | @ob a1 _ dx1 _ xs1 _ n1 g1 s1 =>
    cases r2 with
    | @ob a2 _ dx2 _ xs2 _ n2 g2 s2 =>
      exact ⟨⟨a1, a2, dx1, dx2, _, _, rfl, rfl, e _ _ g1, e _ _ g2, G, e, .ob n1 g1 s1, .ob n2 g2 s2⟩, fun H' x => q (.bl true) G H' ⟨.refl _, x, e.trans x, fun _ _ _ n => n⟩ (.bl _)⟩
end
end ML

set_option linter.all false
set_option maxRecDepth 100000
set_option maxHeartbeats 1000000
/-! M layer: an own error with two fields, raised and caught. -/
namespace ML
open PySem L2 PyProof.Rows
/-! ### from one state of the heap on -/
def XvD (X : Cx) (σ : L2.St) (Gs Hs : Hp) (e : Expr) (d : D) : Prop := ∀ G H, Up Gs Hs G H → ∀ Q : VK, (∀ v G' H', Up G H G' H' → Rp X.K G' v d → Q v H') → wE X e σ H Q
def XvT (X : Cx) (σ : L2.St) (Gs Hs : Hp) (e : Expr) (b : Bool) : Prop := ∀ G H, Up Gs Hs G H → ∀ Q : Bool → Hp → Prop, (∀ G' H', Up G H G' H' → Q b H') → wT X e σ H Q
def XvW (X : Cx) (σ : L2.St) (Gs Hs : Hp) (e : Expr) (b : Bool) : Prop := ∀ G H, Up Gs Hs G H → ∀ Q : Bool → Hp → Prop, (∀ G' H', Up G H G' H' → Q b H') → wW X e σ H Q
section
variable {X : Cx} {σ : L2.St} {Gs Hs : Hp} {e a b : Expr} {es : List Expr} {d d1 d2 : D} {pos p : Pos}
theorem xv_t {k : Bool} (h : XvD X σ Gs Hs e (.bl k)) (he : ∀ whole, isTrue e X.env whole = (do let v ← whole; standAt e.pos; holding [v] (truthy v)) := by intro _; rfl) : XvT X σ Gs Hs e k := fun G H u Q q =>
  wT_of (pt_val pE he) (h G H u _ fun v G1 H1 u1 r => ⟨k, by cases r; rfl, q G1 H1 u1⟩)
theorem xv_not {k : Bool} (h : XvT X σ Gs Hs a k) : XvT X σ Gs Hs (.UnaryOp .Not a pos) (!k) := fun G H u Q q => wT_of (pt_not pT) (h G H u _ fun G1 H1 u1 => q G1 H1 u1)
theorem xv_w {k : Bool} (h : XvW X σ Gs Hs e k) : XvT X σ Gs Hs e k := fun G H u Q q => wT_of (pW.pt) (h G H u Q q)
theorem xv_or1 {k : Bool} (h : XvT X σ Gs Hs a k) : XvW X σ Gs Hs (.BoolOp .Or [a] pos) k := fun G H u Q q => wW_of (pw_or1 pT) (h G H u Q q)
/-- the first is false -/
theorem xv_or {y : Bool} {rest : List Expr} (h1 : XvT X σ Gs Hs a false) (h2 : XvW X σ Gs Hs (.BoolOp .Or (b :: rest) pos) y) : XvW X σ Gs Hs (.BoolOp .Or (a :: b :: rest) pos) y := fun G H u Q q =>
  wW_of (pw_or pT pW) (h1 G H u _ fun G1 H1 u1 => by
    show (if false = true then _ else _)
    rw [if_neg Bool.false_ne_true]
    exact h2 G1 H1 (u.trans u1) Q fun G2 H2 u2 => q G2 H2 (u1.trans u2))
theorem xv_var (i : Nat) {x : Str} {v : V} (hs : σ[i]? = some (some v)) (hN : X.N[i]? = some x := by rfl) (hv : Vis X.env.scope x := by first | exact Or.inl rfl | exact Or.inr (Or.inl rfl) | exact Or.inr (Or.inr rfl)) (hd : (x == ("__debug__" : Str)) = false := by decide) (hcd : (x == ("__classdict__" : Str)) = false := by decide) : XvD X σ Gs Hs (.Name x p) (.raw v) := fun G H u Q q =>
  wE_of (pe_var hN hv hd hcd) ⟨v, hs, q v G H (.refl u.i) (.raw v)⟩
theorem xv_fn {k : Nat} {x : Str} {spec : List D → D → Prop} (h : Kn X.prog X.w X.K X.mg X.base k x spec) (hr : Room k X.A) (ha : XvD X σ Gs Hs e d1) (hs : spec [d1] d) (hg : Gl X x := by rfl) (hdb : (x == ("__debug__" : Str)) = false := by decide)
    (he : starEach [e] X.env = (false, eval e X.env) :: starEach [] X.env := by rfl) (hpl : (backTo pos (starEach [] X.env)).any (·.1) = false := by rfl) : XvD X σ Gs Hs (.Call (.Name x p) [e] [] pos) d := fun G H u Q q => by
  obtain ⟨f, fd, ps, F, hm, hk, hb⟩ := h.ex
  exact wE_of (pe_call F hr hg hm hk hb .nil pass0 (pa_cons pE pa_nil he) hdb he hpl) (ha G H u _ fun v G1 H1 u1 r => ⟨G1, [d1], d, u1.i, by rw [List.append_nil]; exact .cons r .nil, hs, fun v G2 H2 u2 r => q v G2 H2 (u1.trans u2) r⟩)
theorem xv_pair {k : Nat} (h1 : XvD X σ Gs Hs a d1) (h2 : XvD X σ Gs Hs b d2) (hs1 : starEach [a, b] X.env = (false, eval a X.env) :: starEach [b] X.env := by rfl) (hs2 : starEach [b] X.env = (false, eval b X.env) :: starEach [] X.env := by rfl) : XvD X σ Gs Hs (.Tuple [a, b] k pos) (.tup [d1, d2]) := fun G H u Q q =>
  wE_of (pe_tup (pa_cons pE (pa_cons pE pa_nil hs2) hs1)) (h1 G H u _ fun v1 G1 H1 u1 r1 => h2 G1 H1 (u.trans u1) _ fun v2 G2 H2 u2 r2 =>
    ⟨by show 2 ≤ sizeLine; decide, fun p hp => q (.ref p) (upd G2 p (.tup [v1, v2])) _ ((u1.trans u2).trans (Up.new u2.i hp)) (.tup upd_same (.cons ((r1.mono u2.g).mono (Same.new (Up.gn u2.i hp))) (.cons (r2.mono (Same.new (Up.gn u2.i hp))) .nil)))⟩)
end
/-- what the class of the error says -/
structure ErrT (K : PySem.W.Frag) (C : Addr) : Prop where
  ox : OexC K C
  xf : XfC K C
  cl : (PySem.W.clsIn K C).isSome = true
  ha : PySem.W.findIn K (.ref C) "__class__" = some (some (.builtin "object.__class__"))
  hn : PySem.W.specialIn K (.builtin "object.__class__") "__get__" = some (some (.builtin "getset_descriptor.__get__"))
  ht : PySem.W.takesIn K (.builtin "object.__class__") = some true
  hm : PySem.W.mroIn K C (.type "object") = some true
  te : PySem.W.exmOne K (.ref C) (.ref C) = some true
section
variable {X : Cx} {σ : L2.St} {Gs Hs : Hp} {e a b : Expr} {es : List Expr} {d d1 d2 : D} {pos p : Pos} {a0 C dd : Addr} {oe : Obj} {pn : List (Addr × Obj)} {fs : List (Str × V)}
/-- isinstance(e, c), e the exception that the suite holds, with fields of its own -/
def rIsF (K : PySem.W.Frag) (D a : Addr) (dd : Addr) : List V → Hp → VK → Prop := fun xs H Q => ∃ (c : V) (cv : Value) (b : Bool) (fs : List (Str × V)), xs = [.ref a, c] ∧ (∀ u, RelV c u → u = cv) ∧ H dd = some (.xd fs) ∧ PySem.W.kitOne K (.ref D) cv = some b ∧ Q (.bl b) H
theorem call_isF (T : ErrT X.K C) (hz : Zc (.ref C) (some dd) oe) (hf : ∃ vs, oe.data = .fields vs) : CallR (X.suite a0 ((a0, oe) :: pn)) (.builtin "isinstance") (rIsF X.K C a0 dd) := by
  intro pins s σ H xs us Q I r h
  obtain ⟨c, cv, b, fs, rfl, hcv, hdd, e, q⟩ := h
  cases r with
  | cons rx rr =>
    cases rr with
    | cons rt rr =>
      cases rr
      cases rx
      have ec := hcv _ rt
      subst ec
      obtain ⟨hget, _⟩ := I.pin (a0, oe) (List.mem_append.mpr (.inl List.mem_cons_self))
      obtain ⟨vs, hv⟩ := hf
      have hx : ObjOk X.prog X.w H s.heap dd (.xd fs) := I.hok dd _ hdd
      obtain ⟨mA, hns, hr⟩ := hx
      obtain ⟨od, ho, hl⟩ := lookIn_ns hns
      have J : PySem.W.InstAt s.heap a0 oe C (some od) := ⟨hget, hz.1, by unfold PySem.W.notCls; rw [hv] <;> rfl, by rw [hz.2]; exact ho⟩
      exact PySem.W.kia_one (PySem.W.kitx_exc T.cl T.xf.ga T.xf.gg T.xf.exC T.ha T.hn T.ht T.hm) I.kIn J e (fun z => nomatch z) fun tk => ⟨.bl b, H, I.kept (t' := tk) fun _ _ z => z, rfl, q⟩
/-- isinstance(e, S), S an own class -/
theorem xv_isC {T : ErrT X.K C} {S : Str} {CS : Addr} {k : Bool} {p1 p2 : Pos} (hz : Zc (.ref C) (some dd) oe) (hf : ∃ vs, oe.data = .fields vs) (hdd : Gs dd = some (.xd fs)) (ha : XvD (X.suite a0 ((a0, oe) :: pn)) σ Gs Hs a (.raw (.ref a0))) (hk : PySem.W.kitOne X.K (.ref C) (.ref CS) = some k) (hm : X.mg "isinstance" = none) (hT : X.mg S = some (.ref CS))
    (hg : Gl (X.suite a0 ((a0, oe) :: pn)) "isinstance" := by rfl) (hgT : Gl (X.suite a0 ((a0, oe) :: pn)) S := by rfl) (hdb : (S == ("__debug__" : Str)) = false := by decide)
    (he : starEach [a, .Name S p2] (X.suite a0 ((a0, oe) :: pn)).env = (false, eval a (X.suite a0 ((a0, oe) :: pn)).env) :: starEach [.Name S p2] (X.suite a0 ((a0, oe) :: pn)).env := by rfl) (he2 : starEach [.Name S p2] (X.suite a0 ((a0, oe) :: pn)).env = (false, eval (.Name S p2) (X.suite a0 ((a0, oe) :: pn)).env) :: starEach [] (X.suite a0 ((a0, oe) :: pn)).env := by rfl)
    (hpl : (backTo pos (starEach [.Name S p2] (X.suite a0 ((a0, oe) :: pn)).env)).any (·.1) = false := by rfl) : XvD (X.suite a0 ((a0, oe) :: pn)) σ Gs Hs (.Call (.Name "isinstance" p1) [a, .Name S p2] [] pos) (.bl k) := fun G H u Q q =>
  wE_of (pe_callB (call_isF T hz hf) hg hm (by decide +kernel) (pa_cons pE (pa_cons (pe_glob (v := .ref CS) hgT hT rfl hdb) pa_nil he2) he) (by decide) (by decide) he hpl)
    (ha G H u _ fun v G1 H1 u1 r => by
      cases r
      exact ⟨.ref CS, .ref CS, k, fs, rfl, fun w hw => hw, (u.trans u1).i _ _ ((u.trans u1).g _ _ hdd), hk, q _ G1 H1 u1 (.bl _)⟩)
/-- isinstance(e, S), S a built-in type -/
theorem xv_isT {T : ErrT X.K C} {S : Str} {Sn : String} {k : Bool} {p1 p2 : Pos} (hz : Zc (.ref C) (some dd) oe) (hf : ∃ vs, oe.data = .fields vs) (hdd : Gs dd = some (.xd fs)) (ha : XvD (X.suite a0 ((a0, oe) :: pn)) σ Gs Hs a (.raw (.ref a0))) (hk : PySem.W.kitOne X.K (.ref C) (.type Sn) = some k) (hm : X.mg "isinstance" = none) (hT : X.mg S = none) (hv : bootBuiltins S = some (.type Sn))
    (hg : Gl (X.suite a0 ((a0, oe) :: pn)) "isinstance" := by rfl) (hgT : Gl (X.suite a0 ((a0, oe) :: pn)) S := by rfl) (hn : S ≠ "__name__" := by decide) (hdb : (S == ("__debug__" : Str)) = false := by decide)
    (he : starEach [a, .Name S p2] (X.suite a0 ((a0, oe) :: pn)).env = (false, eval a (X.suite a0 ((a0, oe) :: pn)).env) :: starEach [.Name S p2] (X.suite a0 ((a0, oe) :: pn)).env := by rfl) (he2 : starEach [.Name S p2] (X.suite a0 ((a0, oe) :: pn)).env = (false, eval (.Name S p2) (X.suite a0 ((a0, oe) :: pn)).env) :: starEach [] (X.suite a0 ((a0, oe) :: pn)).env := by rfl)
    (hpl : (backTo pos (starEach [.Name S p2] (X.suite a0 ((a0, oe) :: pn)).env)).any (·.1) = false := by rfl) : XvD (X.suite a0 ((a0, oe) :: pn)) σ Gs Hs (.Call (.Name "isinstance" p1) [a, .Name S p2] [] pos) (.bl k) := fun G H u Q q =>
  wE_of (pe_callB (call_isF T hz hf) hg hm (by decide +kernel) (pa_cons pE (pa_cons (pe_bltn (v := .ty Sn) hgT hT hv rfl hn hdb) pa_nil he2) he) (by decide) (by decide) he hpl)
    (ha G H u _ fun v G1 H1 u1 r => by
      cases r
      exact ⟨.ty Sn, .type Sn, k, fs, rfl, fun w hw => hw, (u.trans u1).i _ _ ((u.trans u1).g _ _ hdd), hk, q _ G1 H1 u1 (.bl _)⟩)
/-- e.f, e the exception that the suite holds -/
theorem xv_fld {T : ErrT X.K C} {n : Str} {i : Int} (hno : PySem.W.findIn X.K (.ref C) n = some none) (hz : Zc (.ref C) (some dd) oe) (hf : ∃ vs, oe.data = .fields vs) (hdd : Gs dd = some (.xd fs)) (hl : fs.lookup n = some (.int i)) (ha : XvD (X.suite a0 ((a0, oe) :: pn)) σ Gs Hs e (.raw (.ref a0)))
    (hb : attributeBase e n (X.suite a0 ((a0, oe) :: pn)).env (eval e (X.suite a0 ((a0, oe) :: pn)).env) = eval e (X.suite a0 ((a0, oe) :: pn)).env := by rfl) : XvD (X.suite a0 ((a0, oe) :: pn)) σ Gs Hs (.Attribute e n pos) (.int i) := fun G H u Q q =>
  wE_of (pe_xf T.xf hno hz hf pE hb) (ha G H u _ fun v G1 H1 u1 r => by
    cases r
    exact ⟨rfl, rfl, dd, fs, .int i, rfl, (u.trans u1).i _ _ ((u.trans u1).g _ _ hdd), hl, q _ G1 H1 u1 (.int _)⟩)
end
/-! ### the error made and raised -/
/-- __init__ of an error with two fields -/
def Ini2Sp (C : Addr) (f1 f2 : Str) : Sp := fun vs H Q _ => ∃ (a : Addr) (y1 y2 : V), vs = [.ref a, y1, y2] ∧ H a = some (exo a C none) ∧ ∀ dx, H dx = none → dx ≠ a → Q .non (upd (upd (upd H dx (exd dx [(f1, y1)])) a (exo a C (some dx))) dx (exd dx [(f2, y2), (f1, y1)]))
/-- C(e, ..): an error whose context is None -/
theorem pmkN_oex {X : Cx} {CX : CXT} {x : Str} {e : Expr} {es : List Expr} {ta : TA} {p pos : Pos} {C fI : Addr} {k : Nat} {fd : FuncData} {ps : List Str} {sp : Sp} (T : OexC X.K C) (iC : PySem.W.findIn X.K (.ref C) "__init__" = some (some (.ref fI))) (tI : PySem.W.typeIn X.K (.ref fI) = some (.type "function"))
    (F1 : FnOk X.prog X.w X.K X.mg X.base CX k fI fd ps sp) (hr : Room (k + 1) X.A) (hb : Binds X.K fd ps []) (hx : Passes CX X (fun _ _ _ => False)) (hg : Gl X x) (hm : X.mg x = some (.ref C)) (ha : PA X (e :: es) ta)
    (hdb : (x == ("__debug__" : Str)) = false := by decide) (he : starEach (e :: es) X.env = (false, eval e X.env) :: starEach es X.env := by rfl) (hpl : (backTo pos (starEach es X.env)).any (·.1) = false := by rfl) :
    L2N.PMk X (.Call (.Name x p) (e :: es) [] pos) (tMkO C sp [] ta) := by
  intro pins s σ H Q I h
  obtain ⟨nm, q, N, bs, bm, sn, sub, ab, col, dd, k0, k1, k2, k3, k5, hC, hbm⟩ := T.cls
  refine wpAny_Call_Name_kw (ld_glob I hg hm ?_ hdb)
  refine PySem.W.callWith_K (h₀ := X.base) I.ok.mod.kin T.kC (thn (ha.run pos pins s σ H _ I h) fun us s1 ⟨vs, H1, I1, r1, hz, q1⟩ => ⟨I1.kIn, ?_⟩) he hpl
  show wpAny _ _ (call (.ref C) us) _ _ _
  obtain ⟨hp, g, dr, tk, os⟩ := s1
  have old : ∀ b o, hp.get? b = some o → ((hp.push (PySem.W.kdv_tup us)).push (PySem.HandSPX.excO C hp.objs.size)).get? b = some o := fun b o w => Heap.get?_push_of_some _ (Heap.get?_push_of_some _ w)
  have top : ((hp.push (PySem.W.kdv_tup us)).push (PySem.HandSPX.excO C hp.objs.size)).get? (hp.objs.size + 1) = some (PySem.HandSPX.excO C hp.objs.size) := by heap_get
  have hq := q1 (hp.objs.size + 1) (I1.hok.fresh (Nat.le_succ _))
  rw [List.append_nil] at hq
  have J : Inv X pins σ (upd H1 (hp.objs.size + 1) (exo (hp.objs.size + 1) C none)) ⟨(hp.push (PySem.W.kdv_tup us)).push (PySem.HandSPX.excO C hp.objs.size), g, dr, tk, os⟩ :=
    I1.laid (t' := tk) (a := hp.objs.size + 1) (o := exo (hp.objs.size + 1) C none) old (Nat.le_succ _) (exo_ok top)
  have rr : Vals (V.ref (hp.objs.size + 1) :: vs) (Value.ref (hp.objs.size + 1) :: us) := .cons rfl r1
  have hl : (Value.ref (hp.objs.size + 1) :: us ++ []).length = ps.length := by
    have w := rr.length
    rw [F1.len _ _ _ _ hq] at w
    rw [List.append_nil]
    exact w.symm
  have hus : us.length ≤ sizeLine := by
    rw [← Paired.length r1, sizeLine_eq]
    omega
  have b2 := hb _ (Value.ref (hp.objs.size + 1) :: us) J.kIn hl
  rw [List.append_nil] at b2
  refine wpAny_call (PySem.HandSPX.call_own F.excBase_ValueError (fun Y => PySem.HandSPX.refsVE_contains Y bm hbm) (I1.kIn _ _ hC) (PySem.W.looks_findIn I1.kIn iC) (fun self => PySem.W.bind_fn I1.kIn self tI) hus
    (codeAny_mono (F1.run _ X.stack _ _ ⟨Value.ref (hp.objs.size + 1) :: us, []⟩ (Value.ref (hp.objs.size + 1) :: us) _ _ (fun _ _ _ => False) (hr.make C us []) (J.env0.make C us []) b2 rr hq) fun r s' w => ?_))
  cases r with
  | error er => exact hx pins σ _ _ er s' J w
  | ok fl =>
    cases fl with
    | ret u =>
      obtain ⟨v, H2, os2, bare2, un2, hok2, rv, ev, d, fs, ea, ed, hd1, q2⟩ := w
      subst ev
      obtain ⟨h2, g2, d2, t2, os'⟩ := s'
      obtain ⟨t0, G, J2, kG, ge, hoe, na⟩ := mk_end0 (d2 := d2) (t2 := t2) I1 (Nat.le_succ _) old un2 hok2 os2 bare2 ea ed hd1
      exact ⟨rv, hp.objs.size + 1, _, _, ⟨G, g2, d2, t2, os'⟩, _, .ref C, some d, rfl, J2, kG, ge, hoe, ⟨rfl, rfl, fun vs hv => by cases hv; rfl⟩, rfl, rfl, na, rfl, bare2, raises_own T.exC T.tyC, q2⟩
    | next => exact False.elim w
    | brk => exact False.elim w
    | cont => exact False.elim w
section
variable {X : Cx} {M : List Slot} {e1 e2 : Expr} {d1 d2 : D} {pos pos2 p : Pos} {C f : Addr} {f1 f2 : Str} {fd : FuncData} {ps : List Str} {k : Nat} {W : WX} {P : Post} {rest : List Stmt} {x : Str}
theorem sd_raise2 (hc : X.calm = true) (tk : L2N.Takes X W) (T : OexC X.K C) (iC : PySem.W.findIn X.K (.ref C) "__init__" = some (some (.ref f))) (tI : PySem.W.typeIn X.K (.ref f) = some (.type "function")) (F1 : FnOk X.prog X.w X.K X.mg X.base CX0 k f fd ps (Ini2Sp C f1 f2)) (hr : Room (k + 1) X.A) (hb : Binds X.K fd ps []) (hm : X.mg x = some (.ref C))
    (ha : EvA X M [e1, e2] [d1, d2])
    (h : ∀ G0 H0 G1 H1 σ dx y1 y2 H', P.bs G0 H0 → Up G0 H0 G1 H1 → Rp X.K G1 y1 d1 → Rp X.K G1 y2 d2 → H1 dx = none → (∀ b, b ≠ dx → H' b = H1 b) → H' dx = some (.xd [(f2, y2), (f1, y1)]) → W (.ref C) (some dx) σ H')
    (hg : Gl X x := by rfl) (hdb : (x == ("__debug__" : Str)) = false := by decide) (he : starEach [e1, e2] X.env = (false, eval e1 X.env) :: starEach [e2] X.env := by rfl) (hpl : (backTo pos (starEach [e2] X.env)).any (·.1) = false := by rfl) :
    Sd X M (.Raise (some (.Call (.Name x p) [e1, e2] [] pos)) none pos2 :: rest) P := fun G0 H0 G σ H E I F =>
  wSs_of (pss_cons (L2N.ps_raise hc tk (pmkN_oex T iC tI F1 hr hb pass0 hg hm pA hdb he hpl)) pSs) (ha G0 H0 G σ H I _ fun vs G1 H1 u1 rs => by
    obtain ⟨y1, y2, rfl, r1, r2⟩ := rs.two
    refine ⟨by show 2 ≤ 1000; decide, fun a han => ⟨a, y1, y2, rfl, upd_same, fun dx hdn hne => ⟨rfl, dx, [(f2, y2), (f1, y1)], ?_, upd_same, ?_, ?_⟩⟩⟩
    · rw [upd_ne (Ne.symm hne), upd_same]
    · rw [upd_ne hne] at hdn; exact hdn
    · have hd1 : H1 dx = none := by rw [upd_ne hne] at hdn; exact hdn
      refine h G0 H0 G1 H1 σ dx y1 y2 _ F.bs (I.up.trans u1) r1 r2 hd1 (fun b hb => ?_) upd_same
      rw [upd_ne hb]
      by_cases hba : b = a
      · rw [hba, del_same, han]
      · rw [del_ne hba, upd_ne hb, upd_ne hba, upd_ne hb, upd_ne hba])
/-- if c: .., c true, out of the body only by return or raise -/
theorem sd_ifB {c : Expr} {body orelse : List Stmt} (hc : EvT X M c true) (h1 : Sd X M body { nx := fun _ => False, rt := P.rt, bs := P.bs }) : Sd X M (.If c body orelse pos :: rest) P := fun G0 H0 G σ H E I F =>
  wSs_of (pss_cons (ps_if pT pSs pSs) pSs) (hc G0 H0 G σ H I _ fun G1 H1 u => by
    show (if true = true then _ else _)
    rw [if_pos rfl]
    exact h1 G0 H0 G1 σ H1 _ (I.ext u) ⟨fun _ _ _ _ z => z.elim, F.rt, fun _ _ _ _ z => z.elim, fun _ _ _ _ z => z.elim, fun _ _ _ z => z.elim, F.bs⟩)
end
/-! ### a def called where an error is handled -/
section
variable {P : Program} {w : World} {K : PySem.W.Frag} {mg : Str → Option Value} {base : Heap}
/-- a def that may raise where nothing is handled -/
theorem okXN {x qual : Str} {st : Stmt} {f : Addr} {fd : FuncData} {N ps : List Str} {k : Nat} {sp : Sp} (F : Fun K x qual st f fd) (S : FnScope N ps (defScope st)) (len : ∀ vs H Q E, sp vs H Q E → vs.length = ps.length)
    (hbody : ∀ (cdv : Value) (A : Around) (outer : List Env) (s : Shared) (H : Hp) (vs : List V) (Q : VK) (E : XK), Room k (A.deeper (envOfC qual (defScope st) s.heap.objs.size f cdv)) → sp vs H Q E →
      ∃ t, PSs (cxOf (L2N.CX P w) P w K mg base N qual (defScope st) f cdv A outer s H E) (defBody st) t ∧ t { nx := fun _ H' => Q .non H', rt := Q } (L2.start N vs) H) : FnOk P w K mg base (L2N.CX P w) (k + 1) f fd ps sp := by
  obtain ⟨oc, od, kV, doc, pm, an, cdv, ct, osl, rfl, lk, hcd⟩ := F.ex
  exact fn_of lk hcd S len fun A outer s H vs Q E hr hsp => hbody cdv A outer s H vs Q E hr hsp
theorem fnH_pure {x qual : Str} {st : Stmt} {f : Addr} {fd : FuncData} {N ps : List Str} {k : Nat} {spec : List D → D → Prop} (F : Fun K x qual st f fd) (S : FnScope N ps (defScope st)) (hlen : ∀ ds d, spec ds d → ds.length = ps.length) (hN : ps.length ≤ N.length)
    (h : ∀ (cdv : Value) (A : Around) (outer : List Env) (s : Shared) (H : Hp) (E : XK) (p : Addr × Obj), ∀ ds d, spec ds d →
      Sd (L2H.cxH CX0 P w K mg base N qual (defScope st) f cdv A outer s H E p) (startM N.length ds) (defBody st) { nx := fun _ => d = .non, rt := fun d' => d' = d }) : L2H.FnH P w K mg base CX0 (k + 1) f fd ps (PureSp K spec) := by
  obtain ⟨oc, od, kV, doc, pm, an, cdv, ct, osl, rfl, lk, hcd⟩ := F.ex
  refine L2H.fn_ofH lk hcd S (fun vs H Q E hsp => ?_) fun A outer s H vs Q E p hot hr hsp => ⟨_, pSs, ?_⟩
  · obtain ⟨G, ds, d, e, r, sp, _⟩ := hsp
    rw [r.len]; exact hlen _ _ sp
  · obtain ⟨G, ds, d, e, r, sp, q⟩ := hsp
    exact h cdv A outer s H E p ds d sp G H G (L2.start N vs) H _ (start_im e r (by rw [hlen _ _ sp]; exact hN)) ⟨fun M G' σ H' hd _ I => by subst hd; exact q .non G' H' I.up .non, fun d' v G' H' hd u r => by subst hd; exact q v G' H' u r, fun _ _ _ _ z => z.elim, fun _ _ _ _ z => z.elim, fun _ _ _ z => z.elim, trivial⟩
end
theorem xv_fnH {X : Cx} {σ : L2.St} {Gs Hs : Hp} {e : Expr} {d1 d : D} {pos p : Pos} {k : Nat} {x : Str} {f : Addr} {fd : FuncData} {ps : List Str} {spec : List D → D → Prop} (F : L2H.FnH X.prog X.w X.K X.mg X.base CX0 k f fd ps (PureSp X.K spec)) (hr : L2H.RoomH k X.A) (hc : L2H.HotC X) (hm : X.mg x = some (.ref f)) (hk : PySem.W.keepIn X.K (.ref f) = true) (hb : Binds X.K fd ps [])
    (ha : XvD X σ Gs Hs e d1) (hs : spec [d1] d) (hg : Gl X x := by rfl) (hdb : (x == ("__debug__" : Str)) = false := by decide)
    (he : starEach [e] X.env = (false, eval e X.env) :: starEach [] X.env := by rfl) (hpl : (backTo pos (starEach [] X.env)).any (·.1) = false := by rfl) : XvD X σ Gs Hs (.Call (.Name x p) [e] [] pos) d := fun G H u Q q =>
  wE_of (L2H.pe_callH (E := fun _ _ _ _ => False) F hr hc hg hm hk hb (fun _ _ _ _ _ _ _ h => h.elim) (pa_cons pE pa_nil he) hdb he hpl) (ha G H u _ fun v G1 H1 u1 r => ⟨G1, [d1], d, u1.i, .cons r .nil, hs, fun v G2 H2 u2 r => q v G2 H2 (u1.trans u2) r⟩)
end ML

set_option linter.all false
/-! k86: what the defs compute, in plain Lean. -/
namespace K86
structure Piece where
  size : Nat
  roads : List (Nat × Nat)
  gates : List (Nat × Nat)
instance : Inhabited Piece := ⟨⟨0, [], []⟩⟩
/-! the program -/
def mergeN (g : List Nat) (a b : Nat) : List Nat := g.map fun q => if q = max (g.getD a 0) (g.getD b 0) then min (g.getD a 0) (g.getD b 0) else q
def jrStep (s : List Nat × List Nat) (r : (Nat × Nat) × Nat) : List Nat × List Nat := if s.1.getD r.1.1 0 ≠ s.1.getD r.1.2 0 then (mergeN s.1 r.1.1 r.1.2, s.2 ++ [r.2]) else s
def jrS (size : Nat) (roads : List (Nat × Nat)) : List Nat × List Nat := roads.zipIdx.foldl jrStep (List.range size, [])
def jr (size : Nat) (roads : List (Nat × Nat)) : List Nat := (jrS size roads).2
/-- roads within the places -/
def RIn (size : Nat) (roads : List (Nat × Nat)) : Prop := ∀ r ∈ roads, r.1 < size ∧ r.2 < size
structure Piece.Ok (p : Piece) (many : Nat) : Prop where
  pos : 0 < p.size
  sz : p.size ≤ 12
  rl : p.roads.length ≤ 20
  gl : p.gates.length ≤ 8
  roads : RIn p.size p.roads
  gates : ∀ g ∈ p.gates, g.1 < p.size ∧ g.2 < many
  conn : (jr p.size p.roads).length = p.size - 1
structure Ok (ps : List Piece) : Prop where
  len : ps.length ≤ 20
  ok : ∀ p ∈ ps, p.Ok ps.length
/-- breadth first: ahead, reached, index -/
structure Bf where
  ahead : List (Option Nat)
  reached : List Nat
  index : Nat
def bfE (here : Nat) (s : List (Option Nat) × List Nat) (r : Nat × Nat) : List (Option Nat) × List Nat :=
  let s1 := if r.1 = here ∧ s.1.getD r.2 none = none then (s.1.set r.2 (some here), s.2 ++ [r.2]) else s
  if r.2 = here ∧ s1.1.getD r.1 none = none then (s1.1.set r.1 (some here), s1.2 ++ [r.1]) else s1
def bfStep (tree : List (Nat × Nat)) (s : Bf) : Bf :=
  let t := tree.foldl (bfE (s.reached.getD s.index 0)) (s.ahead, s.reached)
  ⟨t.1, t.2, s.index + 1⟩
def bfRun (tree : List (Nat × Nat)) : Nat → Bf → Bf
  | 0, s => s
  | n + 1, s => if s.index < s.reached.length then bfRun tree n (bfStep tree s) else s
def bf0 (size goal : Nat) : Bf := ⟨(List.replicate size none).set goal (some goal), [goal], 0⟩
def nextP (size : Nat) (tree : List (Nat × Nat)) (goal : Nat) : List (Option Nat) := (bfRun tree size (bf0 size goal)).ahead
/-- the way from place to first along ahead, without first -/
def follow (ahead : List (Option Nat)) (first : Nat) : Nat → Nat → List Nat
  | 0, _ => []
  | n + 1, place => if place = first then [] else place :: follow ahead first n ((ahead.getD place none).getD 0)
def cway (size : Nat) (tree : List (Nat × Nat)) (road : Nat × Nat) : List Nat := road.1 :: follow (nextP size tree road.1) road.1 size road.2
def treeOf (roads : List (Nat × Nat)) (taken : List Nat) : List (Nat × Nat) := taken.map fun i => roads.getD i (0, 0)
def cways (p : Piece) : List (List Nat) := (p.roads.zipIdx.filter fun r => decide (r.2 ∉ jr p.size p.roads)).map fun r => cway p.size (treeOf p.roads (jr p.size p.roads)) r.1
def nmF (a b p : Nat) : Nat := if p = max a b then min a b else if p > max a b then p - 1 else p
/-- the piece in which the road is a point -/
def sq (p : Piece) (road : Nat) : Piece :=
  let r := p.roads.getD road (0, 0)
  ⟨p.size - 1, (p.roads.take road ++ p.roads.drop (road + 1)).map fun q => (nmF r.1 r.2 q.1, nmF r.1 r.2 q.2), p.gates.map fun g => (nmF r.1 r.2 g.1, g.2)⟩
def small (p : Piece) : Piece := ⟨1, List.replicate (p.roads.length - (p.size - 1)) (0, 0), p.gates.map fun g => (0, g.2)⟩
def kindsOf (p : Piece) : List Int := p.gates.map (fun g => (g.2 : Int)) ++ List.replicate (p.roads.length - (p.size - 1)) (-2)
/-! the law's own -/
def grStep (roads : List (Nat × Nat)) (s : List Nat × List Nat) (i : Nat) : List Nat × List Nat :=
  let one := s.1.getD (roads.getD i (0, 0)).1 0
  let two := s.1.getD (roads.getD i (0, 0)).2 0
  if one ≠ two then (s.1.map fun q => if q = two then one else q, s.2 ++ [i]) else s
def gr (size : Nat) (roads : List (Nat × Nat)) : List Nat := ((List.range roads.length).foldl (grStep roads) (List.range size, [])).2
def nms (size : Nat) (r : Nat × Nat) : List Nat := (List.range size).map (nmF r.1 r.2)
def waStep (names : List Nat) (told : List Nat) (place : Nat) : List Nat := if told.getLast? = some (names.getD place 0) then told else told ++ [names.getD place 0]
def wayAfter (way names : List Nat) : List Nat :=
  let t := way.foldl (waStep names) []
  if 1 < t.length ∧ t.head? = t.getLast? then t.dropLast else t
/-- before, seen -/
def wbE (here : Nat) (s : List (Option Nat) × List Nat) (r : Nat × Nat) : List (Option Nat) × List Nat :=
  let s1 := if r.1 = here ∧ r.2 ∉ s.2 then (s.1.set r.2 (some here), s.2 ++ [r.2]) else s
  if r.2 = here ∧ r.1 ∉ s1.2 then (s1.1.set r.1 (some here), s1.2 ++ [r.1]) else s1
def wbRun (tree : List (Nat × Nat)) : Nat → Nat → List (Option Nat) × List Nat → List (Option Nat) × List Nat
  | 0, _, s => s
  | n + 1, i, s => if i < s.2.length then wbRun tree n (i + 1) (tree.foldl (wbE (s.2.getD i 0)) s) else s
def wbWay (before : List (Option Nat)) (one : Nat) : Nat → Nat → List Nat
  | 0, two => [two]
  | n + 1, two => if two = one then [two] else two :: wbWay before one n ((before.getD two none).getD 0)
def wayBack (size : Nat) (tree : List (Nat × Nat)) (one two : Nat) : List Nat := wbWay (wbRun tree size 0 (List.replicate size none, [one])).1 one size two
def closedL (p : Piece) : List (List Nat) :=
  ((List.range p.roads.length).filter fun i => decide (i ∉ gr p.size p.roads)).map fun i => (p.roads.getD i (0, 0)).1 :: (wayBack p.size (treeOf p.roads (gr p.size p.roads)) (p.roads.getD i (0, 0)).1 (p.roads.getD i (0, 0)).2).dropLast
end K86

set_option linter.all false
/-! k86: the mathematics: roads that join, labels, the taken roads. -/
namespace K86
def Adj (es : List (Nat × Nat)) (x y : Nat) : Prop := (x, y) ∈ es ∨ (y, x) ∈ es
theorem Adj.symm {es : List (Nat × Nat)} {x y : Nat} (h : Adj es x y) : Adj es y x := Or.symm h
theorem Adj.mono {es fs : List (Nat × Nat)} {x y : Nat} (h : Adj es x y) (s : ∀ e ∈ es, e ∈ fs) : Adj fs x y := h.imp (s _) (s _)
inductive Conn (es : List (Nat × Nat)) : Nat → Nat → Prop
  | refl (a : Nat) : Conn es a a
  | step {a b c : Nat} : Adj es a b → Conn es b c → Conn es a c
theorem Conn.one {es : List (Nat × Nat)} {a b : Nat} (h : Adj es a b) : Conn es a b := .step h (.refl b)
theorem Conn.trans {es : List (Nat × Nat)} {a b c : Nat} (h : Conn es a b) (k : Conn es b c) : Conn es a c := by
  induction h with
  | refl a => exact k
  | step e _ ih => exact .step e (ih k)
theorem Conn.symm {es : List (Nat × Nat)} {a b : Nat} (h : Conn es a b) : Conn es b a := by
  induction h with
  | refl a => exact .refl a
  | step e _ ih => exact ih.trans (.one e.symm)
theorem Conn.mono {es fs : List (Nat × Nat)} {a b : Nat} (h : Conn es a b) (s : ∀ e ∈ es, e ∈ fs) : Conn fs a b := by
  induction h with
  | refl a => exact .refl a
  | step e _ ih => exact .step (e.mono s) ih
theorem conn_snoc {es : List (Nat × Nat)} {x y a b : Nat} : Conn (es ++ [(x, y)]) a b ↔ Conn es a b ∨ (Conn es a x ∧ Conn es y b) ∨ (Conn es a y ∧ Conn es x b) := by
  constructor
  · intro h
    induction h with
    | refl a => exact .inl (.refl a)
    | step e _ ih =>
      rename_i a b c _
      have he : Adj es a b ∨ (a = x ∧ b = y) ∨ (a = y ∧ b = x) := by
        rcases e with e | e
        · rcases List.mem_append.mp e with e | e
          · exact .inl (.inl e)
          · have := List.mem_singleton.mp e; cases this; exact .inr (.inl ⟨rfl, rfl⟩)
        · rcases List.mem_append.mp e with e | e
          · exact .inl (.inr e)
          · have := List.mem_singleton.mp e; cases this; exact .inr (.inr ⟨rfl, rfl⟩)
      rcases he with he | ⟨rfl, rfl⟩ | ⟨rfl, rfl⟩
      · rcases ih with ih | ⟨i1, i2⟩ | ⟨i1, i2⟩
        · exact .inl (.step he ih)
        · exact .inr (.inl ⟨.step he i1, i2⟩)
        · exact .inr (.inr ⟨.step he i1, i2⟩)
      · rcases ih with ih | ⟨i1, i2⟩ | ⟨i1, i2⟩
        · exact .inr (.inl ⟨.refl _, ih⟩)
        · exact .inr (.inl ⟨.refl _, i2⟩)
        · exact .inl i2
      · rcases ih with ih | ⟨i1, i2⟩ | ⟨i1, i2⟩
        · exact .inr (.inr ⟨.refl _, ih⟩)
        · exact .inl i2
        · exact .inr (.inr ⟨.refl _, i2⟩)
  · have s : ∀ e ∈ es, e ∈ es ++ [(x, y)] := fun e h => List.mem_append_left _ h
    have e : Adj (es ++ [(x, y)]) x y := .inl (by simp)
    rintro (h | ⟨h, k⟩ | ⟨h, k⟩)
    · exact h.mono s
    · exact (h.mono s).trans (.step e (k.mono s))
    · exact (h.mono s).trans (.step e.symm (k.mono s))
/-! labels -/
structure Lb (size : Nat) (es : List (Nat × Nat)) (g : List Nat) : Prop where
  len : g.length = size
  lt : ∀ v, v < size → g.getD v 0 < size
  idem : ∀ v, v < size → g.getD (g.getD v 0) 0 = g.getD v 0
  iff : ∀ a b, a < size → b < size → (g.getD a 0 = g.getD b 0 ↔ Conn es a b)
def win1 (win lose q : Nat) : Nat := if q = lose then win else q
theorem getD_map {g : List Nat} {f : Nat → Nat} {v : Nat} (h : v < g.length) : (g.map f).getD v 0 = f (g.getD v 0) := by simp [List.getD, h]
theorem lb0 (size : Nat) : Lb size [] (List.range size) := by
  have e : ∀ v, v < size → (List.range size).getD v 0 = v := fun v h => by simp [List.getD, h]
  refine ⟨by simp, fun v h => by rw [e v h]; exact h, fun v h => by rw [e v h, e v h], fun a b ha hb => ?_⟩
  rw [e a ha, e b hb]
  constructor
  · rintro rfl; exact .refl a
  · intro h
    cases h with
    | refl => rfl
    | step e _ => rcases e with e | e <;> cases e
theorem Lb.keep {size : Nat} {es : List (Nat × Nat)} {g : List Nat} {x y : Nat} (h : Lb size es g) (hx : x < size) (hy : y < size) (e : g.getD x 0 = g.getD y 0) : Lb size (es ++ [(x, y)]) g := by
  refine ⟨h.len, h.lt, h.idem, fun a b ha hb => ?_⟩
  rw [conn_snoc, ← h.iff a b ha hb, ← h.iff a x ha hx, ← h.iff y b hy hb, ← h.iff a y ha hy, ← h.iff x b hx hb]
  omega
theorem Lb.merge {size : Nat} {es : List (Nat × Nat)} {g : List Nat} {x y win lose : Nat} (h : Lb size es g) (hx : x < size) (hy : y < size) (hw : (win = g.getD x 0 ∧ lose = g.getD y 0) ∨ (win = g.getD y 0 ∧ lose = g.getD x 0)) (hne : win ≠ lose) :
    Lb size (es ++ [(x, y)]) (g.map (win1 win lose)) := by
  have e : ∀ v, v < size → (g.map (win1 win lose)).getD v 0 = win1 win lose (g.getD v 0) := fun v hv => getD_map (by rw [h.len]; exact hv)
  have hwl : win < size ∧ g.getD win 0 = win := by
    rcases hw with ⟨rfl, _⟩ | ⟨rfl, _⟩
    · exact ⟨h.lt x hx, h.idem x hx⟩
    · exact ⟨h.lt y hy, h.idem y hy⟩
  refine ⟨by simp [h.len], fun v hv => ?_, fun v hv => ?_, fun a b ha hb => ?_⟩
  · rw [e v hv]
    unfold win1
    split
    · exact hwl.1
    · exact h.lt v hv
  · rw [e v hv]
    unfold win1
    split
    · have := e win hwl.1
      unfold win1 at this
      rw [this, hwl.2, if_neg hne]
    · rename_i z
      have := e (g.getD v 0) (h.lt v hv)
      unfold win1 at this
      rw [this, h.idem v hv, if_neg z]
  · rw [conn_snoc, ← h.iff a b ha hb, ← h.iff a x ha hx, ← h.iff y b hy hb, ← h.iff a y ha hy, ← h.iff x b hx hb, e a ha, e b hb]
    unfold win1
    rcases hw with ⟨w1, w2⟩ | ⟨w1, w2⟩ <;> (split <;> split <;> omega)
/-! how many labels -/
def roots (size : Nat) (g : List Nat) : Nat := (List.range size).countP fun v => decide (g.getD v 0 = v)
theorem countP_but {l : List Nat} {p : Nat → Bool} {c : Nat} (nd : l.Nodup) (hc : c ∈ l) (hp : p c = true) : l.countP (fun v => p v && decide (v ≠ c)) + 1 = l.countP p := by
  induction l with
  | nil => cases hc
  | cons a l ih =>
    have nd' := List.nodup_cons.mp nd
    rw [List.countP_cons, List.countP_cons]
    by_cases e : a = c
    · subst e
      have : l.countP (fun v => p v && decide (v ≠ a)) = l.countP p := by
        apply List.countP_congr
        intro v hv
        have : v ≠ a := fun z => nd'.1 (z ▸ hv)
        simp [this]
      rw [this]
      simp [hp]
    · have hc' : c ∈ l := by
        rcases List.mem_cons.mp hc with z | z
        · exact absurd z.symm e
        · exact z
      have := ih nd'.2 hc'
      have e2 : (p a && decide (a ≠ c)) = p a := by simp [e]
      rw [e2]
      omega
theorem Lb.roots_merge {size : Nat} {es : List (Nat × Nat)} {g : List Nat} {x y win lose : Nat} (h : Lb size es g) (hx : x < size) (hy : y < size) (hw : (win = g.getD x 0 ∧ lose = g.getD y 0) ∨ (win = g.getD y 0 ∧ lose = g.getD x 0)) (hne : win ≠ lose) :
    roots size (g.map (win1 win lose)) + 1 = roots size g := by
  have e : ∀ v, v < size → (g.map (win1 win lose)).getD v 0 = win1 win lose (g.getD v 0) := fun v hv => getD_map (by rw [h.len]; exact hv)
  have hwl : (win < size ∧ g.getD win 0 = win) ∧ (lose < size ∧ g.getD lose 0 = lose) := by
    rcases hw with ⟨rfl, rfl⟩ | ⟨rfl, rfl⟩
    · exact ⟨⟨h.lt x hx, h.idem x hx⟩, ⟨h.lt y hy, h.idem y hy⟩⟩
    · exact ⟨⟨h.lt y hy, h.idem y hy⟩, ⟨h.lt x hx, h.idem x hx⟩⟩
  unfold roots
  have key := countP_but (l := List.range size) (p := fun v => decide (g.getD v 0 = v)) (c := lose) List.nodup_range (by simpa using hwl.2.1) (decide_eq_true hwl.2.2)
  rw [← key]
  congr 1
  apply List.countP_congr
  intro v hv
  have hv' : v < size := by simpa using hv
  rw [e v hv']
  unfold win1
  simp only [decide_eq_true_eq, Bool.and_eq_true]
  split
  · rename_i z
    constructor
    · intro q
      subst q
      omega
    · rintro ⟨q, r⟩
      omega
  · rename_i z
    constructor
    · intro q; exact ⟨q, fun r => z (by rw [← r]; exact q)⟩
    · exact fun q => q.1
theorem roots0 (size : Nat) : roots size (List.range size) = size := by
  unfold roots
  rw [List.countP_eq_length.mpr]
  · simp
  · intro v hv
    have hv' : v < size := by simpa using hv
    simp [List.getD, hv']
theorem countP_one {l : List Nat} {p : Nat → Bool} (nd : l.Nodup) (h : l.countP p = 1) {a b : Nat} (ha : a ∈ l) (hb : b ∈ l) (pa : p a = true) (pb : p b = true) : a = b := by
  by_cases e : a = b
  · exact e
  have h1 := countP_but nd ha pa
  have h2 : 0 < l.countP (fun v => p v && decide (v ≠ a)) := List.countP_pos_iff.mpr ⟨b, hb, by simp [pb, Ne.symm e]⟩
  omega
theorem Lb.one {size : Nat} {es : List (Nat × Nat)} {g : List Nat} (h : Lb size es g) (hs : 0 < size) : roots size g = 1 ↔ ∀ a b, a < size → b < size → Conn es a b := by
  constructor
  · intro hr a b ha hb
    rw [← h.iff a b ha hb]
    exact countP_one List.nodup_range hr (by simpa using h.lt a ha) (by simpa using h.lt b hb) (decide_eq_true (h.idem a ha)) (decide_eq_true (h.idem b hb))
  · intro hc
    have h1 : 0 < roots size g := List.countP_pos_iff.mpr ⟨g.getD 0 0, by simpa using h.lt 0 hs, decide_eq_true (h.idem 0 hs)⟩
    have h2 := countP_but (l := List.range size) (p := fun v => decide (g.getD v 0 = v)) (c := g.getD 0 0) List.nodup_range (by simpa using h.lt 0 hs) (decide_eq_true (h.idem 0 hs))
    have h3 : (List.range size).countP (fun v => decide (g.getD v 0 = v) && decide (v ≠ g.getD 0 0)) = 0 := by
      rw [List.countP_eq_zero]
      intro v hv
      have hv' : v < size := by simpa using hv
      have := (h.iff v 0 hv' hs).mpr (hc v 0 hv' hs)
      simp only [Bool.and_eq_true, decide_eq_true_eq, not_and]
      intro z
      omega
    unfold roots at h1 ⊢
    omega
end K86

set_option linter.all false
/-! k86: the taken roads told by what joins. -/
namespace K86
open Classical in
noncomputable def kr (roads : List (Nat × Nat)) : List Nat := (List.range roads.length).filter fun i => decide (¬ Conn (roads.take i) (roads.getD i (0, 0)).1 (roads.getD i (0, 0)).2)
open Classical in
noncomputable def krN (roads : List (Nat × Nat)) (n : Nat) : List Nat := (List.range n).filter fun i => decide (¬ Conn (roads.take i) (roads.getD i (0, 0)).1 (roads.getD i (0, 0)).2)
open Classical in
theorem krN_succ (roads : List (Nat × Nat)) (n : Nat) : krN roads (n + 1) = if Conn (roads.take n) (roads.getD n (0, 0)).1 (roads.getD n (0, 0)).2 then krN roads n else krN roads n ++ [n] := by
  unfold krN
  rw [List.range_succ, List.filter_append]
  split
  · rename_i h
    simp only [List.filter_cons, List.filter_nil, h, not_true_eq_false, decide_false, Bool.false_eq_true, if_false, List.append_nil]
  · rename_i h
    simp only [List.filter_cons, List.filter_nil, h, not_false_eq_true, decide_true, if_true]
theorem take_succ' {roads : List (Nat × Nat)} {n : Nat} (h : n < roads.length) : roads.take (n + 1) = roads.take n ++ [((roads.getD n (0, 0)).1, (roads.getD n (0, 0)).2)] := by
  have e : roads.getD n (0, 0) = roads[n] := by simp [List.getD, h]
  rw [e, List.take_succ_eq_append_getElem h]
theorem map_merge (g : List Nat) (win lose : Nat) : (g.map fun q => if q = lose then win else q) = g.map (win1 win lose) := rfl
/-- a step that takes a road where the labels differ -/
structure StepOk (roads : List (Nat × Nat)) (step : List Nat × List Nat → Nat → List Nat × List Nat) : Prop where
  same : ∀ s i, i < roads.length → s.1.getD (roads.getD i (0, 0)).1 0 = s.1.getD (roads.getD i (0, 0)).2 0 → step s i = s
  diff : ∀ s i, i < roads.length → s.1.getD (roads.getD i (0, 0)).1 0 ≠ s.1.getD (roads.getD i (0, 0)).2 0 → ∃ win lose, ((win = s.1.getD (roads.getD i (0, 0)).1 0 ∧ lose = s.1.getD (roads.getD i (0, 0)).2 0) ∨ (win = s.1.getD (roads.getD i (0, 0)).2 0 ∧ lose = s.1.getD (roads.getD i (0, 0)).1 0)) ∧ step s i = (s.1.map (win1 win lose), s.2 ++ [i])
theorem step_run {size : Nat} {roads : List (Nat × Nat)} {step : List Nat × List Nat → Nat → List Nat × List Nat} (S : StepOk roads step) (hr : RIn size roads) : ∀ n, n ≤ roads.length →
    let s := (List.range n).foldl step (List.range size, [])
    Lb size (roads.take n) s.1 ∧ s.2 = krN roads n ∧ roots size s.1 + s.2.length = size := by
  intro n
  induction n with
  | zero =>
    intro _
    refine ⟨?_, rfl, ?_⟩
    · simpa using lb0 size
    · simpa using roots0 size
  | succ n ih =>
    intro hn
    obtain ⟨h1, h2, h3⟩ := ih (by omega)
    have hin := hr (roads.getD n (0, 0)) (by
      have : roads.getD n (0, 0) = roads[n] := by simp [List.getD, (show n < roads.length by omega)]
      rw [this]; exact List.getElem_mem _)
    simp only [List.range_succ, List.foldl_append, List.foldl_cons, List.foldl_nil]
    generalize (List.range n).foldl step (List.range size, []) = s at h1 h2 h3
    rw [take_succ' (by omega), krN_succ]
    by_cases e : s.1.getD (roads.getD n (0, 0)).1 0 = s.1.getD (roads.getD n (0, 0)).2 0
    · rw [S.same s n (by omega) e, if_pos ((h1.iff _ _ hin.1 hin.2).mp e)]
      exact ⟨h1.keep hin.1 hin.2 e, h2, h3⟩
    · obtain ⟨win, lose, hw, es⟩ := S.diff s n (by omega) e
      have hne : win ≠ lose := by rcases hw with ⟨a, b⟩ | ⟨a, b⟩ <;> omega
      rw [es, if_neg (fun z => e ((h1.iff _ _ hin.1 hin.2).mpr z))]
      refine ⟨h1.merge hin.1 hin.2 hw hne, by rw [h2], ?_⟩
      have := h1.roots_merge hin.1 hin.2 hw hne
      simp only [List.length_append, List.length_cons, List.length_nil]
      omega
theorem zip_range {α : Type} (d : α) (xs : List α) : xs.zipIdx = (List.range xs.length).map fun i => (xs.getD i d, i) := by
  apply List.ext_getElem
  · simp
  · intro i h1 h2
    have hi : i < xs.length := by simpa using h1
    simp [List.getD, hi]
theorem jr_step (roads : List (Nat × Nat)) : StepOk roads fun s i => jrStep s (roads.getD i (0, 0), i) := by
  refine ⟨fun s i hi e => ?_, fun s i hi e => ?_⟩
  · show jrStep s (roads.getD i (0, 0), i) = s
    unfold jrStep
    rw [if_neg (fun z => z e)]
  · refine ⟨min (s.1.getD (roads.getD i (0, 0)).1 0) (s.1.getD (roads.getD i (0, 0)).2 0), max (s.1.getD (roads.getD i (0, 0)).1 0) (s.1.getD (roads.getD i (0, 0)).2 0), by omega, ?_⟩
    show jrStep s (roads.getD i (0, 0), i) = _
    unfold jrStep
    rw [if_pos e]
    rfl
theorem gr_step (roads : List (Nat × Nat)) : StepOk roads (grStep roads) := by
  refine ⟨fun s i hi e => ?_, fun s i hi e => ?_⟩
  · unfold grStep
    simp only
    rw [if_neg (fun z => z e)]
  · refine ⟨s.1.getD (roads.getD i (0, 0)).1 0, s.1.getD (roads.getD i (0, 0)).2 0, .inl ⟨rfl, rfl⟩, ?_⟩
    unfold grStep
    simp only
    rw [if_pos e]
    rfl
theorem jrS_eq (size : Nat) (roads : List (Nat × Nat)) : jrS size roads = (List.range roads.length).foldl (fun s i => jrStep s (roads.getD i (0, 0), i)) (List.range size, []) := by
  unfold jrS
  rw [zip_range (0, 0) roads, List.foldl_map]
theorem jr_eq {size : Nat} {roads : List (Nat × Nat)} (hr : RIn size roads) : jr size roads = kr roads := by
  have h := step_run (jr_step roads) hr roads.length (Nat.le_refl _)
  unfold jr
  rw [jrS_eq]
  exact h.2.1
theorem gr_eq {size : Nat} {roads : List (Nat × Nat)} (hr : RIn size roads) : gr size roads = kr roads := by
  have h := step_run (gr_step roads) hr roads.length (Nat.le_refl _)
  exact h.2.1
/-- all joined, told by the number of taken roads -/
theorem conn_iff {size : Nat} {roads : List (Nat × Nat)} (hr : RIn size roads) (hs : 0 < size) : (jr size roads).length = size - 1 ↔ ∀ a b, a < size → b < size → Conn roads a b := by
  obtain ⟨h1, h2, h3⟩ := step_run (jr_step roads) hr roads.length (Nat.le_refl _)
  rw [← jrS_eq] at h1 h2 h3
  rw [List.take_length] at h1
  rw [← h1.one hs]
  unfold jr
  omega
theorem mem_kr {roads : List (Nat × Nat)} {i : Nat} : i ∈ kr roads ↔ i < roads.length ∧ ¬ Conn (roads.take i) (roads.getD i (0, 0)).1 (roads.getD i (0, 0)).2 := by
  unfold kr
  rw [List.mem_filter]
  simp
theorem jr_lt' {size : Nat} {roads : List (Nat × Nat)} {i : Nat} (h : i ∈ jr size roads) : i < roads.length := by
  unfold jr at h
  rw [jrS_eq] at h
  have key : ∀ (n : Nat) (s : List Nat × List Nat), (∀ j ∈ s.2, j < roads.length) → n ≤ roads.length → ∀ j ∈ ((List.range n).foldl (fun s i => jrStep s (roads.getD i (0, 0), i)) s).2, j < roads.length := by
    intro n
    induction n with
    | zero => intro s hs _; exact hs
    | succ n ih =>
      intro s hs hn j hj
      rw [List.range_succ, List.foldl_append, List.foldl_cons, List.foldl_nil] at hj
      unfold jrStep at hj
      split at hj
      · rcases List.mem_append.mp hj with z | z
        · exact ih s hs (by omega) j z
        · have := List.mem_singleton.mp z
          simp only at this
          omega
      · exact ih s hs (by omega) j hj
  exact key _ _ (by intro j hj; cases hj) (Nat.le_refl _) i h
theorem gr_lt' {size : Nat} {roads : List (Nat × Nat)} {i : Nat} (h : i ∈ gr size roads) : i < roads.length := by
  unfold gr at h
  have key : ∀ (n : Nat) (s : List Nat × List Nat), (∀ j ∈ s.2, j < roads.length) → n ≤ roads.length → ∀ j ∈ ((List.range n).foldl (grStep roads) s).2, j < roads.length := by
    intro n
    induction n with
    | zero => intro s hs _; exact hs
    | succ n ih =>
      intro s hs hn j hj
      rw [List.range_succ, List.foldl_append, List.foldl_cons, List.foldl_nil] at hj
      unfold grStep at hj
      simp only at hj
      split at hj
      · rcases List.mem_append.mp hj with z | z
        · exact ih s hs (by omega) j z
        · have := List.mem_singleton.mp z
          omega
      · exact ih s hs (by omega) j hj
  exact key _ _ (by intro j hj; cases hj) (Nat.le_refl _) i h
/-! the taken roads are a forest that joins the same -/
inductive Forest : List (Nat × Nat) → Prop
  | nil : Forest []
  | snoc {es : List (Nat × Nat)} {x y : Nat} : Forest es → ¬ Conn es x y → Forest (es ++ [(x, y)])
theorem treeN (roads : List (Nat × Nat)) : ∀ n, n ≤ roads.length → Forest (treeOf roads (krN roads n)) ∧ ∀ a b, Conn (treeOf roads (krN roads n)) a b ↔ Conn (roads.take n) a b := by
  intro n
  induction n with
  | zero =>
    intro _
    exact ⟨.nil, fun a b => by simp [krN, treeOf]⟩
  | succ n ih =>
    intro hn
    obtain ⟨h1, h2⟩ := ih (by omega)
    rw [krN_succ, take_succ' (by omega)]
    split
    · rename_i h
      refine ⟨h1, fun a b => ?_⟩
      rw [h2, conn_snoc]
      constructor
      · exact .inl
      · rintro (z | ⟨z1, z2⟩ | ⟨z1, z2⟩)
        · exact z
        · exact z1.trans (h.trans z2)
        · exact z1.trans (h.symm.trans z2)
    · rename_i h
      have e : treeOf roads (krN roads n ++ [n]) = treeOf roads (krN roads n) ++ [((roads.getD n (0, 0)).1, (roads.getD n (0, 0)).2)] := by
        unfold treeOf; rw [List.map_append]; rfl
      rw [e]
      refine ⟨.snoc h1 (fun z => h ((h2 _ _).mp z)), fun a b => ?_⟩
      rw [conn_snoc, conn_snoc, h2, h2, h2, h2, h2]
theorem tree_ok (roads : List (Nat × Nat)) : Forest (treeOf roads (kr roads)) ∧ ∀ a b, Conn (treeOf roads (kr roads)) a b ↔ Conn roads a b := by
  have h := treeN roads roads.length (Nat.le_refl _)
  rw [List.take_length] at h
  exact h
end K86

set_option linter.all false
/-! k86: simple ways in a forest. -/
namespace K86
def Pth (es : List (Nat × Nat)) : List Nat → Prop
  | [] => True
  | [_] => True
  | x :: y :: l => Adj es x y ∧ Pth es (y :: l)
theorem Pth.tail {es : List (Nat × Nat)} {x : Nat} {l : List Nat} (h : Pth es (x :: l)) : Pth es l := by
  cases l with
  | nil => trivial
  | cons y l => exact h.2
theorem Pth.app {es : List (Nat × Nat)} : ∀ {l m : List Nat} {a b : Nat}, Pth es (l ++ [a]) → Pth es (b :: m) → Adj es a b → Pth es (l ++ [a] ++ b :: m)
  | [], m, a, b, _, h2, e => ⟨e, h2⟩
  | [x], m, a, b, h1, h2, e => ⟨h1.1, e, h2⟩
  | x :: y :: l, m, a, b, h1, h2, e => ⟨h1.1, Pth.app (l := y :: l) h1.2 h2 e⟩
theorem Pth.left {es : List (Nat × Nat)} : ∀ {l m : List Nat}, Pth es (l ++ m) → Pth es l
  | [], _, _ => trivial
  | [x], _, _ => trivial
  | x :: y :: l, m, h => ⟨h.1, Pth.left (l := y :: l) (m := m) h.2⟩
theorem Pth.right {es : List (Nat × Nat)} : ∀ {l m : List Nat}, Pth es (l ++ m) → Pth es m
  | [], _, h => h
  | x :: l, m, h => Pth.right (l := l) (Pth.tail h)
theorem pth_conn {es : List (Nat × Nat)} : ∀ {l : List Nat} {a b : Nat}, Pth es l → l.head? = some a → l.getLast? = some b → Conn es a b
  | [], _, _, _, h, _ => by cases h
  | [x], a, b, _, h1, h2 => by
    simp at h1 h2
    subst h1; subst h2
    exact .refl _
  | x :: y :: l, a, b, h, h1, h2 => by
    simp at h1
    subst h1
    exact .step h.1 (pth_conn (l := y :: l) h.2 rfl (by rw [List.getLast?_cons_cons] at h2; exact h2))
theorem pth_split {es : List (Nat × Nat)} {x y : Nat} : ∀ {l : List Nat}, Pth (es ++ [(x, y)]) l → l.Nodup → Pth es l ∨ ∃ l1 l2, l = l1 ++ l2 ∧ Pth es l1 ∧ Pth es l2 ∧ ((l1.getLast? = some x ∧ l2.head? = some y) ∨ (l1.getLast? = some y ∧ l2.head? = some x))
  | [], _, _ => .inl trivial
  | [_], _, _ => .inl trivial
  | v :: w :: l, h, nd => by
    have nd' := List.nodup_cons.mp nd
    have he : Adj es v w ∨ (v = x ∧ w = y) ∨ (v = y ∧ w = x) := by
      rcases h.1 with e | e
      · rcases List.mem_append.mp e with e | e
        · exact .inl (.inl e)
        · have := List.mem_singleton.mp e; cases this; exact .inr (.inl ⟨rfl, rfl⟩)
      · rcases List.mem_append.mp e with e | e
        · exact .inl (.inr e)
        · have := List.mem_singleton.mp e; cases this; exact .inr (.inr ⟨rfl, rfl⟩)
    rcases pth_split (l := w :: l) h.2 nd'.2 with ih | ⟨l1, l2, e, p1, p2, ee⟩
    · rcases he with he | ⟨rfl, rfl⟩ | ⟨rfl, rfl⟩
      · exact .inl ⟨he, ih⟩
      · exact .inr ⟨[v], w :: l, rfl, trivial, ih, .inl ⟨rfl, rfl⟩⟩
      · exact .inr ⟨[v], w :: l, rfl, trivial, ih, .inr ⟨rfl, rfl⟩⟩
    · have hv : v ∉ l1 ++ l2 := e ▸ nd'.1
      have hxy : x ∈ l1 ++ l2 ∧ y ∈ l1 ++ l2 := by
        rcases ee with ⟨a, b⟩ | ⟨a, b⟩
        · exact ⟨List.mem_append_left _ (List.mem_of_getLast? a), List.mem_append_right _ (List.mem_of_head? b)⟩
        · exact ⟨List.mem_append_right _ (List.mem_of_head? b), List.mem_append_left _ (List.mem_of_getLast? a)⟩
      rcases he with he | ⟨rfl, rfl⟩ | ⟨rfl, rfl⟩
      · cases l1 with
        | nil =>
          rcases ee with ⟨a, _⟩ | ⟨a, _⟩ <;> cases a
        | cons z l1 =>
          have ez : w = z := by have := congrArg List.head? e; simpa using this
          subst ez
          refine .inr ⟨v :: w :: l1, l2, by rw [e]; rfl, ⟨he, p1⟩, p2, ?_⟩
          rw [List.getLast?_cons_cons]
          exact ee
      · exact absurd hxy.1 hv
      · exact absurd hxy.2 hv
theorem head_app {l1 l2 : List Nat} {a b : Nat} (h : l1.getLast? = some a) (k : (l1 ++ l2).head? = some b) : l1.head? = some b := by
  cases l1 with
  | nil => cases h
  | cons x l => simpa using k
theorem last_app {l1 l2 : List Nat} {a b : Nat} (h : l2.head? = some a) (k : (l1 ++ l2).getLast? = some b) : l2.getLast? = some b := by
  cases l2 with
  | nil => cases h
  | cons x l =>
    rw [List.getLast?_append] at k
    cases hz : (x :: l).getLast? with
    | none => simp at hz
    | some z => rw [hz] at k; simpa using k
theorem pth_nil {l : List Nat} {a : Nat} (h : Pth [] l) (k : l.head? = some a) : l = [a] := by
  match l, h, k with
  | [x], _, k => simp at k; rw [k]
  | x :: y :: l, h, _ => rcases h.1 with z | z <;> cases z
/-- ONE SIMPLE WAY between two places of a forest -/
theorem pth_uniq {es : List (Nat × Nat)} (F : Forest es) : ∀ {l m : List Nat} {a b : Nat}, Pth es l → Pth es m → l.Nodup → m.Nodup → l.head? = some a → m.head? = some a → l.getLast? = some b → m.getLast? = some b → l = m := by
  induction F with
  | nil => intro l m a b h1 h2 _ _ a1 a2 _ _; rw [pth_nil h1 a1, pth_nil h2 a2]
  | snoc F hxy ih =>
    rename_i es x y
    intro l m a b h1 h2 n1 n2 a1 a2 b1 b2
    rcases pth_split h1 n1 with p | ⟨l1, l2, e, p1, p2, ee⟩
    · rcases pth_split h2 n2 with q | ⟨m1, m2, e', q1, q2, ee'⟩
      · exact ih p q n1 n2 a1 a2 b1 b2
      · exfalso
        subst e'
        have c := pth_conn p a1 b1
        rcases ee' with ⟨z1, z2⟩ | ⟨z1, z2⟩
        · exact hxy (((pth_conn q1 (head_app z1 a2) z1).symm.trans c).trans (pth_conn q2 z2 (last_app z2 b2)).symm)
        · exact hxy (((pth_conn q1 (head_app z1 a2) z1).symm.trans c).trans (pth_conn q2 z2 (last_app z2 b2)).symm).symm
    · subst e
      rcases pth_split h2 n2 with q | ⟨m1, m2, e', q1, q2, ee'⟩
      · exfalso
        have c := pth_conn q a2 b2
        rcases ee with ⟨z1, z2⟩ | ⟨z1, z2⟩
        · exact hxy (((pth_conn p1 (head_app z1 a1) z1).symm.trans c).trans (pth_conn p2 z2 (last_app z2 b1)).symm)
        · exact hxy (((pth_conn p1 (head_app z1 a1) z1).symm.trans c).trans (pth_conn p2 z2 (last_app z2 b1)).symm).symm
      · subst e'
        have nl := List.nodup_append.mp n1
        have nm := List.nodup_append.mp n2
        rcases ee with ⟨z1, z2⟩ | ⟨z1, z2⟩ <;> rcases ee' with ⟨w1, w2⟩ | ⟨w1, w2⟩
        · rw [ih p1 q1 nl.1 nm.1 (head_app z1 a1) (head_app w1 a2) z1 w1, ih p2 q2 nl.2.1 nm.2.1 z2 w2 (last_app z2 b1) (last_app w2 b2)]
        · exact absurd ((pth_conn p1 (head_app z1 a1) z1).symm.trans (pth_conn q1 (head_app w1 a2) w1)) hxy
        · exact absurd ((pth_conn q1 (head_app w1 a2) w1).symm.trans (pth_conn p1 (head_app z1 a1) z1)) hxy
        · rw [ih p1 q1 nl.1 nm.1 (head_app z1 a1) (head_app w1 a2) z1 w1, ih p2 q2 nl.2.1 nm.2.1 z2 w2 (last_app z2 b1) (last_app w2 b2)]
end K86

set_option linter.all false
/-! k86: breadth first searches. -/
namespace K86
/-- following ahead from place comes to first within n steps -/
def reach (ahead : List (Option Nat)) (first : Nat) : Nat → Nat → Prop
  | 0, place => place = first
  | n + 1, place => place = first ∨ ∃ q, ahead.getD place none = some q ∧ reach ahead first n q
theorem nodup_len : ∀ {n : Nat} {l : List Nat}, l.Nodup → (∀ x ∈ l, x < n) → l.length ≤ n
  | 0, l, _, h => by
    cases l with
    | nil => simp
    | cons x l => exact absurd (h x (by simp)) (by omega)
  | n + 1, l, nd, h => by
    have h1 := nodup_len (n := n) (l := l.erase n) (nd.erase n) fun x hx => by
      have := (nd.mem_erase_iff).mp hx
      have := h x this.2
      omega
    have h2 : l.length ≤ (l.erase n).length + 1 := by
      rw [List.length_erase]
      split <;> omega
    omega
abbrev Bs := List (Option Nat) × List Nat
structure BI (size : Nat) (tree : List (Nat × Nat)) (goal : Nat) (s : Bs) : Prop where
  len : s.1.length = size
  nd : s.2.Nodup
  lt : ∀ v ∈ s.2, v < size
  par : ∀ l1 v l2, s.2 = l1 ++ v :: l2 → v = goal ∨ ∃ p ∈ l1, s.1.getD v none = some p ∧ Adj tree v p
  gl : goal ∈ s.2
theorem getD_set_ne {a : List (Option Nat)} {x v : Nat} {y : Option Nat} (h : v ≠ x) : (a.set x y).getD v none = a.getD v none := by
  simp [List.getD, List.getElem?_set_ne (Ne.symm h)]
theorem getD_set_eq {a : List (Option Nat)} {x : Nat} {y : Option Nat} (h : x < a.length) : (a.set x y).getD x none = y := by
  simp [List.getD, h]
theorem BI.add {size goal here x : Nat} {tree : List (Nat × Nat)} {s : Bs} (h : BI size tree goal s) (hx : x < size) (hn : x ∉ s.2) (hh : here ∈ s.2) (e : Adj tree x here) : BI size tree goal (s.1.set x (some here), s.2 ++ [x]) := by
  refine ⟨by simp [h.len], ?_, ?_, ?_, by simp [h.gl]⟩
  · show (s.2 ++ [x]).Nodup
    rw [List.nodup_append]
    refine ⟨h.nd, by simp, fun a ha b hb => ?_⟩
    have := List.mem_singleton.mp hb
    subst this
    exact fun z => hn (z ▸ ha)
  · intro v hv
    rcases List.mem_append.mp hv with z | z
    · exact h.lt v z
    · rw [List.mem_singleton.mp z]; exact hx
  · intro l1 v l2 q
    have q' : s.2 ++ [x] = l1 ++ v :: l2 := q
    rcases List.eq_nil_or_concat l2 with z | ⟨l3, y, z⟩
    · subst z
      have := List.append_inj' q' rfl
      have hv : x = v := by simpa using this.2
      subst hv
      exact .inr ⟨here, this.1 ▸ hh, getD_set_eq (by rw [h.len]; exact hx), e⟩
    · subst z
      rw [List.concat_eq_append] at q'
      have q2 : s.2 ++ [x] = (l1 ++ v :: l3) ++ [y] := by simpa using q'
      have := List.append_inj' q2 rfl
      have hv : v ∈ s.2 := by rw [this.1]; simp
      rcases h.par l1 v l3 this.1 with w | ⟨p, hp, w1, w2⟩
      · exact .inl w
      · refine .inr ⟨p, hp, ?_, w2⟩
        show (s.1.set x (some here)).getD v none = some p
        rw [getD_set_ne (show v ≠ x from fun z => hn (by rw [← z]; exact hv))]
        exact w1
/-- what one edge does -/
structure StepB (size : Nat) (tree : List (Nat × Nat)) (goal : Nat) (inv : Bs → Prop) (E : Nat → Bs → Nat × Nat → Bs) : Prop where
  bi : ∀ s, inv s → BI size tree goal s
  go : ∀ here s r, inv s → here ∈ s.2 → r ∈ tree → inv (E here s r) ∧ s.2 <+: (E here s r).2 ∧ (r.1 = here → r.2 ∈ (E here s r).2) ∧ (r.2 = here → r.1 ∈ (E here s r).2)
def genRun (E : Nat → Bs → Nat × Nat → Bs) (tree : List (Nat × Nat)) : Nat → Nat → Bs → Bs
  | 0, _, s => s
  | n + 1, i, s => if i < s.2.length then genRun E tree n (i + 1) (tree.foldl (E (s.2.getD i 0)) s) else s
theorem fold_ok {size goal here : Nat} {tree : List (Nat × Nat)} {inv : Bs → Prop} {E : Nat → Bs → Nat × Nat → Bs} (S : StepB size tree goal inv E) : ∀ (tr : List (Nat × Nat)) (s : Bs), (∀ r ∈ tr, r ∈ tree) → inv s → here ∈ s.2 →
    inv (tr.foldl (E here) s) ∧ s.2 <+: (tr.foldl (E here) s).2 ∧ ∀ w, Adj tr here w → w ∈ (tr.foldl (E here) s).2
  | [], s, _, h, _ => ⟨h, List.prefix_refl _, fun w e => by rcases e with e | e <;> cases e⟩
  | r :: tr, s, ht, h, hh => by
    obtain ⟨g1, g2, g3, g4⟩ := S.go here s r h hh (ht r (by simp))
    obtain ⟨i1, i2, i3⟩ := fold_ok S tr (E here s r) (fun x hx => ht x (by simp [hx])) g1 (g2.subset hh)
    refine ⟨i1, g2.trans i2, fun w e => ?_⟩
    rcases e with e | e
    · rcases List.mem_cons.mp e with z | z
      · subst z; exact i2.subset (g3 rfl)
      · exact i3 w (.inl z)
    · rcases List.mem_cons.mp e with z | z
      · subst z; exact i2.subset (g4 rfl)
      · exact i3 w (.inr z)
theorem run_ok {size goal : Nat} {tree : List (Nat × Nat)} {inv : Bs → Prop} {E : Nat → Bs → Nat × Nat → Bs} (S : StepB size tree goal inv E) : ∀ (n i : Nat) (s : Bs), n + i = size → inv s → (∀ j w, j < i → j < s.2.length → Adj tree (s.2.getD j 0) w → w ∈ s.2) →
    inv (genRun E tree n i s) ∧ ∀ v w, v ∈ (genRun E tree n i s).2 → Adj tree v w → w ∈ (genRun E tree n i s).2 := by
  have fin : ∀ (i : Nat) (s : Bs), s.2.length ≤ i → (∀ j w, j < i → j < s.2.length → Adj tree (s.2.getD j 0) w → w ∈ s.2) → ∀ v w, v ∈ s.2 → Adj tree v w → w ∈ s.2 := fun i s hl hc v w hv e => by
    obtain ⟨j, hj, ej⟩ := List.getElem_of_mem hv
    refine hc j w (by omega) hj ?_
    have : s.2.getD j 0 = v := by simp [List.getD, hj, ej]
    rw [this]
    exact e
  intro n
  induction n with
  | zero =>
    intro i s hn h hc
    have b := S.bi s h
    exact ⟨h, fin i s (by have := nodup_len b.nd b.lt; omega) hc⟩
  | succ n ih =>
    intro i s hn h hc
    unfold genRun
    split
    · rename_i hi
      have hg : s.2.getD i 0 = s.2[i] := by simp [List.getD, hi]
      have hh : s.2.getD i 0 ∈ s.2 := by rw [hg]; exact List.getElem_mem _
      obtain ⟨f1, f2, f3⟩ := fold_ok S tree s (fun _ z => z) h hh
      refine ih (i + 1) _ (by omega) f1 fun j w hj hl e => ?_
      have eq : ∀ j, j < s.2.length → (tree.foldl (E (s.2.getD i 0)) s).2.getD j 0 = s.2.getD j 0 := fun j hj => by
        obtain ⟨t, et⟩ := f2
        rw [← et]
        simp [List.getD, List.getElem?_append_left hj]
      by_cases ji : j = i
      · subst ji
        rw [eq j hi] at e
        exact f3 w e
      · rw [eq j (by omega)] at e
        exact f2.subset (hc j w (by omega) (by omega) e)
    · rename_i hi
      exact ⟨h, fin i s (by omega) hc⟩
theorem closed_conn {tree : List (Nat × Nat)} {R : List Nat} (hc : ∀ v w, v ∈ R → Adj tree v w → w ∈ R) {a b : Nat} (ha : a ∈ R) (h : Conn tree a b) : b ∈ R := by
  induction h with
  | refl a => exact ha
  | step e _ ih => exact ih (hc _ _ ha e)
/-- the way along the search's tree -/
structure WayOk (tree : List (Nat × Nat)) (a : List (Option Nat)) (goal n v : Nat) : Prop where
  reach : reach a goal n v
  pth : Pth tree (follow a goal n v ++ [goal])
  nd : (follow a goal n v ++ [goal]).Nodup
  hd : (follow a goal n v ++ [goal]).head? = some v
theorem way_ok {size goal : Nat} {tree : List (Nat × Nat)} {s : Bs} (h : BI size tree goal s) : ∀ (k : Nat) (l1 : List Nat) (v : Nat) (l2 : List Nat) (n : Nat), l1.length = k → s.2 = l1 ++ v :: l2 → k ≤ n →
    WayOk tree s.1 goal n v ∧ ∀ w ∈ follow s.1 goal n v ++ [goal], w ∈ l1 ++ [v] := by
  intro k
  induction k using Nat.strongRecOn with
  | ind k ih =>
    intro l1 v l2 n hk e hn
    by_cases hv : v = goal
    · subst hv
      have ef : follow s.1 v n v = [] := by
        cases n with
        | zero => rfl
        | succ n => rw [follow, if_pos rfl]
      refine ⟨⟨?_, by rw [ef]; trivial, by rw [ef]; simp, by rw [ef]; rfl⟩, fun w hw => ?_⟩
      · cases n with
        | zero => rfl
        | succ n => exact .inl rfl
      · rw [ef] at hw
        simp at hw
        simp [hw]
    · rcases h.par l1 v l2 e with z | ⟨p, hp, e1, e2⟩
      · exact absurd z hv
      · obtain ⟨la, lb, el⟩ := List.append_of_mem hp
        have hlen : la.length < l1.length := by rw [el]; simp
        obtain ⟨m, rfl⟩ : ∃ m, n = m + 1 := ⟨n - 1, by omega⟩
        obtain ⟨W, hsub⟩ := ih la.length (by omega) la p (lb ++ v :: l2) m rfl (by rw [e, el]; simp) (by omega)
        have ef : follow s.1 goal (m + 1) v = v :: follow s.1 goal m p := by rw [follow, if_neg hv, e1]; rfl
        have hin : ∀ w ∈ follow s.1 goal m p ++ [goal], w ∈ l1 := fun w hw => by
          have := hsub w hw
          rw [el]
          rcases List.mem_append.mp this with z | z
          · simp [z]
          · simp [List.mem_singleton.mp z]
        have hnv : v ∉ l1 := by
          have nd := h.nd
          rw [e, List.nodup_append] at nd
          exact fun z => nd.2.2 v z v (by simp) rfl
        refine ⟨⟨.inr ⟨p, e1, W.reach⟩, ?_, ?_, by rw [ef]; rfl⟩, fun w hw => ?_⟩
        · rw [ef]
          have hp2 := W.pth
          have hh := W.hd
          rw [List.cons_append]
          cases hq : follow s.1 goal m p ++ [goal] with
          | nil => simp at hq
          | cons x l =>
            rw [hq] at hp2 hh
            have : x = p := by simpa using hh
            subst this
            exact ⟨e2, hp2⟩
        · rw [ef, List.cons_append, List.nodup_cons]
          exact ⟨fun z => hnv (hin v z), W.nd⟩
        · rw [ef, List.cons_append] at hw
          rcases List.mem_cons.mp hw with z | z
          · simp [z]
          · exact List.mem_append_left _ (hin w z)
theorem search_ok {size goal v : Nat} {tree : List (Nat × Nat)} {inv : Bs → Prop} {E : Nat → Bs → Nat × Nat → Bs} (S : StepB size tree goal inv E) {s0 : Bs} (h0 : inv s0) (hv : Conn tree goal v) : WayOk tree (genRun E tree size 0 s0).1 goal size v ∧ ∀ w ∈ follow (genRun E tree size 0 s0).1 goal size v ++ [goal], w < size := by
  obtain ⟨h1, h2⟩ := run_ok S size 0 s0 (by omega) h0 (fun j w hj => by omega)
  have b := S.bi _ h1
  have hm := closed_conn h2 b.gl hv
  obtain ⟨l1, l2, e⟩ := List.append_of_mem hm
  have hl : l1.length ≤ size := by
    have := nodup_len b.nd b.lt
    rw [e] at this
    simp at this
    omega
  have k := way_ok b l1.length l1 v l2 size rfl e hl
  refine ⟨k.1, fun w hw => b.lt w ?_⟩
  rw [e]
  rcases List.mem_append.mp (k.2 w hw) with z | z
  · simp [z]
  · simp [List.mem_singleton.mp z]
end K86

set_option linter.all false
/-! k86: the program's search and the law's search. -/
namespace K86
def InvN (size : Nat) (tree : List (Nat × Nat)) (goal : Nat) (s : Bs) : Prop := BI size tree goal s ∧ ∀ v, v < size → (s.1.getD v none = none ↔ v ∉ s.2)
theorem bf_half {size goal here x : Nat} {tree : List (Nat × Nat)} {s : Bs} {c : Prop} [Decidable c] (h : InvN size tree goal s) (hx : x < size) (hh : here ∈ s.2) (e : c → Adj tree x here) :
    InvN size tree goal (if c ∧ s.1.getD x none = none then (s.1.set x (some here), s.2 ++ [x]) else s) ∧ s.2 <+: (if c ∧ s.1.getD x none = none then (s.1.set x (some here), s.2 ++ [x]) else s).2 ∧ (c → x ∈ (if c ∧ s.1.getD x none = none then (s.1.set x (some here), s.2 ++ [x]) else s).2) := by
  by_cases z : c ∧ s.1.getD x none = none
  · rw [if_pos z]
    have hn : x ∉ s.2 := (h.2 x hx).mp z.2
    refine ⟨⟨h.1.add hx hn hh (e z.1), fun v hv => ?_⟩, by simp, by simp⟩
    show (s.1.set x (some here)).getD v none = none ↔ v ∉ s.2 ++ [x]
    by_cases w : v = x
    · subst w
      rw [getD_set_eq (by rw [h.1.len]; exact hx)]
      simp
    · rw [getD_set_ne w, h.2 v hv]
      simp [w]
  · rw [if_neg z]
    refine ⟨h, List.prefix_refl _, fun hc => ?_⟩
    by_cases w : x ∈ s.2
    · exact w
    · exact absurd ⟨hc, (h.2 x hx).mpr w⟩ z
theorem bf_step {size goal : Nat} {tree : List (Nat × Nat)} (ht : RIn size tree) : StepB size tree goal (InvN size tree goal) bfE := by
  refine ⟨fun s h => h.1, fun here s r h hh hr => ?_⟩
  have hb := ht r hr
  obtain ⟨a1, a2, a3⟩ := bf_half (c := r.1 = here) h hb.2 hh (fun z => .inr (by rw [← z]; exact hr))
  unfold bfE
  simp only
  generalize (if r.1 = here ∧ s.1.getD r.2 none = none then (s.1.set r.2 (some here), s.2 ++ [r.2]) else s) = s1 at a1 a2 a3
  obtain ⟨b1, b2, b3⟩ := bf_half (c := r.2 = here) a1 hb.1 (a2.subset hh) (fun z => .inl (by rw [← z]; exact hr))
  exact ⟨b1, a2.trans b2, fun z => b2.subset (a3 z), b3⟩
theorem wb_half {size goal here x : Nat} {tree : List (Nat × Nat)} {s : Bs} {c : Prop} [Decidable c] (h : BI size tree goal s) (hx : x < size) (hh : here ∈ s.2) (e : c → Adj tree x here) :
    BI size tree goal (if c ∧ x ∉ s.2 then (s.1.set x (some here), s.2 ++ [x]) else s) ∧ s.2 <+: (if c ∧ x ∉ s.2 then (s.1.set x (some here), s.2 ++ [x]) else s).2 ∧ (c → x ∈ (if c ∧ x ∉ s.2 then (s.1.set x (some here), s.2 ++ [x]) else s).2) := by
  by_cases z : c ∧ x ∉ s.2
  · rw [if_pos z]
    exact ⟨h.add hx z.2 hh (e z.1), by simp, by simp⟩
  · rw [if_neg z]
    refine ⟨h, List.prefix_refl _, fun hc => ?_⟩
    by_cases w : x ∈ s.2
    · exact w
    · exact absurd ⟨hc, w⟩ z
theorem wb_step {size goal : Nat} {tree : List (Nat × Nat)} (ht : RIn size tree) : StepB size tree goal (BI size tree goal) wbE := by
  refine ⟨fun s h => h, fun here s r h hh hr => ?_⟩
  have hb := ht r hr
  obtain ⟨a1, a2, a3⟩ := wb_half (c := r.1 = here) h hb.2 hh (fun z => .inr (by rw [← z]; exact hr))
  unfold wbE
  simp only
  generalize (if r.1 = here ∧ r.2 ∉ s.2 then (s.1.set r.2 (some here), s.2 ++ [r.2]) else s) = s1 at a1 a2 a3
  obtain ⟨b1, b2, b3⟩ := wb_half (c := r.2 = here) a1 hb.1 (a2.subset hh) (fun z => .inl (by rw [← z]; exact hr))
  exact ⟨b1, a2.trans b2, fun z => b2.subset (a3 z), b3⟩
theorem bf_gen (tree : List (Nat × Nat)) : ∀ (n : Nat) (s : Bf), (bfRun tree n s).ahead = (genRun bfE tree n s.index (s.ahead, s.reached)).1
  | 0, s => rfl
  | n + 1, s => by
    unfold bfRun genRun
    by_cases h : s.index < s.reached.length
    · rw [if_pos h, if_pos h, bf_gen tree n]
      rfl
    · rw [if_neg h, if_neg h]
theorem wb_gen (tree : List (Nat × Nat)) : ∀ (n i : Nat) (s : Bs), wbRun tree n i s = genRun wbE tree n i s
  | 0, i, s => rfl
  | n + 1, i, s => by
    unfold wbRun genRun
    by_cases h : i < s.2.length
    · rw [if_pos h, if_pos h, wb_gen tree n]
    · rw [if_neg h, if_neg h]
theorem bi0 {size goal : Nat} {tree : List (Nat × Nat)} {a : List (Option Nat)} (hl : a.length = size) (hg : goal < size) : BI size tree goal (a, [goal]) := by
  refine ⟨hl, by simp, fun v hv => by simp at hv; omega, fun l1 v l2 e => ?_, by simp⟩
  have e' : [goal] = l1 ++ v :: l2 := e
  cases l1 with
  | nil => simp at e'; exact .inl e'.1.symm
  | cons x l => simp at e'
theorem nextP_way {size goal v : Nat} {tree : List (Nat × Nat)} (ht : RIn size tree) (hg : goal < size) (hv : Conn tree goal v) : WayOk tree (nextP size tree goal) goal size v := by
  have h0 : InvN size tree goal ((List.replicate size none).set goal (some goal), [goal]) := by
    refine ⟨bi0 (by simp) hg, fun w hw => ?_⟩
    show ((List.replicate size none).set goal (some goal)).getD w none = none ↔ w ∉ [goal]
    by_cases z : w = goal
    · subst z
      rw [getD_set_eq (by simpa using hw)]
      simp
    · rw [getD_set_ne z]
      simp [List.getD, hw, z]
  have := search_ok (bf_step ht) h0 hv
  unfold nextP
  rw [bf_gen]
  exact this.1
theorem wb_way {size goal v : Nat} {tree : List (Nat × Nat)} (ht : RIn size tree) (hg : goal < size) (hv : Conn tree goal v) : WayOk tree (wbRun tree size 0 (List.replicate size none, [goal])).1 goal size v ∧ ∀ w ∈ follow (wbRun tree size 0 (List.replicate size none, [goal])).1 goal size v ++ [goal], w < size := by
  rw [wb_gen]
  exact search_ok (wb_step ht) (bi0 (by simp) hg) hv
theorem wbWay_follow {a : List (Option Nat)} {one : Nat} : ∀ {n v : Nat}, reach a one n v → wbWay a one n v = follow a one n v ++ [one]
  | 0, v, h => by
    have : v = one := h
    subst this
    rfl
  | n + 1, v, h => by
    unfold wbWay follow
    by_cases z : v = one
    · rw [if_pos z, if_pos z, z]; rfl
    · rw [if_neg z, if_neg z]
      rcases h with h | ⟨q, e, h⟩
      · exact absurd h z
      · rw [e]
        show v :: wbWay a one n q = _
        rw [wbWay_follow h]
        rfl
end K86

set_option linter.all false
/-! k86: a road becomes a point. -/
namespace K86
def ff (u v : Nat) (e : Nat × Nat) : Nat × Nat := (nmF u v e.1, nmF u v e.2)
theorem nmF_inj {u v a b : Nat} (huv : u ≠ v) (h : nmF u v a = nmF u v b) : a = b ∨ (a = u ∧ b = v) ∨ (a = v ∧ b = u) := by
  unfold nmF at h
  split at h <;> split at h <;> (try split at h) <;> (try split at h) <;> omega
theorem nmF_uv (u v : Nat) : nmF u v u = nmF u v v := by
  unfold nmF
  split <;> split <;> (try split) <;> (try split) <;> omega
theorem conn_map {es : List (Nat × Nat)} {u v : Nat} (huv : u ≠ v) {a b : Nat} : Conn (es.map (ff u v)) (nmF u v a) (nmF u v b) ↔ Conn (es ++ [(u, v)]) a b := by
  have euv : Adj (es ++ [(u, v)]) u v := .inl (by simp)
  have same : ∀ {a b : Nat}, nmF u v a = nmF u v b → Conn (es ++ [(u, v)]) a b := fun {a b} h => by
    rcases nmF_inj huv h with z | ⟨z1, z2⟩ | ⟨z1, z2⟩
    · rw [z]; exact .refl _
    · rw [z1, z2]; exact .one euv
    · rw [z1, z2]; exact .one euv.symm
  constructor
  · have key : ∀ p q, Conn (es.map (ff u v)) p q → ∀ a, p = nmF u v a → ∀ b, q = nmF u v b → Conn (es ++ [(u, v)]) a b := by
      intro p q h
      induction h with
      | refl p => intro a ea b eb; exact same (by rw [← ea, ← eb])
      | step e _ ih =>
        rename_i p p1 q _
        intro a ea b eb
        have : ∃ s t, Adj es s t ∧ nmF u v s = p ∧ nmF u v t = p1 := by
          rcases e with e | e
          · obtain ⟨x, hx, ex⟩ := List.mem_map.mp e
            unfold ff at ex
            exact ⟨x.1, x.2, .inl hx, congrArg Prod.fst ex, congrArg Prod.snd ex⟩
          · obtain ⟨x, hx, ex⟩ := List.mem_map.mp e
            unfold ff at ex
            exact ⟨x.2, x.1, .inr hx, congrArg Prod.snd ex, congrArg Prod.fst ex⟩
        obtain ⟨s, t, e1, e2, e3⟩ := this
        exact (same (by rw [← ea, e2])).trans (.step (e1.mono fun _ z => List.mem_append_left _ z) (ih t e3.symm b eb))
    exact fun h => key _ _ h a rfl b rfl
  · intro h
    induction h with
    | refl a => exact .refl _
    | step e _ ih =>
      rename_i a a1 b _
      have : Adj es a a1 ∨ nmF u v a = nmF u v a1 := by
        rcases e with e | e
        · rcases List.mem_append.mp e with z | z
          · exact .inl (.inl z)
          · have := List.mem_singleton.mp z; cases this; exact .inr (nmF_uv u v)
        · rcases List.mem_append.mp e with z | z
          · exact .inl (.inr z)
          · have := List.mem_singleton.mp z; cases this; exact .inr (nmF_uv u v).symm
      rcases this with z | z
      · refine .step ?_ ih
        exact z.imp (fun q => List.mem_map.mpr ⟨_, q, rfl⟩) (fun q => List.mem_map.mpr ⟨_, q, rfl⟩)
      · rw [z]; exact ih
/-- the roads without road, renamed -/
def sqR (roads : List (Nat × Nat)) (road : Nat) : List (Nat × Nat) := (roads.take road ++ roads.drop (road + 1)).map (ff (roads.getD road (0, 0)).1 (roads.getD road (0, 0)).2)
theorem getD_lt {α : Type} {l : List α} {i : Nat} (d : α) (h : i < l.length) : l.getD i d = l[i] := by simp [List.getD, h]
section
variable {roads : List (Nat × Nat)} {road : Nat} (hr : road < roads.length)
theorem sqR_len (hr : road < roads.length) : (sqR roads road).length = roads.length - 1 := by
  simp [sqR]; omega
theorem sqR_get1 {i : Nat} (hr : road < roads.length) (h : i < road) : (sqR roads road).getD i (0, 0) = ff (roads.getD road (0, 0)).1 (roads.getD road (0, 0)).2 (roads.getD i (0, 0)) := by
  rw [getD_lt _ (by rw [sqR_len hr]; omega), getD_lt (l := roads) (i := i) _ (by omega)]
  unfold sqR
  rw [List.getElem_map, List.getElem_append_left (by simp; omega), List.getElem_take]
theorem sqR_get2 {i : Nat} (hr : road < roads.length) (h : road < i) (hi : i < roads.length) : (sqR roads road).getD (i - 1) (0, 0) = ff (roads.getD road (0, 0)).1 (roads.getD road (0, 0)).2 (roads.getD i (0, 0)) := by
  rw [getD_lt _ (by rw [sqR_len hr]; omega), getD_lt (l := roads) (i := i) _ hi]
  unfold sqR
  rw [List.getElem_map, List.getElem_append_right (by simp; omega), List.getElem_drop]
  congr 1
  simp only [List.length_take]
  congr 1
  omega
theorem sqR_take1 {i : Nat} (hr : road < roads.length) (h : i < road) : (sqR roads road).take i = (roads.take i).map (ff (roads.getD road (0, 0)).1 (roads.getD road (0, 0)).2) := by
  unfold sqR
  rw [← List.map_take, List.take_append_of_le_length (by simp; omega), List.take_take]
  congr 2
  omega
theorem sqR_take2 {i : Nat} (hr : road < roads.length) (h : road < i) : (sqR roads road).take (i - 1) = (roads.take road ++ (roads.drop (road + 1)).take (i - 1 - road)).map (ff (roads.getD road (0, 0)).1 (roads.getD road (0, 0)).2) := by
  unfold sqR
  rw [← List.map_take, List.take_append]
  congr 2
  · rw [List.take_of_length_le]; simp; omega
  · congr 1
    simp
    omega
theorem kr1 {i : Nat} (hk : road ∈ kr roads) (huv : (roads.getD road (0, 0)).1 ≠ (roads.getD road (0, 0)).2) (h : i < road) : i ∈ kr (sqR roads road) ↔ i ∈ kr roads := by
  obtain ⟨hr, hn⟩ := mem_kr.mp hk
  rw [mem_kr, mem_kr, sqR_len hr, sqR_get1 hr h, sqR_take1 hr h]
  show (_ ∧ ¬ Conn (List.map _ _) (nmF _ _ _) (nmF _ _ _)) ↔ _
  rw [conn_map huv, conn_snoc]
  constructor
  · rintro ⟨_, z⟩
    exact ⟨by omega, fun w => z (.inl w)⟩
  · rintro ⟨_, z⟩
    refine ⟨by omega, ?_⟩
    have sub : ∀ e ∈ roads.take i, e ∈ roads.take road := fun e he => by
      have : roads.take i = (roads.take road).take i := by rw [List.take_take]; congr 1; omega
      rw [this] at he
      exact List.mem_of_mem_take he
    have ei : roads.getD i (0, 0) ∈ roads.take road := by
      rw [getD_lt _ (show i < roads.length by omega)]
      have : (roads.take road)[i]'(by simp; omega) = roads[i] := by rw [List.getElem_take]
      rw [← this]
      exact List.getElem_mem _
    have eg : Adj (roads.take road) (roads.getD i (0, 0)).1 (roads.getD i (0, 0)).2 := .inl ei
    rintro (w | ⟨w1, w2⟩ | ⟨w1, w2⟩)
    · exact z w
    · exact hn (((w1.mono sub).symm.trans (.one eg)).trans (w2.mono sub).symm)
    · exact hn (((w2.mono sub).trans (.one eg.symm)).trans (w1.mono sub))
theorem kr2 {i : Nat} (hk : road ∈ kr roads) (huv : (roads.getD road (0, 0)).1 ≠ (roads.getD road (0, 0)).2) (h : road < i) (hi : i < roads.length) : i - 1 ∈ kr (sqR roads road) ↔ i ∈ kr roads := by
  obtain ⟨hr, hn⟩ := mem_kr.mp hk
  rw [mem_kr, mem_kr, sqR_len hr, sqR_get2 hr h hi, sqR_take2 hr h]
  show (_ ∧ ¬ Conn (List.map _ _) (nmF _ _ _) (nmF _ _ _)) ↔ _
  rw [conn_map huv]
  have et : roads.take i = roads.take road ++ roads.getD road (0, 0) :: (roads.drop (road + 1)).take (i - 1 - road) := by
    have e1 : roads.take i = roads.take road ++ (roads.drop road).take (i - road) := by
      have := List.take_append_drop road roads
      conv => lhs; rw [← this]
      rw [List.take_append, List.take_of_length_le (by simp; omega)]
      congr 2
      simp
      omega
    rw [e1, List.drop_eq_getElem_cons hr, getD_lt _ hr]
    obtain ⟨m, hm⟩ : ∃ m, i - road = m + 1 := ⟨i - road - 1, by omega⟩
    rw [hm, List.take_succ_cons]
    congr 3
    omega
  have s1 : ∀ a b, Conn (roads.take road ++ (roads.drop (road + 1)).take (i - 1 - road) ++ [((roads.getD road (0, 0)).1, (roads.getD road (0, 0)).2)]) a b ↔ Conn (roads.take i) a b := fun a b => by
    rw [et]
    exact ⟨fun z => z.mono fun e he => by simp at he ⊢; rcases he with z | z | z <;> simp [z], fun z => z.mono fun e he => by simp at he ⊢; rcases he with z | z | z <;> simp [z]⟩
  rw [s1]
  constructor
  · rintro ⟨_, z⟩; exact ⟨hi, z⟩
  · rintro ⟨_, z⟩; exact ⟨by omega, z⟩
end
end K86

set_option linter.all false
/-! k86: the closed ways of the contracted piece. -/
namespace K86
/-! runs of the same -/
def ddS (t : List Nat) (x : Nat) : List Nat := if t.getLast? = some x then t else t ++ [x]
def dd2 : List Nat → List Nat
  | [] => []
  | [x] => [x]
  | x :: y :: l => if x = y then dd2 (y :: l) else x :: dd2 (y :: l)
theorem ddS_dd2 : ∀ (l : List Nat) (t : List Nat) (x : Nat), l.foldl ddS (t ++ [x]) = t ++ dd2 (x :: l)
  | [], t, x => rfl
  | y :: l, t, x => by
    rw [List.foldl_cons]
    by_cases h : x = y
    · subst h
      have e : ddS (t ++ [x]) x = t ++ [x] := by unfold ddS; rw [if_pos (by simp)]
      rw [e, ddS_dd2 l t x, dd2, if_pos rfl]
    · have e : ddS (t ++ [x]) y = (t ++ [x]) ++ [y] := by unfold ddS; rw [if_neg (by simpa using h)]
      rw [e, ddS_dd2 l (t ++ [x]) y, dd2, if_neg h]
      simp
theorem dd2_nodup : ∀ {l : List Nat}, l.Nodup → dd2 l = l
  | [], _ => rfl
  | [x], _ => rfl
  | x :: y :: l, h => by
    have nd := List.nodup_cons.mp h
    unfold dd2
    rw [if_neg (fun z => nd.1 (by simp [z])), dd2_nodup nd.2]
theorem dd2_rep : ∀ {A B : List Nat} {w : Nat}, (A ++ w :: B).Nodup → dd2 (A ++ w :: w :: B) = A ++ w :: B
  | [], B, w, h => by
    show dd2 (w :: w :: B) = w :: B
    unfold dd2
    rw [if_pos rfl]
    exact dd2_nodup h
  | [x], B, w, h => by
    have nd := List.nodup_cons.mp h
    show dd2 (x :: w :: w :: B) = x :: w :: B
    rw [dd2, if_neg (fun z => nd.1 (by simp [z]))]
    exact congrArg (x :: ·) (dd2_rep (A := []) nd.2)
  | x :: y :: A, B, w, h => by
    have nd := List.nodup_cons.mp h
    show dd2 (x :: y :: (A ++ w :: w :: B)) = x :: y :: (A ++ w :: B)
    rw [dd2, if_neg (fun z => nd.1 (by simp [z]))]
    exact congrArg (x :: ·) (dd2_rep (A := y :: A) nd.2)
/-- the way after, by renamed places -/
def waF (l : List Nat) : List Nat := if 1 < (dd2 l).length ∧ (dd2 l).head? = (dd2 l).getLast? then (dd2 l).dropLast else dd2 l
theorem wayAfter_eq {names : List Nat} {f : Nat → Nat} {x : Nat} {l : List Nat} (h : ∀ p ∈ x :: l, names.getD p 0 = f p) : wayAfter (x :: l) names = waF ((x :: l).map f) := by
  have key : ∀ (l : List Nat) (t : List Nat), (∀ p ∈ l, names.getD p 0 = f p) → l.foldl (waStep names) t = (l.map f).foldl ddS t := by
    intro l
    induction l with
    | nil => intro t _; rfl
    | cons y l ih =>
      intro t hp
      rw [List.foldl_cons, List.map_cons, List.foldl_cons]
      have e : waStep names t y = ddS t (f y) := by
        unfold waStep ddS
        rw [hp y (by simp)]
      rw [e]
      exact ih _ fun p hp' => hp p (by simp [hp'])
  have e : (x :: l).foldl (waStep names) [] = dd2 ((x :: l).map f) := by
    rw [key _ _ h, List.map_cons, List.foldl_cons]
    exact ddS_dd2 (l.map f) [] (f x)
  unfold wayAfter waF
  rw [e]
/-- P the way in the contracted piece, with its end -/
theorem waF_nodup {fa : Nat} {M : List Nat} (h : (M ++ [fa]).Nodup) : waF (fa :: M) = fa :: M := by
  have nd := List.nodup_append.mp h
  have hn : fa ∉ M := fun z => nd.2.2 fa z fa (by simp) rfl
  have nd2 : (fa :: M).Nodup := List.nodup_cons.mpr ⟨hn, nd.1⟩
  unfold waF
  rw [dd2_nodup nd2]
  rw [if_neg]
  rintro ⟨z1, z2⟩
  cases M with
  | nil => simp at z1
  | cons y M =>
    rw [List.getLast?_cons_cons] at z2
    exact hn (List.mem_of_getLast? z2.symm)
theorem waF_mid {fa w : Nat} {A B : List Nat} (h : (A ++ w :: B ++ [fa]).Nodup) : waF (fa :: (A ++ w :: w :: B)) = fa :: (A ++ w :: B) := by
  have nd := List.nodup_append.mp h
  have hn : fa ∉ A ++ w :: B := fun z => nd.2.2 fa z fa (by simp) rfl
  have nd2 : (fa :: (A ++ w :: B)).Nodup := List.nodup_cons.mpr ⟨hn, nd.1⟩
  have e : dd2 (fa :: (A ++ w :: w :: B)) = fa :: (A ++ w :: B) := dd2_rep (A := fa :: A) nd2
  unfold waF
  rw [e, if_neg]
  rintro ⟨z1, z2⟩
  have : (fa :: (A ++ w :: B)).getLast? = (A ++ w :: B).getLast? := by
    cases A with
    | nil => rfl
    | cons x A => rfl
  rw [this] at z2
  exact hn (List.mem_of_getLast? z2.symm)
theorem waF_end {w : Nat} {A : List Nat} (h : (A ++ [w]).Nodup) : waF (w :: (A ++ [w])) = w :: A := by
  have nd := List.nodup_append.mp h
  have hn : w ∉ A := fun z => nd.2.2 w z w (by simp) rfl
  cases A with
  | nil =>
    show waF [w, w] = [w]
    unfold waF
    have e : dd2 [w, w] = [w] := by simp [dd2]
    rw [e, if_neg (by simp)]
  | cons y A =>
    have e : dd2 (w :: (y :: A ++ [w])) = w :: (y :: A ++ [w]) := by
      show dd2 (w :: y :: (A ++ [w])) = _
      rw [dd2, if_neg (fun z => hn (by simp [z]))]
      exact congrArg (w :: ·) (dd2_nodup h)
    unfold waF
    have q : (w :: (y :: A ++ [w])).head? = (w :: (y :: A ++ [w])).getLast? := by
      have : (w :: (y :: A ++ [w])).getLast? = some w := by
        rw [← List.cons_append, List.getLast?_append]
        rfl
      rw [this]
      rfl
    rw [e, if_pos ⟨by simp, q⟩, ← List.cons_append, List.dropLast_concat]
/-! simple ways renamed -/
theorem nodup_map_but {u v : Nat} (huv : u ≠ v) : ∀ {l : List Nat}, l.Nodup → ¬ (u ∈ l ∧ v ∈ l) → (l.map (nmF u v)).Nodup
  | [], _, _ => by simp
  | x :: l, h, hn => by
    have nd := List.nodup_cons.mp h
    rw [List.map_cons, List.nodup_cons]
    refine ⟨fun z => ?_, nodup_map_but huv nd.2 fun z => hn ⟨by simp [z.1], by simp [z.2]⟩⟩
    obtain ⟨y, hy, e⟩ := List.mem_map.mp z
    rcases nmF_inj huv e with q | ⟨q1, q2⟩ | ⟨q1, q2⟩
    · exact nd.1 (q ▸ hy)
    · exact hn ⟨by rw [← q1]; simp [hy], by rw [← q2]; simp⟩
    · exact hn ⟨by rw [← q2]; simp, by rw [← q1]; simp [hy]⟩
theorem pth_map {es fs : List (Nat × Nat)} {f : Nat → Nat} (hf : ∀ x y, Adj es x y → f x ≠ f y → Adj fs (f x) (f y)) : ∀ {l : List Nat}, Pth es l → (l.map f).Nodup → Pth fs (l.map f)
  | [], _, _ => trivial
  | [_], _, _ => trivial
  | x :: y :: l, h, nd => by
    have nd' := List.nodup_cons.mp nd
    refine ⟨hf x y h.1 (fun z => nd'.1 (by rw [z]; simp)), pth_map hf (l := y :: l) h.2 nd'.2⟩
theorem pth_join {es : List (Nat × Nat)} : ∀ {A B : List Nat} {w : Nat}, Pth es (A ++ [w]) → Pth es (w :: B) → Pth es (A ++ w :: B)
  | [], _, _, _, h => h
  | [x], B, w, h1, h2 => ⟨h1.1, h2⟩
  | x :: y :: A, B, w, h1, h2 => ⟨h1.1, pth_join (A := y :: A) h1.2 h2⟩
/-- both on a simple way: next to each other -/
theorem next_to {es : List (Nat × Nat)} (F : Forest es) {u v : Nat} (huv : u ≠ v) (e : Adj es u v) {l : List Nat} (h : Pth es l) (nd : l.Nodup) (hu : u ∈ l) (hv : v ∈ l) : ∃ A B x y, l = A ++ x :: y :: B ∧ ((x = u ∧ y = v) ∨ (x = v ∧ y = u)) := by
  have key : ∀ {a b : Nat} {A C B : List Nat}, a ≠ b → Adj es a b → l = A ++ a :: (C ++ b :: B) → C = [] := by
    intro a b A C B hab eab el
    subst el
    have h1 : Pth es (a :: (C ++ b :: B)) := Pth.right h
    have h2 : Pth es (a :: C ++ [b]) := by
      have : a :: (C ++ b :: B) = (a :: C ++ [b]) ++ B := by simp
      rw [this] at h1
      exact Pth.left h1
    have n1 : (a :: (C ++ b :: B)).Nodup := (List.nodup_append.mp nd).2.1
    have n2 : (a :: C ++ [b]).Nodup := by
      have : a :: (C ++ b :: B) = (a :: C ++ [b]) ++ B := by simp
      rw [this] at n1
      exact (List.nodup_append.mp n1).1
    have := pth_uniq F (l := a :: C ++ [b]) (m := [a, b]) (a := a) (b := b) h2 ⟨eab, trivial⟩ n2 (by simp [hab]) rfl rfl (show ((a :: C) ++ [b]).getLast? = some b by rw [List.getLast?_append]; rfl) rfl
    have hl := congrArg List.length this
    simp at hl
    exact hl
  obtain ⟨A, B, el⟩ := List.append_of_mem hu
  have hv' : v ∈ A ++ u :: B := el ▸ hv
  rcases List.mem_append.mp hv' with z | z
  · obtain ⟨A1, A2, ea⟩ := List.append_of_mem z
    have el2 : l = A1 ++ v :: (A2 ++ u :: B) := by rw [el, ea]; simp
    have := key (Ne.symm huv) e.symm el2
    subst this
    exact ⟨A1, B, v, u, el2, .inr ⟨rfl, rfl⟩⟩
  · rcases List.mem_cons.mp z with z | z
    · exact absurd z.symm huv
    · obtain ⟨B1, B2, eb⟩ := List.append_of_mem z
      have el2 : l = A ++ u :: (B1 ++ v :: B2) := by rw [el, eb]
      have := key huv e el2
      subst this
      exact ⟨A, B2, u, v, el2, .inl ⟨rfl, rfl⟩⟩
/-- THE WAY RENAMED: M the way from b to a without a, in the forest es; the renamed way is the one way of fs -/
theorem one_way {es fs : List (Nat × Nat)} (F : Forest es) (Fq : Forest fs) {u v a b : Nat} {M N : List Nat} (huv : u ≠ v) (e : Adj es u v) (hf : ∀ x y, Adj es x y → nmF u v x ≠ nmF u v y → Adj fs (nmF u v x) (nmF u v y))
    (h : Pth es (M ++ [a])) (nd : (M ++ [a]).Nodup) (hd : (M ++ [a]).head? = some b) (h' : Pth fs (N ++ [nmF u v a])) (nd' : (N ++ [nmF u v a]).Nodup) (hd' : (N ++ [nmF u v a]).head? = some (nmF u v b)) :
    waF ((a :: M).map (nmF u v)) = nmF u v a :: N := by
  have last : ∀ {l : List Nat} {c : Nat}, (l ++ [c]).getLast? = some c := fun {l c} => by simp [List.getLast?_append]
  by_cases both : u ∈ M ++ [a] ∧ v ∈ M ++ [a]
  · obtain ⟨A, B, x, y, el, exy⟩ := next_to F huv e h nd both.1 both.2
    have fxy : nmF u v x = nmF u v y := by
      rcases exy with ⟨rfl, rfl⟩ | ⟨rfl, rfl⟩
      · exact nmF_uv _ _
      · exact (nmF_uv _ _).symm
    -- without y
    have nl : (A ++ x :: y :: B).Nodup := el ▸ nd
    have nxB : (A ++ x :: B).Nodup := nl.sublist (List.Sublist.append (List.Sublist.refl _) (List.Sublist.cons_cons _ (List.sublist_cons_self _ _)))
    have yn : y ∉ A ++ x :: B := by
      rw [List.nodup_append] at nl
      intro z
      rcases List.mem_append.mp z with z | z
      · exact nl.2.2 y z y (by simp) rfl
      · have n2 := List.nodup_cons.mp nl.2.1
        have n3 := List.nodup_cons.mp n2.2
        rcases List.mem_cons.mp z with z | z
        · exact n2.1 (by simp [z])
        · exact n3.1 z
    have nb : ¬ (u ∈ A ++ x :: B ∧ v ∈ A ++ x :: B) := by
      rcases exy with ⟨rfl, rfl⟩ | ⟨rfl, rfl⟩
      · exact fun z => yn z.2
      · exact fun z => yn z.1
    have nP := nodup_map_but huv nxB nb
    have eP : (A ++ x :: B).map (nmF u v) = A.map (nmF u v) ++ nmF u v x :: B.map (nmF u v) := by simp
    rw [eP] at nP
    have hl : Pth es (A ++ x :: y :: B) := el ▸ h
    have p1 : Pth es (A ++ [x]) := by
      have : A ++ x :: y :: B = (A ++ [x]) ++ (y :: B) := by simp
      rw [this] at hl
      exact Pth.left hl
    have p2 : Pth es (y :: B) := Pth.tail (Pth.right hl)
    have nq := List.nodup_append.mp nP
    have pP : Pth fs (A.map (nmF u v) ++ nmF u v x :: B.map (nmF u v)) := by
      refine pth_join ?_ ?_
      · have := pth_map hf p1 (by
          rw [List.map_append]
          have : A.map (nmF u v) ++ nmF u v x :: B.map (nmF u v) = (A.map (nmF u v) ++ [nmF u v x]) ++ B.map (nmF u v) := by simp
          rw [this] at nP
          exact (List.nodup_append.mp nP).1)
        rw [List.map_append] at this
        exact this
      · rw [fxy]
        exact pth_map hf p2 (by rw [List.map_cons, ← fxy]; exact nq.2.1)
    have hP : (A.map (nmF u v) ++ nmF u v x :: B.map (nmF u v)).head? = some (nmF u v b) := by
      rw [el] at hd
      cases A with
      | nil => simp at hd; simp [hd]
      | cons z A => simp at hd; simp [hd]
    rcases List.eq_nil_or_concat B with z | ⟨B1, z, zB⟩
    · -- the two end the way
      subst z
      have e2 : M ++ [a] = (A ++ [x]) ++ [y] := by rw [el]; simp
      have := List.append_inj' e2 rfl
      have ea : a = y := by simpa using this.2
      subst ea
      rw [this.1]
      have eN := pth_uniq Fq pP h' nP nd' hP hd' last (by rw [fxy]; exact last)
      have eN2 : A.map (nmF u v) ++ [nmF u v x] = N ++ [nmF u v a] := by simpa using eN
      have eN3 := (List.append_inj' eN2 rfl).1
      rw [← eN3, List.map_cons, List.map_append, ← fxy]
      exact waF_end (by simpa using nP)
    · subst zB
      rw [List.concat_eq_append] at *
      have e2 : M ++ [a] = (A ++ x :: y :: B1) ++ [z] := by rw [el]; simp
      have := List.append_inj' e2 rfl
      have ea : a = z := by simpa using this.2
      subst ea
      rw [this.1]
      have q1 : A.map (nmF u v) ++ nmF u v x :: (B1 ++ [a]).map (nmF u v) = (A.map (nmF u v) ++ nmF u v x :: B1.map (nmF u v)) ++ [nmF u v a] := by simp
      rw [q1] at pP nP hP
      have eN := pth_uniq Fq pP h' nP nd' hP hd' last last
      have eN3 := (List.append_inj' eN rfl).1
      rw [← eN3]
      have q2 : (a :: (A ++ x :: y :: B1)).map (nmF u v) = nmF u v a :: (A.map (nmF u v) ++ nmF u v x :: nmF u v x :: B1.map (nmF u v)) := by simp [fxy]
      rw [q2]
      exact waF_mid nP
  · have nP := nodup_map_but huv nd both
    have pP := pth_map hf h nP
    rw [List.map_append] at nP pP
    have hP : (M.map (nmF u v) ++ [nmF u v a]).head? = some (nmF u v b) := by
      cases M with
      | nil => simp at hd; simp [hd]
      | cons z M => simp at hd; simp [hd]
    have eN := pth_uniq Fq pP h' nP nd' hP hd' last last
    have eN3 := (List.append_inj' eN rfl).1
    rw [← eN3, List.map_cons]
    exact waF_nodup nP
end K86

set_option linter.all false
/-! k86: pieces: what stays good, the closed ways. -/
namespace K86
theorem treeOf_rin {size : Nat} {roads : List (Nat × Nat)} {t : List Nat} (hr : RIn size roads) (ht : ∀ i ∈ t, i < roads.length) : RIn size (treeOf roads t) := fun r h => by
  obtain ⟨i, hi, rfl⟩ := List.mem_map.mp h
  rw [getD_lt _ (ht i hi)]
  exact hr _ (List.getElem_mem _)
theorem Piece.Ok.joined {p : Piece} {many : Nat} (o : p.Ok many) : ∀ a b, a < p.size → b < p.size → Conn p.roads a b := (conn_iff o.roads o.pos).mp o.conn
theorem kr_lt {roads : List (Nat × Nat)} {i : Nat} (h : i ∈ kr roads) : i < roads.length := (mem_kr.mp h).1
theorem Piece.Ok.tree {p : Piece} {many : Nat} (o : p.Ok many) : RIn p.size (treeOf p.roads (kr p.roads)) ∧ Forest (treeOf p.roads (kr p.roads)) ∧ ∀ a b, a < p.size → b < p.size → Conn (treeOf p.roads (kr p.roads)) a b :=
  ⟨treeOf_rin o.roads fun i h => kr_lt h, (tree_ok p.roads).1, fun a b ha hb => ((tree_ok p.roads).2 a b).mpr (o.joined a b ha hb)⟩
theorem jr_lt {size : Nat} {roads : List (Nat × Nat)} {i : Nat} (h : i ∈ jr size roads) : i < roads.length := jr_lt' h
theorem gr_lt {size : Nat} {roads : List (Nat × Nat)} {i : Nat} (h : i ∈ gr size roads) : i < roads.length := gr_lt' h
theorem jr_reach {p : Piece} {many : Nat} (h : p.Ok many) {r : Nat × Nat} (hr : r.1 < p.size ∧ r.2 < p.size) : reach (nextP p.size (treeOf p.roads (jr p.size p.roads)) r.1) r.1 p.size r.2 := by
  rw [jr_eq h.roads]
  exact (nextP_way h.tree.1 hr.1 (h.tree.2.2 _ _ hr.1 hr.2)).reach
theorem gr_reach {p : Piece} {many : Nat} (h : p.Ok many) {r : Nat × Nat} (hr : r.1 < p.size ∧ r.2 < p.size) : reach (wbRun (treeOf p.roads (gr p.size p.roads)) p.size 0 (List.replicate p.size none, [r.1])).1 r.1 p.size r.2 := by
  rw [gr_eq h.roads]
  exact (wb_way h.tree.1 hr.1 (h.tree.2.2 _ _ hr.1 hr.2)).1.reach
theorem small_ok {p : Piece} {many : Nat} (h : p.Ok many) : (small p).Ok many := by
  have hr : RIn 1 (small p).roads := fun r hr => by
    have := List.eq_of_mem_replicate (show r ∈ List.replicate _ _ from hr)
    subst this
    exact ⟨by decide, by decide⟩
  have h1 := h.rl
  refine ⟨by show 0 < 1; decide, by show 1 ≤ 12; decide, ?_, ?_, hr, fun g hg => ?_, ?_⟩
  · show (List.replicate _ _).length ≤ 20
    rw [List.length_replicate]; omega
  · show (List.map _ p.gates).length ≤ 8
    rw [List.length_map]; exact h.gl
  · obtain ⟨g', hg', rfl⟩ := List.mem_map.mp (show g ∈ List.map _ p.gates from hg)
    exact ⟨by show 0 < 1; decide, (h.gates g' hg').2⟩
  · refine (conn_iff hr (by decide)).mpr fun a b ha hb => ?_
    have : a = b := by have : a < 1 := ha; have : b < 1 := hb; omega
    rw [this]
    exact .refl _
theorem nmF_less {size a b p : Nat} (ha : a < size) (hb : b < size) (hne : a ≠ b) (hp : p < size) : nmF a b p < size - 1 := by
  unfold nmF
  split
  · omega
  · split <;> omega
theorem nmF_from {size a b c : Nat} (hb : max a b < size) (hc : c < size - 1) : ∃ p, p < size ∧ nmF a b p = c := by
  by_cases h : c < max a b
  · refine ⟨c, by omega, ?_⟩
    unfold nmF
    rw [if_neg (by omega), if_neg (by omega)]
  · refine ⟨c + 1, by omega, ?_⟩
    unfold nmF
    rw [if_neg (by omega), if_pos (by omega)]
    omega
theorem sq_ok {p : Piece} {many road : Nat} (h : p.Ok many) (hr : road < p.roads.length) (hne : (p.roads.getD road (0, 0)).1 ≠ (p.roads.getD road (0, 0)).2) : (sq p road).Ok many := by
  have hb := h.roads (p.roads.getD road (0, 0)) (by rw [getD_lt _ hr]; exact List.getElem_mem _)
  have h1 := h.rl
  have h2 := h.sz
  have e : (sq p road).roads = sqR p.roads road := rfl
  have hin : RIn (p.size - 1) (sqR p.roads road) := fun r hm => by
    obtain ⟨q, hq, rfl⟩ := List.mem_map.mp hm
    have hq' : q ∈ p.roads := by
      rcases List.mem_append.mp hq with z | z
      · exact List.mem_of_mem_take z
      · exact List.mem_of_mem_drop z
    have := h.roads q hq'
    exact ⟨nmF_less hb.1 hb.2 hne this.1, nmF_less hb.1 hb.2 hne this.2⟩
  refine ⟨by show 0 < p.size - 1; omega, by show p.size - 1 ≤ 12; omega, by rw [e, sqR_len hr]; omega, ?_, hin, fun g hg => ?_, ?_⟩
  · show (List.map _ p.gates).length ≤ 8
    rw [List.length_map]; exact h.gl
  · obtain ⟨g', hg', rfl⟩ := List.mem_map.mp (show g ∈ List.map _ p.gates from hg)
    have := h.gates g' hg'
    exact ⟨nmF_less hb.1 hb.2 hne this.1, this.2⟩
  · refine (conn_iff hin (by show 0 < p.size - 1; omega)).mpr fun a b ha hbb => ?_
    obtain ⟨a', ha', rfl⟩ := nmF_from (a := (p.roads.getD road (0, 0)).1) (b := (p.roads.getD road (0, 0)).2) (by omega) ha
    obtain ⟨b', hb', rfl⟩ := nmF_from (a := (p.roads.getD road (0, 0)).1) (b := (p.roads.getD road (0, 0)).2) (by omega) hbb
    show Conn (sqR p.roads road) _ _
    unfold sqR
    rw [conn_map hne]
    refine (h.joined a' b' ha' hb').mono fun e he => ?_
    have : p.roads = p.roads.take road ++ p.roads[road] :: p.roads.drop (road + 1) := by rw [← List.drop_eq_getElem_cons hr, List.take_append_drop]
    rw [this] at he
    rw [getD_lt _ hr]
    simp only [List.mem_append, List.mem_cons, List.mem_singleton] at he ⊢
    rcases he with z | z | z
    · exact .inl (.inl z)
    · exact .inr (.inl z)
    · exact .inl (.inr z)
theorem closedL_lt {q : Piece} {many : Nat} (h : q.Ok many) : ∀ w ∈ closedL q, ∀ x ∈ w, x < q.size := by
  intro w hw x hx
  unfold closedL at hw
  obtain ⟨i, hi, rfl⟩ := List.mem_map.mp hw
  have hil : i < q.roads.length := by
    have := (List.mem_filter.mp hi).1
    simpa using this
  have hb := h.roads (q.roads.getD i (0, 0)) (by rw [getD_lt _ hil]; exact List.getElem_mem _)
  rcases List.mem_cons.mp hx with z | z
  · rw [z]; exact hb.1
  · have z2 := (List.dropLast_sublist _).subset z
    unfold wayBack at z2
    rw [gr_eq h.roads] at z2
    have W := wb_way h.tree.1 hb.1 (h.tree.2.2 _ _ hb.1 hb.2)
    rw [wbWay_follow W.1.reach] at z2
    exact W.2 x z2
theorem range_split (a b : Nat) : List.range (a + b) = List.range a ++ (List.range b).map (a + ·) := by
  apply List.ext_getElem
  · simp
  · intro i h1 h2
    simp only [List.getElem_range, List.getElem_append]
    split
    · simp
    · rename_i z
      simp at z
      simp
      omega
/-- one closed way of the contracted piece -/
theorem way_one {q : Piece} {many road : Nat} (h : q.Ok many) (hk : road ∈ kr q.roads) (hne : (q.roads.getD road (0, 0)).1 ≠ (q.roads.getD road (0, 0)).2) {r : Nat × Nat} (hr : r.1 < q.size ∧ r.2 < q.size) :
    cway (q.size - 1) (treeOf (sqR q.roads road) (kr (sqR q.roads road))) (ff (q.roads.getD road (0, 0)).1 (q.roads.getD road (0, 0)).2 r) =
      wayAfter (r.1 :: (wayBack q.size (treeOf q.roads (kr q.roads)) r.1 r.2).dropLast) (nms q.size (q.roads.getD road (0, 0))) := by
  have hrl := kr_lt hk
  have hb := h.roads (q.roads.getD road (0, 0)) (by rw [getD_lt _ hrl]; exact List.getElem_mem _)
  have o2 := sq_ok h hrl hne
  have W := wb_way h.tree.1 hr.1 (h.tree.2.2 _ _ hr.1 hr.2)
  have fa := nmF_less hb.1 hb.2 hne hr.1
  have fb := nmF_less hb.1 hb.2 hne hr.2
  have T2 : RIn (q.size - 1) (treeOf (sqR q.roads road) (kr (sqR q.roads road))) ∧ Forest (treeOf (sqR q.roads road) (kr (sqR q.roads road))) ∧ ∀ a b, a < q.size - 1 → b < q.size - 1 → Conn (treeOf (sqR q.roads road) (kr (sqR q.roads road))) a b := o2.tree
  have V := nextP_way T2.1 fa (T2.2.2 _ _ fa fb)
  have euv : Adj (treeOf q.roads (kr q.roads)) (q.roads.getD road (0, 0)).1 (q.roads.getD road (0, 0)).2 := .inl (List.mem_map.mpr ⟨road, hk, rfl⟩)
  generalize hU : (q.roads.getD road (0, 0)).1 = u at *
  generalize hV : (q.roads.getD road (0, 0)).2 = v at *
  have hf1 : ∀ x y, (x, y) ∈ treeOf q.roads (kr q.roads) → nmF u v x ≠ nmF u v y → (nmF u v x, nmF u v y) ∈ treeOf (sqR q.roads road) (kr (sqR q.roads road)) := by
    intro x y hxy hn
    obtain ⟨i, hi, ei⟩ := List.mem_map.mp hxy
    have hil := kr_lt hi
    have hir : i ≠ road := fun z => by
      subst z
      have e1 : u = x := by rw [← hU, ei]
      have e2 : v = y := by rw [← hV, ei]
      subst e1; subst e2
      exact hn (nmF_uv u v)
    rcases Nat.lt_or_gt_of_ne hir with z | z
    · refine List.mem_map.mpr ⟨i, (kr1 hk (by rw [hU, hV]; exact hne) z).mpr hi, ?_⟩
      rw [sqR_get1 hrl z, ei, hU, hV]
      rfl
    · refine List.mem_map.mpr ⟨i - 1, (kr2 hk (by rw [hU, hV]; exact hne) z hil).mpr hi, ?_⟩
      rw [sqR_get2 hrl z hil, ei, hU, hV]
      rfl
  have hf : ∀ x y, Adj (treeOf q.roads (kr q.roads)) x y → nmF u v x ≠ nmF u v y → Adj (treeOf (sqR q.roads road) (kr (sqR q.roads road))) (nmF u v x) (nmF u v y) := fun x y e hn => by
    rcases e with e | e
    · exact .inl (hf1 x y e hn)
    · exact .inr (hf1 y x e (Ne.symm hn))
  have key := one_way h.tree.2.1 T2.2.1 hne euv hf W.1.pth W.1.nd W.1.hd V.pth V.nd V.hd
  have ew : wayBack q.size (treeOf q.roads (kr q.roads)) r.1 r.2 = follow (wbRun (treeOf q.roads (kr q.roads)) q.size 0 (List.replicate q.size none, [r.1])).1 r.1 q.size r.2 ++ [r.1] := by
    unfold wayBack
    exact wbWay_follow W.1.reach
  rw [ew, List.dropLast_concat, wayAfter_eq (f := nmF u v), key]
  · rfl
  · intro p hp
    have hps : p < q.size := by
      rcases List.mem_cons.mp hp with z | z
      · rw [z]; exact hr.1
      · exact W.2 p (List.mem_append_left _ z)
    simp [nms, List.getD, hps]
    rw [← hU, ← hV]
    simp [List.getD]
theorem ways_ok {q : Piece} {many road : Nat} (h : q.Ok many) (hr : road < q.roads.length) (hne : (q.roads.getD road (0, 0)).1 ≠ (q.roads.getD road (0, 0)).2) (hm : road ∈ gr q.size q.roads) : cways (sq q road) = (closedL q).map fun w => wayAfter w (nms q.size (q.roads.getD road (0, 0))) := by
  rw [gr_eq h.roads] at hm
  have o2 := sq_ok h hr hne
  have hin2 : RIn (q.size - 1) (sqR q.roads road) := o2.roads
  have hb : ∀ i, i < q.roads.length → (q.roads.getD i (0, 0)).1 < q.size ∧ (q.roads.getD i (0, 0)).2 < q.size := fun i hi => h.roads _ (by rw [getD_lt _ hi]; exact List.getElem_mem _)
  have e1 : cways (sq q road) = ((List.range (sqR q.roads road).length).filter fun i => decide (i ∉ kr (sqR q.roads road))).map fun i => cway (q.size - 1) (treeOf (sqR q.roads road) (kr (sqR q.roads road))) ((sqR q.roads road).getD i (0, 0)) := by
    show ((sqR q.roads road).zipIdx.filter fun r => decide (r.2 ∉ jr (q.size - 1) (sqR q.roads road))).map (fun r => cway (q.size - 1) (treeOf (sqR q.roads road) (jr (q.size - 1) (sqR q.roads road))) r.1) = _
    rw [jr_eq hin2, zip_range (0, 0) (sqR q.roads road), List.filter_map, List.map_map]
    rfl
  rw [e1]
  unfold closedL
  rw [gr_eq h.roads, List.map_map, sqR_len hr]
  obtain ⟨m, hm2⟩ : ∃ m, q.roads.length = road + (1 + m) := ⟨q.roads.length - road - 1, by omega⟩
  rw [hm2, show road + (1 + m) - 1 = road + m from by omega, range_split road m, range_split road (1 + m), range_split 1 m]
  simp only [List.map_append, List.filter_append, List.map_map, List.filter_map]
  have z0 : (List.range 1).filter ((fun i => decide (i ∉ kr q.roads)) ∘ fun x => road + x) = [] := by
    simp [List.range_succ, hm]
  rw [z0, List.map_nil, List.nil_append]
  congr 1
  · have ef : (List.range road).filter (fun i => decide (i ∉ kr (sqR q.roads road))) = (List.range road).filter fun i => decide (i ∉ kr q.roads) := by
      apply List.filter_congr
      intro i hi
      have hi' : i < road := by simpa using hi
      exact decide_eq_decide.mpr (not_congr (kr1 hm hne hi'))
    rw [ef]
    apply List.map_congr_left
    intro i hi
    have hi' : i < road := by have := (List.mem_filter.mp hi).1; simpa using this
    show cway _ _ _ = wayAfter _ _
    rw [sqR_get1 hr hi']
    exact way_one h hm hne (hb i (by omega))
  · have ef : (List.range m).filter ((fun i => decide (i ∉ kr (sqR q.roads road))) ∘ fun x => road + x) = (List.range m).filter (((fun i => decide (i ∉ kr q.roads)) ∘ fun x => road + x) ∘ fun x => 1 + x) := by
      apply List.filter_congr
      intro i hi
      have hi' : i < m := by simpa using hi
      have := kr2 (i := road + (1 + i)) hm hne (by omega) (by omega)
      rw [show road + (1 + i) - 1 = road + i from by omega] at this
      exact decide_eq_decide.mpr (not_congr this)
    rw [ef]
    apply List.map_congr_left
    intro i hi
    have hi' : i < m := by have := (List.mem_filter.mp hi).1; simpa using this
    show cway _ _ ((sqR q.roads road).getD (road + i) (0, 0)) = wayAfter ((q.roads.getD (road + (1 + i)) (0, 0)).1 :: _) _
    have := sqR_get2 (i := road + (1 + i)) hr (by omega) (by omega)
    rw [show road + (1 + i) - 1 = road + i from by omega] at this
    rw [this]
    exact way_one h hm hne (hb _ (by omega))
end K86

set_option linter.all false
/-! k86: pieces put. -/
namespace K86
def putP (ps : List Piece) (k : Nat) (q : Piece) : List Piece := ps.take k ++ [q] ++ ps.drop (k + 1)
theorem Ok.small {ps : List Piece} (h : Ok ps) : Ok (ps.map small) := ⟨by rw [List.length_map]; exact h.len, fun p hp => by
  obtain ⟨q, hq, rfl⟩ := List.mem_map.mp hp
  rw [List.length_map]
  exact small_ok (h.ok q hq)⟩
theorem putP_length {ps : List Piece} {k : Nat} {q : Piece} (hk : k < ps.length) : (putP ps k q).length = ps.length := by simp [putP]; omega
theorem Ok.put {ps : List Piece} {k : Nat} {q : Piece} (h : Ok ps) (hk : k < ps.length) (hq : q.Ok ps.length) : Ok (putP ps k q) := ⟨by rw [putP_length hk]; exact h.len, fun p hp => by
  rw [putP_length hk]
  unfold putP at hp
  simp only [List.mem_append, List.mem_singleton] at hp
  rcases hp with (hp | hp) | hp
  · exact h.ok p (List.mem_of_mem_take hp)
  · subst hp; exact hq
  · exact h.ok p (List.mem_of_mem_drop hp)⟩
end K86

set_option linter.all false
/-! k86: what the law draws, in plain Lean. -/
namespace K86
def seedL (ns : List Int) : Int := ns.foldl (fun s c => (s * 31 + c % 1000003) % 1000003) 17
def cellL (ns : List Int) (k : Nat) : Int := if k < ns.length then ns.getD k 0 else ((seedL ns + 7) * ((k : Int) + 3) * 69621) % 2147483647
def dgSeed (seed : Int) (k : Nat) : Int := (seed * 48271 + 974711 * (k : Int) + 12345) % 2147483647
def dgTwice (seed : Int) : Int := (seed * (seed / 65537 + 3)) % 2147483629
/-- row, seed, rest -/
def dgStep (sizes : List Nat) (s : List Nat × Int × Int) (k : Nat) : List Nat × Int × Int :=
  let seed := dgSeed s.2.1 k
  if 0 < s.2.2 then (s.1 ++ [(s.2.2 % (sizes.getD k 0 : Int)).toNat], seed, s.2.2 / (sizes.getD k 0 : Int)) else (s.1 ++ [(dgTwice seed / 19 % (sizes.getD k 0 : Int)).toNat], seed, s.2.2)
def digs (c : Int) (sizes : List Nat) : List Nat := ((List.range sizes.length).foldl (dgStep sizes) ([], c % 2147483629, max 0 (c - 10 ^ 18))).1
def sizesL : List Nat := [24, 42, 17] ++ (List.replicate 12 27720 ++ (List.replicate 11 [27720, 27720]).flatten) ++ (List.replicate 20 [4, 27720, 27720, 27720]).flatten ++ (List.replicate 8 [27720, 8, 27720]).flatten
def gkF (way digit k many : Nat) : Nat := if way < 2 then digit % many else if way < 5 then k else if way = 5 then min (many - 1) (k + 1) else k + digit % (many - k)
def insAt {α : Type} (l : List α) (i : Nat) (x : α) : List α := l.take i ++ [x] ++ l.drop i
def pcSize (row : List Nat) : Nat := if 11 < row.getD 0 0 then 2 + row.getD 0 0 % 5 else 1 + row.getD 0 0
def pcOrder (row : List Nat) (size : Nat) : List Nat := (List.range size).foldl (fun o p => insAt o (row.getD (3 + p) 0 % (p + 1)) p) []
def pcRoad1 (row order : List Nat) (j : Nat) : Nat × Nat :=
  if row.getD (16 + 2 * j) 0 % 2 = 1 then (order.getD (row.getD (15 + 2 * j) 0 % (j + 1)) 0, order.getD (j + 1) 0) else (order.getD (j + 1) 0, order.getD (row.getD (15 + 2 * j) 0 % (j + 1)) 0)
def pcRoads1 (row order : List Nat) (size : Nat) : List (Nat × Nat) := (List.range (size - 1)).foldl (fun rs j => insAt rs (row.getD (16 + 2 * j) 0 / 2 % (rs.length + 1)) (pcRoad1 row order j)) []
def pcMore (row : List Nat) : Nat := if 20 < row.getD 1 0 then row.getD 1 0 % 4 else row.getD 1 0
def pcPair (row : List Nat) (size : Nat) (rs : List (Nat × Nat)) (i : Nat) : Nat × Nat :=
  let p0 := (row.getD (38 + 4 * i) 0 % size, row.getD (39 + 4 * i) 0 % size)
  let p1 := if row.getD (37 + 4 * i) 0 = 1 then (p0.1, p0.1) else p0
  let p2 := if 1 < row.getD (37 + 4 * i) 0 ∧ 0 < rs.length then rs.getD (row.getD (39 + 4 * i) 0 % rs.length) (0, 0) else p1
  if row.getD (37 + 4 * i) 0 = 3 then (p2.2, p2.1) else p2
def pcRoads (row : List Nat) (size : Nat) (rs1 : List (Nat × Nat)) : List (Nat × Nat) := (List.range (min (pcMore row) (20 - rs1.length))).foldl (fun rs i => insAt rs (row.getD (40 + 4 * i) 0 % (rs.length + 1)) (pcPair row size rs i)) rs1
def pcCount (row : List Nat) : Nat := if 8 < row.getD 2 0 then 1 + row.getD 2 0 % 3 else row.getD 2 0
def pcGates (row : List Nat) (size k many : Nat) : List (Nat × Nat) := (List.range (pcCount row)).map fun i => (row.getD (117 + 3 * i) 0 % size, gkF (row.getD (118 + 3 * i) 0) (row.getD (119 + 3 * i) 0) k many)
def pieceL (row : List Nat) (k many : Nat) : Piece := ⟨pcSize row, pcRoads row (pcSize row) (pcRoads1 row (pcOrder row (pcSize row)) (pcSize row)), pcGates row (pcSize row) k many⟩
def piecesL (ns : List Int) (at_ many : Nat) : List Piece := (List.range many).map fun k => pieceL (digs (cellL ns (at_ + k)) sizesL) k many
theorem dgStep_len (sizes : List Nat) (s : List Nat × Int × Int) (k : Nat) : (dgStep sizes s k).1.length = s.1.length + 1 := by
  unfold dgStep
  dsimp only
  split <;> simp
theorem digs_run (c : Int) (sizes : List Nat) (h : ∀ s ∈ sizes, 0 < s) (z : List Nat × Int × Int) (z0 : z.1 = []) : ∀ n, n ≤ sizes.length → ((List.range n).foldl (dgStep sizes) z).1.length = n ∧ ∀ i, i < n → ((List.range n).foldl (dgStep sizes) z).1.getD i 0 < sizes.getD i 0 := by
  intro n
  induction n with
  | zero => intro _; exact ⟨by simp [z0], fun i hi => by omega⟩
  | succ n ih =>
    intro hn
    obtain ⟨h1, h2⟩ := ih (by omega)
    rw [List.range_succ, List.foldl_append, List.foldl_cons, List.foldl_nil]
    generalize (List.range n).foldl (dgStep sizes) z = s at h1 h2
    have hs := h (sizes.getD n 0) (by
      have : sizes.getD n 0 = sizes[n] := by simp [List.getD, (show n < sizes.length by omega)]
      rw [this]; exact List.getElem_mem _)
    have hd : ∃ d, d < sizes.getD n 0 ∧ (dgStep sizes s n).1 = s.1 ++ [d] := by
      have hb : ∀ x : Int, (x % (sizes.getD n 0 : Int)).toNat < sizes.getD n 0 := fun x => by
        have h1 := Int.emod_nonneg x (show (sizes.getD n 0 : Int) ≠ 0 by omega)
        have h2 := Int.emod_lt_of_pos x (show (0 : Int) < (sizes.getD n 0 : Int) by omega)
        omega
      unfold dgStep
      dsimp only
      split
      · exact ⟨_, hb _, rfl⟩
      · exact ⟨_, hb _, rfl⟩
    obtain ⟨d, hd1, hd2⟩ := hd
    rw [hd2]
    refine ⟨by simp [h1], fun i hi => ?_⟩
    by_cases e : i < n
    · have : (s.1 ++ [d]).getD i 0 = s.1.getD i 0 := by simp [List.getD, List.getElem?_append_left (show i < s.1.length by omega)]
      rw [this]
      exact h2 i e
    · have : i = n := by omega
      subst this
      have : (s.1 ++ [d]).getD i 0 = d := by
        rw [List.getD, List.getElem?_append_right (by omega), h1]
        simp
      rw [this]
      exact hd1
theorem digs_len (c : Int) (sizes : List Nat) : (digs c sizes).length = sizes.length := by
  unfold digs
  have key : ∀ (n : Nat) (z : List Nat × Int × Int), ((List.range n).foldl (dgStep sizes) z).1.length = z.1.length + n := by
    intro n
    induction n with
    | zero => intro z; rfl
    | succ n ih =>
      intro z
      rw [List.range_succ, List.foldl_append, List.foldl_cons, List.foldl_nil, dgStep_len, ih]
      omega
  rw [key]
  simp
theorem digs_lt (c : Int) {sizes : List Nat} (h : ∀ s ∈ sizes, 0 < s) {i : Nat} (hi : i < sizes.length) : (digs c sizes).getD i 0 < sizes.getD i 0 := (digs_run c sizes h _ rfl sizes.length (Nat.le_refl _)).2 i hi
end K86

set_option linter.all false
set_option maxRecDepth 100000
/-! k86: the drawn pieces are good. -/
namespace K86
theorem mem_ins {α : Type} {l : List α} {i : Nat} {x y : α} : x ∈ insAt l i y ↔ x = y ∨ x ∈ l := by
  unfold insAt
  have : ∀ z, z ∈ l ↔ z ∈ l.take i ∨ z ∈ l.drop i := fun z => by
    conv => lhs; rw [← List.take_append_drop i l]
    exact List.mem_append
  rw [this x]
  simp only [List.mem_append, List.mem_singleton]
  constructor
  · rintro ((h | h) | h)
    · exact .inr (.inl h)
    · exact .inl h
    · exact .inr (.inr h)
  · rintro (h | h | h)
    · exact .inl (.inr h)
    · exact .inl (.inl h)
    · exact .inr h
theorem len_ins {α : Type} (l : List α) (i : Nat) (x : α) : (insAt l i x).length = l.length + 1 := by
  simp only [insAt, List.length_append, List.length_take, List.length_drop, List.length_cons, List.length_nil]; omega
theorem order_ok (row : List Nat) : ∀ n, (pcOrder row n).length = n ∧ ∀ x, x ∈ pcOrder row n ↔ x < n := by
  intro n
  unfold pcOrder
  induction n with
  | zero => exact ⟨rfl, fun x => by simp⟩
  | succ n ih =>
    rw [List.range_succ, List.foldl_append, List.foldl_cons, List.foldl_nil]
    refine ⟨by rw [len_ins, ih.1], fun x => ?_⟩
    rw [mem_ins, ih.2]
    omega
theorem roads1_mem (row order : List Nat) (n : Nat) : (pcRoads1 row order n).length = n - 1 ∧ ∀ r, r ∈ pcRoads1 row order n ↔ ∃ j, j < n - 1 ∧ r = pcRoad1 row order j := by
  unfold pcRoads1
  generalize n - 1 = m
  induction m with
  | zero => exact ⟨rfl, fun r => by simp⟩
  | succ m ih =>
    rw [List.range_succ, List.foldl_append, List.foldl_cons, List.foldl_nil]
    refine ⟨by rw [len_ins, ih.1], fun r => ?_⟩
    rw [mem_ins, ih.2]
    constructor
    · rintro (h | ⟨j, hj, h⟩)
      · exact ⟨m, by omega, h⟩
      · exact ⟨j, by omega, h⟩
    · rintro ⟨j, hj, h⟩
      by_cases e : j = m
      · subst e; exact .inl h
      · exact .inr ⟨j, by omega, h⟩
theorem road1_ends (row order : List Nat) (j : Nat) : pcRoad1 row order j = (order.getD (row.getD (15 + 2 * j) 0 % (j + 1)) 0, order.getD (j + 1) 0) ∨ pcRoad1 row order j = (order.getD (j + 1) 0, order.getD (row.getD (15 + 2 * j) 0 % (j + 1)) 0) := by
  unfold pcRoad1
  split
  · exact .inl rfl
  · exact .inr rfl
theorem roads1_ok (row : List Nat) (size : Nat) : RIn size (pcRoads1 row (pcOrder row size) size) ∧ ∀ a b, a < size → b < size → Conn (pcRoads1 row (pcOrder row size) size) a b := by
  obtain ⟨ol, om⟩ := order_ok row size
  obtain ⟨rl, rm⟩ := roads1_mem row (pcOrder row size) size
  generalize hord : pcOrder row size = order at *
  have og : ∀ i, i < size → order.getD i 0 < size := fun i hi => by
    rw [← om, getD_lt _ (by omega)]
    exact List.getElem_mem _
  refine ⟨fun r hr => ?_, fun a b ha hb => ?_⟩
  · obtain ⟨j, hj, e⟩ := (rm r).mp hr
    have hm := Nat.mod_lt (row.getD (15 + 2 * j) 0) (show 0 < j + 1 by omega)
    have h1 := og (row.getD (15 + 2 * j) 0 % (j + 1)) (by omega)
    have h2 := og (j + 1) (by omega)
    rcases road1_ends row order j with z | z
    · rw [e, z]; exact ⟨h1, h2⟩
    · rw [e, z]; exact ⟨h2, h1⟩
  · have key : ∀ i, i < size → Conn (pcRoads1 row order size) (order.getD i 0) (order.getD 0 0) := by
      intro i
      induction i using Nat.strongRecOn with
      | ind i ih =>
        intro hi
        cases i with
        | zero => exact .refl _
        | succ j =>
          have hm := Nat.mod_lt (row.getD (15 + 2 * j) 0) (show 0 < j + 1 by omega)
          have hk := ih (row.getD (15 + 2 * j) 0 % (j + 1)) (by omega) (by omega)
          refine .step ?_ hk
          have hr := (rm _).mpr ⟨j, by omega, rfl⟩
          rcases road1_ends row order j with z | z
          · exact .inr (z ▸ hr)
          · exact .inl (z ▸ hr)
    have at_ : ∀ x, x < size → ∃ i, i < size ∧ order.getD i 0 = x := fun x hx => by
      obtain ⟨i, hi, e⟩ := List.getElem_of_mem ((om x).mpr hx)
      exact ⟨i, by omega, by rw [getD_lt _ hi, e]⟩
    obtain ⟨i, hi, rfl⟩ := at_ a ha
    obtain ⟨j, hj, rfl⟩ := at_ b hb
    exact (key i hi).trans (key j hj).symm
theorem pair_in {row : List Nat} {size : Nat} (hs : 0 < size) {rs : List (Nat × Nat)} (h : RIn size rs) (i : Nat) : (pcPair row size rs i).1 < size ∧ (pcPair row size rs i).2 < size := by
  have m1 := Nat.mod_lt (row.getD (38 + 4 * i) 0) hs
  have m2 := Nat.mod_lt (row.getD (39 + 4 * i) 0) hs
  have hp : ∀ p : Nat × Nat, p.1 < size ∧ p.2 < size → ∀ c : Prop, ∀ [Decidable c], (if c then (p.2, p.1) else p).1 < size ∧ (if c then (p.2, p.1) else p).2 < size := fun p hp c _ => by
    split
    · exact ⟨hp.2, hp.1⟩
    · exact hp
  unfold pcPair
  dsimp only
  refine hp _ ?_ _
  split
  · rename_i z
    have hm := Nat.mod_lt (row.getD (39 + 4 * i) 0) z.2
    rw [getD_lt _ hm]
    exact h _ (List.getElem_mem _)
  · split
    · exact ⟨m1, m1⟩
    · exact ⟨m1, m2⟩
theorem roads_ok (row : List Nat) {size : Nat} (hs : 0 < size) {rs1 : List (Nat × Nat)} (h : RIn size rs1) : (pcRoads row size rs1).length = rs1.length + min (pcMore row) (20 - rs1.length) ∧ RIn size (pcRoads row size rs1) ∧ ∀ r ∈ rs1, r ∈ pcRoads row size rs1 := by
  unfold pcRoads
  generalize min (pcMore row) (20 - rs1.length) = m
  induction m with
  | zero => exact ⟨rfl, h, fun r hr => hr⟩
  | succ m ih =>
    rw [List.range_succ, List.foldl_append, List.foldl_cons, List.foldl_nil]
    generalize (List.range m).foldl (fun rs i => insAt rs (row.getD (40 + 4 * i) 0 % (rs.length + 1)) (pcPair row size rs i)) rs1 = rs at ih
    obtain ⟨i1, i2, i3⟩ := ih
    refine ⟨by rw [len_ins, i1]; omega, fun r hr => ?_, fun r hr => mem_ins.mpr (.inr (i3 r hr))⟩
    rcases mem_ins.mp hr with z | z
    · rw [z]; exact pair_in hs i2 m
    · exact i2 r z
theorem gk_lt {way digit k many : Nat} (h : k < many) : gkF way digit k many < many := by
  unfold gkF
  have h1 := Nat.mod_lt digit (show 0 < many by omega)
  have h2 := Nat.mod_lt digit (show 0 < many - k by omega)
  split
  · exact h1
  · split
    · exact h
    · split <;> omega
theorem pieceL_ok {row : List Nat} {k many : Nat} (h0 : row.getD 0 0 < 24) (h1 : row.getD 1 0 < 42) (h2 : row.getD 2 0 < 17) (hk : k < many) : (pieceL row k many).Ok many := by
  have hs : 0 < pcSize row ∧ pcSize row ≤ 12 := by unfold pcSize; split <;> omega
  have hm : pcMore row ≤ 20 := by unfold pcMore; split <;> omega
  have hc : pcCount row ≤ 8 := by unfold pcCount; split <;> omega
  obtain ⟨a1, a2⟩ := roads1_ok row (pcSize row)
  have al := (roads1_mem row (pcOrder row (pcSize row)) (pcSize row)).1
  obtain ⟨b1, b2, b3⟩ := roads_ok row hs.1 a1
  have er : (pieceL row k many).roads = pcRoads row (pcSize row) (pcRoads1 row (pcOrder row (pcSize row)) (pcSize row)) := rfl
  refine ⟨hs.1, hs.2, by rw [er, b1, al]; omega, ?_, b2, fun g hg => ?_, ?_⟩
  · show (List.map _ (List.range (pcCount row))).length ≤ 8
    simpa using hc
  · obtain ⟨i, hi, rfl⟩ := List.mem_map.mp (show g ∈ List.map _ (List.range (pcCount row)) from hg)
    exact ⟨Nat.mod_lt _ hs.1, gk_lt hk⟩
  · exact (conn_iff b2 hs.1).mpr fun a b ha hb => (a2 a b ha hb).mono b3
theorem piecesL_ok (ns : List Int) (a : Nat) {many : Nat} (h : many ≤ 20) : Ok (piecesL ns a many) := by
  have hl : (piecesL ns a many).length = many := by simp [piecesL]
  refine ⟨by rw [hl]; exact h, fun p hp => ?_⟩
  rw [hl]
  obtain ⟨k, hk, rfl⟩ := List.mem_map.mp (show p ∈ List.map _ (List.range many) from hp)
  have hk' : k < many := by simpa using hk
  have hpos : ∀ s ∈ sizesL, 0 < s := by decide
  exact pieceL_ok (digs_lt _ hpos (i := 0) (by decide)) (digs_lt _ hpos (i := 1) (by decide)) (digs_lt _ hpos (i := 2) (by decide)) hk'
end K86

set_option linter.all false
/-! k86: lengths. -/
namespace K86
theorem gr_len (size : Nat) (roads : List (Nat × Nat)) : (gr size roads).length ≤ roads.length := by
  unfold gr
  have key : ∀ (xs : List Nat) (s : List Nat × List Nat), (xs.foldl (grStep roads) s).2.length ≤ s.2.length + xs.length := by
    intro xs
    induction xs with
    | nil => intro s; simp
    | cons x xs ih =>
      intro s
      have h := ih (grStep roads s x)
      have h2 : (grStep roads s x).2.length ≤ s.2.length + 1 := by
        unfold grStep
        dsimp only
        split <;> simp
      simp only [List.foldl_cons, List.length_cons]
      omega
  have := key (List.range roads.length) (List.range size, [])
  simpa using this
theorem wbWay_len (ahead : List (Option Nat)) (one : Nat) : ∀ n two, (wbWay ahead one n two).length ≤ n + 1
  | 0, _ => Nat.le_refl _
  | n + 1, two => by
    unfold wbWay
    split
    · simp
    · have := wbWay_len ahead one n ((ahead.getD two none).getD 0)
      rw [List.length_cons]; omega
end K86
namespace K86
end K86

set_option linter.all false
/-! k86: a row of points; the net's pieces put. -/
namespace K86
def rds (q : Piece) : List Nat := (List.range q.roads.length).filter fun i => decide ((q.roads.getD i (0, 0)).1 = (q.roads.getD i (0, 0)).2)
def oths (q : Piece) : List Nat := (List.range q.roads.length).filter fun i => !decide ((q.roads.getD i (0, 0)).1 = (q.roads.getD i (0, 0)).2)
theorem mem_rds {q : Piece} {i : Nat} (h : i ∈ rds q) : i < q.roads.length ∧ (q.roads.getD i (0, 0)).1 = (q.roads.getD i (0, 0)).2 := by
  simpa [rds] using h
theorem mem_oths {q : Piece} {i : Nat} (h : i ∈ oths q) : i < q.roads.length ∧ (q.roads.getD i (0, 0)).1 ≠ (q.roads.getD i (0, 0)).2 := by
  simpa [oths] using h
theorem putP_get {ps : List Piece} {k : Nat} {q : Piece} (hk : k < ps.length) : (putP ps k q).getD k default = q := by
  have h1 : (ps.take k).length = k := by simp; omega
  unfold putP
  rw [List.append_assoc, List.getD, List.getElem?_append_right (by omega), h1]
  simp
theorem putP_put {ps : List Piece} {k : Nat} {q q' : Piece} (hk : k < ps.length) : putP (putP ps k q) k q' = putP ps k q' := by
  have h1 : (ps.take k).length = k := by simp; omega
  unfold putP
  congr 1
  · congr 1
    rw [List.append_assoc, List.take_append_of_le_length (by omega), List.take_of_length_le (by omega)]
  · rw [List.append_assoc, List.drop_append, h1, List.drop_of_length_le (by omega)]
    simp
theorem putP_self {ps : List Piece} {k : Nat} (hk : k < ps.length) : putP ps k (ps.getD k default) = ps := by
  unfold putP
  have : ps.getD k default = ps[k] := by simp [List.getD, hk]
  rw [this, List.append_assoc]
  have h2 : [ps[k]] ++ ps.drop (k + 1) = ps.drop k := by rw [List.drop_eq_getElem_cons hk]; rfl
  rw [h2, List.take_append_drop]
theorem small_sq {q : Piece} {many road : Nat} (o : q.Ok many) (hr : road < q.roads.length) (hne : (q.roads.getD road (0, 0)).1 ≠ (q.roads.getD road (0, 0)).2) : small (sq q road) = small q := by
  have hb := o.roads (q.roads.getD road (0, 0)) (by simp [List.getD, hr])
  unfold small sq
  simp only [List.length_map, List.length_append, List.length_take, List.length_drop, List.map_map]
  have e : min road q.roads.length + (q.roads.length - (road + 1)) - (q.size - 1 - 1) = q.roads.length - (q.size - 1) := by omega
  rw [e]
  rfl
theorem jr_loops {size : Nat} {roads : List (Nat × Nat)} (h : ∀ r ∈ roads, r.1 = r.2) : jr size roads = [] := by
  unfold jr jrS
  have key : ∀ (rs : List ((Nat × Nat) × Nat)) (s : List Nat × List Nat), (∀ r ∈ rs, r.1.1 = r.1.2) → rs.foldl jrStep s = s := by
    intro rs
    induction rs with
    | nil => intro s _; rfl
    | cons r rs ih =>
      intro s hr
      have e : jrStep s r = s := by
        unfold jrStep
        rw [hr r (by simp), if_neg (by simp)]
      rw [List.foldl_cons, e]
      exact ih s fun x hx => hr x (by simp [hx])
  rw [key _ _ fun r hr => ?_]
  obtain ⟨r1, n⟩ := r
  exact h r1 (List.mem_of_getElem? (List.mem_zipIdx_iff_getElem?.mp hr))
theorem oths_nil {q : Piece} {many : Nat} (o : q.Ok many) (h : oths q = []) : small q = q := by
  have hl : ∀ r ∈ q.roads, r.1 = r.2 := fun r hr => by
    obtain ⟨i, hi, e⟩ := List.getElem_of_mem hr
    have : q.roads.getD i (0, 0) = r := by simp [List.getD, hi, e]
    rw [← this]
    by_cases z : (q.roads.getD i (0, 0)).1 = (q.roads.getD i (0, 0)).2
    · exact z
    · have : i ∈ oths q := by
        unfold oths
        rw [List.mem_filter]
        exact ⟨by simpa using hi, by rw [decide_eq_false z]; rfl⟩
      rw [h] at this
      cases this
  have hc := o.conn
  rw [jr_loops hl] at hc
  have hp := o.pos
  have hs : q.size = 1 := by simp at hc; omega
  obtain ⟨size, roads, gates⟩ := q
  simp only at hs
  subst hs
  unfold small
  simp only [Nat.sub_self, Nat.sub_zero]
  congr 1
  · apply Eq.symm
    rw [List.eq_replicate_iff]
    refine ⟨rfl, fun r hr => ?_⟩
    have := o.roads r hr
    simp only at this
    exact Prod.ext (by omega) (by omega)
  · apply List.ext_getElem
    · simp
    · intro i h1 h2
      have := o.gates gates[i] (List.getElem_mem h2)
      simp only [List.getElem_map]
      exact Prod.ext (by simp only at this ⊢; omega) rfl
end K86

set_option linter.all false
/-! k86: the law's own. -/
namespace K86
def lawMany (f : List Nat) : Nat := if f.getD 0 0 = 0 then 1 + f.getD 1 0 else 1 + f.getD 1 0 % 3
def ptsStep (a n : Nat) (s : List Piece) (i : Nat) : List Piece := putP s ((a + i) % n) (small (s.getD ((a + i) % n) default))
def ptsL (a : Nat) (ps : List Piece) (pre : List Nat) : List Piece := pre.foldl (ptsStep a ps.length) ps
theorem ptsL_ok {a : Nat} {ps : List Piece} (ok : Ok ps) (hpos : 0 < ps.length) : ∀ pre, Ok (ptsL a ps pre) ∧ (ptsL a ps pre).length = ps.length := by
  have key : ∀ (pre : List Nat) (s : List Piece), Ok s → s.length = ps.length → Ok (pre.foldl (ptsStep a ps.length) s) ∧ (pre.foldl (ptsStep a ps.length) s).length = ps.length := by
    intro pre
    induction pre with
    | nil => intro s h1 h2; exact ⟨h1, h2⟩
    | cons i pre ih =>
      intro s h1 h2
      have hk : (a + i) % ps.length < s.length := by rw [h2]; exact Nat.mod_lt _ hpos
      have hq : (small (s.getD ((a + i) % ps.length) default)).Ok s.length := small_ok (h1.ok _ (by
        have : s.getD ((a + i) % ps.length) default = s[(a + i) % ps.length] := by simp [List.getD, hk]
        rw [this]
        exact List.getElem_mem hk))
      exact ih _ (h1.put hk hq) ((putP_length hk).trans h2)
  exact fun pre => key pre ps ok rfl
theorem ptsL_all {a : Nat} {ps : List Piece} (hpos : 0 < ps.length) (h : ps.length < 4) : ptsL a ps (List.range (min 3 ps.length)) = ps.map small := by
  unfold ptsL
  match ps, hpos, h with
  | [p], _, _ =>
    simp [ptsStep, putP, Nat.mod_one]
  | [p, q], _, _ =>
    have h2 : a % 2 = 0 ∨ a % 2 = 1 := by omega
    rcases h2 with h2 | h2
    · have e0 : (a + 0) % 2 = 0 := by omega
      have e1 : (a + 1) % 2 = 1 := by omega
      show [0, 1].foldl (ptsStep a 2) [p, q] = _
      simp [ptsStep, e1, h2, putP]
    · have e1 : (a + 1) % 2 = 0 := by omega
      show [0, 1].foldl (ptsStep a 2) [p, q] = _
      simp [ptsStep, e1, h2, putP]
  | [p, q, r], _, _ =>
    have h3 : a % 3 = 0 ∨ a % 3 = 1 ∨ a % 3 = 2 := by omega
    rcases h3 with h3 | h3 | h3
    · have e1 : (a + 1) % 3 = 1 := by omega
      have e2 : (a + 2) % 3 = 2 := by omega
      show [0, 1, 2].foldl (ptsStep a 3) [p, q, r] = _
      simp [ptsStep, e1, e2, h3, putP]
    · have e1 : (a + 1) % 3 = 2 := by omega
      have e2 : (a + 2) % 3 = 0 := by omega
      show [0, 1, 2].foldl (ptsStep a 3) [p, q, r] = _
      simp [ptsStep, e1, e2, h3, putP]
    · have e1 : (a + 1) % 3 = 0 := by omega
      have e2 : (a + 2) % 3 = 1 := by omega
      show [0, 1, 2].foldl (ptsStep a 3) [p, q, r] = _
      simp [ptsStep, e1, e2, h3, putP]
  | _ :: _ :: _ :: _ :: _, _, h => simp at h; omega
theorem piecesL_len (ns : List Int) (a many : Nat) : (piecesL ns a many).length = many := by simp [piecesL]
end K86

set_option linter.all false
set_option maxRecDepth 100000
set_option maxHeartbeats 4000000
/-! k86: the text by places, the data, short words. -/
namespace K86
open PySem L2 ML
def top (i : Nat) : Stmt := PySem.Challenge.pw_endsalike_k86_contracted_roads.main.body.getD i (.Pass ⟨0, 0, 0, 0⟩)
/-- built-in names that the module does not bind -/
structure Bi (mg : Str → Option Value) : Prop where
  len : mg "len" = none
  range : mg "range" = none
  list : mg "list" = none
  tuple : mg "tuple" = none
  int : mg "int" = none
  bool : mg "bool" = none
  min : mg "min" = none
  max : mg "max" = none
  isi : mg "isinstance" = none
  enum : mg "enumerate" = none
/-- a def of the module -/
def Dn (K : PySem.W.Frag) (mg : Str → Option Value) (x : Str) (st : Stmt) : Prop := ∃ f fd, Fun K x x st f fd ∧ mg x = some (.ref f)
section
variable {P : Program} {w : World} {K : PySem.W.Frag} {mg : Str → Option Value} {base : Heap}
abbrev XK86 (P : Program) (w : World) (K : PySem.W.Frag) (mg : Str → Option Value) (base : Heap) (N : List Str) (qual : Str) (st : Stmt) (f : Addr) (cdv : Value) (A : Around) (outer : List Env) (s : Shared) (H : Hp) (E : XK) : Cx := CXf P w K mg base N qual st f cdv A outer s H E
/-- a promise told by a function -/
def fsp {α : Type} (enc : α → List D) (pre : α → Prop) (f : α → D) : List D → D → Prop := fun ds d => ∃ a, ds = enc a ∧ pre a ∧ d = f a
theorem kn_mk {α : Type} {enc : α → List D} {pre : α → Prop} {r : α → D} {x : Str} {st : Stmt} {N ps : List Str} (k : Nat) (D : Dn K mg x st) (S : FnScope N ps (defScope st)) (hlen : ∀ a, (enc a).length = ps.length) (hN : ps.length ≤ N.length)
    (hb : ∀ (kV doc pm : Value) (an : Option Addr) (cdv ct : Value) (us : List Value), us.length = ps.length → bindArgs (PySem.W.fnOf x x (defArgs st) (defBody st) (defScope st) .none kV doc pm an cdv ct) ⟨us, []⟩ = pure (ps.zip us))
    (h : ∀ (f : Addr) (cdv : Value) (A : Around) (outer : List Env) (s : Shared) (H : Hp) (E : XK), Room k (CXf P w K mg base N x st f cdv A outer s H E).A → ∀ a, pre a →
      Sd (CXf P w K mg base N x st f cdv A outer s H E) (startM N.length (enc a)) (defBody st) { nx := fun _ => r a = .non, rt := fun d' => d' = r a }) : Kn P w K mg base (k + 1) x (fsp enc pre r) := by
  obtain ⟨f, fd, F, hm⟩ := D
  refine ⟨⟨f, fd, ps, fn_pure F S (fun ds d ⟨a, e, _⟩ => by rw [e]; exact hlen a) hN (fun cdv A outer s H E hr ds d ⟨a, e, ha, ed⟩ => ?_), hm, F.kp, F.binds hb⟩⟩
  subst e ed
  exact h f cdv A outer s H E hr a ha
/-- a call of such a def -/
theorem evd_f {X : Cx} {M : List Slot} {e : Expr} {es : List Expr} {pos p : Pos} {α : Type} {enc : α → List D} {pre : α → Prop} {r : α → D} {k : Nat} {x : Str} (h : Kn X.prog X.w X.K X.mg X.base k x (fsp enc pre r)) (hr : Room k X.A) (a : α) (ha : EvA X M (e :: es) (enc a)) (hp : pre a) (hg : Gl X x := by rfl) (hdb : (x == ("__debug__" : Str)) = false := by decide)
    (he : starEach (e :: es) X.env = (false, eval e X.env) :: starEach es X.env := by rfl) (hpl : (backTo pos (starEach es X.env)).any (·.1) = false := by rfl) : EvD X M (.Call (.Name x p) (e :: es) [] pos) (r a) := evd_fn h hr ha ⟨a, rfl, hp, rfl⟩ hg hdb he hpl
/-- the same, the place coming from the goal: within a comprehension -/
theorem evd_fB {X : Cx} {M : List Slot} {e : Expr} {es : List Expr} {pos p : Pos} {α : Type} {enc : α → List D} {pre : α → Prop} {r : α → D} {k : Nat} {x : Str} {d : D} (h : Kn X.prog X.w X.K X.mg X.base k x (fsp enc pre r)) (hr : Room k X.A) (a : α) (ha : EvA X M (e :: es) (enc a)) (hp : pre a) (hd : d = r a) (hg : Gl X x) (hdb : (x == ("__debug__" : Str)) = false)
    (he : starEach (e :: es) X.env = (false, eval e X.env) :: starEach es X.env) (hpl : (backTo pos (starEach es X.env)).any (·.1) = false) : EvD X M (.Call (.Name x p) (e :: es) [] pos) d := evd_fn h hr ha ⟨a, rfl, hp, hd⟩ hg hdb he hpl
theorem Kn.mono {j k : Nat} {x : Str} {spec : List D → D → Prop} (h : Kn P w K mg base j x spec) (l : j ≤ k) : Kn P w K mg base k x spec := by
  obtain ⟨f, fd, ps, F, a, b, c⟩ := h.ex
  exact ⟨⟨f, fd, ps, F.mono l, a, b, c⟩⟩
end
/-! data -/
abbrev nD (n : Nat) : D := .int (n : Int)
abbrev rD (p : Nat × Nat) : D := .tup [nD p.1, nD p.2]
def pD (p : Piece) : D := .tup [nD p.size, .tup (p.roads.map rD), .tup (p.gates.map rD)]
def psD (ps : List Piece) : D := .tup (ps.map pD)
def oD : Option Nat → D
  | none => .non
  | some n => nD n
theorem at_map {α : Type} {enc : α → D} {xs : List α} {k : Nat} (h : k < xs.length) : atI (xs.map enc) (k : Int) = some (enc xs[k]) := by
  refine atI_nat ?_
  rw [List.getElem?_map, List.getElem?_eq_getElem h]
  rfl
theorem at_mapD {α : Type} {enc : α → D} {xs : List α} {k : Nat} (d : α) (h : k < xs.length) : atI (xs.map enc) (k : Int) = some (enc (xs.getD k d)) := by
  rw [at_map h]
  simp [List.getD, h]
theorem at_i {α : Type} {xs : List α} {i : Int} {k : Nat} {x : α} (e : i = (k : Int)) (h : atI xs (k : Int) = some x) : atI xs i = some x := e ▸ h
theorem noL_nats : ∀ ns : List Nat, noLAll (ns.map nD) = true
  | [] => rfl
  | n :: ns => by show (true && noLAll (ns.map nD)) = true; rw [noL_nats ns]; rfl
theorem noL_map {α : Type} {enc : α → D} (h : ∀ a, noL (enc a) = true) : ∀ xs : List α, noLAll (xs.map enc) = true
  | [] => rfl
  | n :: ns => by show (noL (enc n) && noLAll (ns.map enc)) = true; rw [noL_map h ns, h n]; rfl
theorem noL_rD (p : Nat × Nat) : noL (rD p) = true := rfl
theorem enumD_map {α : Type} {enc : α → D} (xs : List α) : enumD (xs.map enc) = xs.zipIdx.map fun p => .tup [nD p.2, enc p.1] := by
  apply List.ext_getElem?
  intro i
  rw [List.getElem?_map, List.getElem?_zipIdx]
  by_cases h : i < xs.length
  · have hl : i < (enumD (xs.map enc)).length := by rw [enumD_len, List.length_map]; exact h
    obtain ⟨x, hx, he⟩ := enumD_get (List.getElem?_eq_getElem hl)
    rw [List.getElem?_eq_getElem hl, he, List.getElem?_eq_getElem h]
    rw [List.getElem?_map, List.getElem?_eq_getElem h] at hx
    cases hx
    simp
  · rw [List.getElem?_eq_none (by rw [enumD_len, List.length_map]; omega), List.getElem?_eq_none (by omega)]
    rfl
section
variable {X : Cx} {M : List Slot} {e a b c tg : Expr} {es : List Expr} {pos p : Pos}
theorem src_enumTm {α : Type} {enc : α → D} {xs : List α} {elts : List Expr} {kk : Nat} {tpos : Pos} (h : EvD X M e (.tup (xs.map enc))) (hm : X.mg "enumerate" = none) (hg : Gl X "enumerate" := by rfl) (hs : starEach [e] X.env = [(false, eval e X.env)] := by rfl) :
    SrcD X M (.Tuple elts kk tpos) (.Call (.Name "enumerate" p) [e] [] pos) (xs.zipIdx.map fun p => .tup [nD p.2, enc p.1]) := by
  rw [← enumD_map]
  exact src_enumT h hm hg hs
/-- a target (a, b), one behind the other -/
theorem tg_two {es1 es2 : Expr} {d1 d2 : D} {M1 M2 : List Slot} {js ks : List Nat} {k : Nat} (hc : X.calm = true) (h1 : TgD X M es1 d1 M1 js) (h2 : TgD X M1 es2 d2 M2 ks) (hs1 : (assignEach [es1, es2] X.env).map (·.2) = assign es1 X.env :: (assignEach [es2] X.env).map (·.2) := by rfl) (hs2 : (assignEach [es2] X.env).map (·.2) = assign es2 X.env :: (assignEach [] X.env).map (·.2) := by rfl)
    (hn : (assignEach [es1, es2] X.env).length = 2 := by rfl) (hst : (assignEach [es1, es2] X.env).findIdx? (·.1) = none := by rfl) : TgD X M (.Tuple [es1, es2] k pos) (.tup [d1, d2]) M2 (js ++ (ks ++ [])) :=
  tg_tup hc (tgs_cons h1 (tgs_cons h2 tgs_nil hs2) hs1) rfl hn hst
theorem tg_three {es1 es2 es3 : Expr} {d1 d2 d3 : D} {M1 M2 M3 : List Slot} {js ks ls : List Nat} {k : Nat} (hc : X.calm = true) (h1 : TgD X M es1 d1 M1 js) (h2 : TgD X M1 es2 d2 M2 ks) (h3 : TgD X M2 es3 d3 M3 ls) (hs1 : (assignEach [es1, es2, es3] X.env).map (·.2) = assign es1 X.env :: (assignEach [es2, es3] X.env).map (·.2) := by rfl)
    (hs2 : (assignEach [es2, es3] X.env).map (·.2) = assign es2 X.env :: (assignEach [es3] X.env).map (·.2) := by rfl) (hs3 : (assignEach [es3] X.env).map (·.2) = assign es3 X.env :: (assignEach [] X.env).map (·.2) := by rfl)
    (hn : (assignEach [es1, es2, es3] X.env).length = 3 := by rfl) (hst : (assignEach [es1, es2, es3] X.env).findIdx? (·.1) = none := by rfl) : TgD X M (.Tuple [es1, es2, es3] k pos) (.tup [d1, d2, d3]) M3 (js ++ (ks ++ (ls ++ []))) :=
  tg_tup hc (tgs_cons h1 (tgs_cons h2 (tgs_cons h3 tgs_nil hs3) hs2) hs1) rfl hn hst
end
end K86

set_option linter.all false
set_option maxRecDepth 100000
set_option maxHeartbeats 4000000
/-! k86: merged, joining_roads, is_below, is_piece. -/
namespace K86
open PySem L2 ML
section
variable {P : Program} {w : World} {K : PySem.W.Frag} {mg : Str → Option Value} {base : Heap}
abbrev nWhole : List Str := ["value"]
theorem scWhole : FnScope nWhole ["value"] (defScope (top 2)) := ⟨rfl, rfl, rfl, by decide +kernel, rfl, by decide +kernel, by decide +kernel⟩
theorem ty_int {K : PySem.W.Frag} {i : Int} : TyD K (.int i) (.type "int") := .b trivial
theorem kit_ii {K : PySem.W.Frag} : PySem.W.kitOne K (.type "int") (.type "int") = some true := kit_ty (by decide +kernel)
theorem kit_ib {K : PySem.W.Frag} : PySem.W.kitOne K (.type "int") (.type "bool") = some false := kit_ty (by decide +kernel)
abbrev whSp : List D → D → Prop := fsp (fun i : Int => [.int i]) (fun _ => True) fun _ => .bl true
theorem kn_whole (D0 : Dn K mg "is_whole" (top 2)) (B : Bi mg) : Kn P w K mg base 1 "is_whole" whSp :=
  kn_mk (N := nWhole) (ps := ["value"]) 0 D0 scWhole (fun _ => rfl) (by decide) (fun _ _ _ _ _ _ us hl => match us, hl with | [_], _ => rfl) fun f cdv A outer s H E hr i _ => by
    refine sd_ret (d := .bl (true && (!false))) (evd_and (evd_isi (vv 0 rfl) ty_int kit_ii B.isi B.int (by decide +kernel)) fun _ => evd_and1 (evd_not (evd_isi (vv 0 rfl) ty_int kit_ib B.isi B.bool (by decide +kernel)))) rfl
abbrev nMerged : List Str := ["groups", "one", "two", "low", "high", "least"]
theorem scMerged : FnScope nMerged ["groups", "one", "two"] (defScope (top 10)) := ⟨rfl, rfl, rfl, by decide +kernel, rfl, by decide +kernel, by decide +kernel⟩
theorem natMax (a b : Nat) : max (a : Int) (b : Int) = ((max a b : Nat) : Int) := by omega
theorem natMin (a b : Nat) : min (a : Int) (b : Int) = ((min a b : Nat) : Int) := by omega
abbrev mergedSp : List D → D → Prop := fsp (fun (g : List Nat × Nat × Nat) => [.lst (g.1.map nD), nD g.2.1, nD g.2.2]) (fun g => g.2.1 < g.1.length ∧ g.2.2 < g.1.length ∧ g.1.length ≤ 1000) fun g => .lst ((mergeN g.1 g.2.1 g.2.2).map nD)
theorem kn_merged (D0 : Dn K mg "merged" (top 10)) (B : Bi mg) : Kn P w K mg base 1 "merged" mergedSp :=
  kn_mk (N := nMerged) (ps := ["groups", "one", "two"]) 0 D0 scMerged (fun _ => rfl) (by decide) (fun _ _ _ _ _ _ us hl => match us, hl with | [_, _, _], _ => rfl) fun f cdv A outer s H E hr ⟨g, a, b⟩ ⟨ha, hb, hl⟩ => by
    simp only at ha hb hl
    show Sd _ [.d (.lst (g.map nD)), .d (nD a), .d (nD b), .no, .no, .no] _ _
    refine sd_set 3 (evd_bi (eva_cons (evd_ixL (vv 0 rfl) (vv 1 rfl) (at_mapD 0 ha)) (eva_cons (evd_ixL (vv 0 rfl) (vv 2 rfl) (at_mapD 0 hb)) eva_nil)) (c_min2 rfl) B.min (by decide +kernel)) scMerged.nd ?_
    refine sd_set 4 (evd_bi (eva_cons (evd_ixL (vv 0 rfl) (vv 1 rfl) (at_mapD 0 ha)) (eva_cons (evd_ixL (vv 0 rfl) (vv 2 rfl) (at_mapD 0 hb)) eva_nil)) (c_max2 rfl) B.max (by decide +kernel)) scMerged.nd ?_
    rw [natMin, natMax]
    refine sd_ret (evo_map [("least", 5)] nD g (fun q => nD (if q = max (g.getD a 0) (g.getD b 0) then min (g.getD a 0) (g.getD b 0) else q)) _ [5]
      (src_lst (vv 0 rfl)) rfl scMerged.nd (blkOk_by (N := nMerged) (sc := defScope (top 10)) (by decide +kernel)) (by decide) (fun _ _ _ _ _ d hd => tg_name 5 scMerged.nd) (fun _ _ _ _ _ d hd => ?_) (by omega)).toD ?_
    · refine evd_if (evt_cmp (vv 5 rfl) (vv 4 rfl) o_eq) (fun h => ?_) (fun h => ?_)
      · rw [if_pos (by have := of_decide_eq_true h; omega)]; exact vv 3 rfl
      · rw [if_neg (by have := of_decide_eq_false h; omega)]; exact vv 5 rfl
    · simp [mergeN, Function.comp_def]
abbrev nJoin : List Str := ["places", "roads", "groups", "taken", "number", "one", "two"]
theorem scJoin : FnScope nJoin ["places", "roads"] (defScope (top 11)) := ⟨rfl, rfl, rfl, by decide +kernel, rfl, by decide +kernel, by decide +kernel⟩
abbrev joinSp : List D → D → Prop := fsp (fun (g : Nat × List (Nat × Nat)) => [nD g.1, .tup (g.2.map rD)]) (fun g => g.1 ≤ 1000 ∧ g.2.length ≤ 1000 ∧ RIn g.1 g.2) fun g => .tup ((jr g.1 g.2).map nD)
theorem kn_join (D0 : Dn K mg "joining_roads" (top 11)) (B : Bi mg) (hm : Kn P w K mg base 1 "merged" mergedSp) : Kn P w K mg base 2 "joining_roads" joinSp :=
  kn_mk (N := nJoin) (ps := ["places", "roads"]) 1 D0 scJoin (fun _ => rfl) (by decide) (fun _ _ _ _ _ _ us hl => match us, hl with | [_, _], _ => rfl) fun f cdv A outer s H E hr ⟨size, roads⟩ ⟨h1, h2, h3⟩ => by
    simp only at h1 h2 h3
    show Sd _ [.d (nD size), .d (.tup (roads.map rD)), .no, .no, .no, .no, .no] _ _
    refine sd_set 2 (evo_listRg (vv 0 rfl) (by omega) rfl B.list B.range).toD scJoin.nd ?_
    rw [Int.toNat_natCast]
    refine sd_setO 3 (evo_lst eva_nil) scJoin.nd ?_
    refine sd_for (α := (Nat × Nat) × Nat) (S := List Nat × List Nat) (enc := fun p => .tup [nD p.2, rD p.1]) (xs := roads.zipIdx) (fun pre s => s = pre.foldl jrStep (List.range size, []) ∧ s.1.length = size ∧ s.2.length ≤ pre.length)
      (fun s => [.d (nD size), .d (.tup (roads.map rD)), .d (.lst (s.1.map nD)), .o (s.2.map nD), .no, .no, .no])
      (fun s x => [.d (nD size), .d (.tup (roads.map rD)), .d (.lst (s.1.map nD)), .o (s.2.map nD), .d (nD x.2), .d (nD x.1.1), .d (nD x.1.2)]) (js := fun _ _ => [4, 5, 6]) (fun _ => False)
      (src_enumTm (vv 1 rfl) B.enum) rfl (List.range size, []) ⟨rfl, by simp, by simp⟩ ?_ ?_ ?_ ?_ (fun _ h => h.elim)
    · exact .eq rfl (.eq rfl (.eq rfl (.eq rfl (.no (.no (.no .nil))))))
    · rintro pre x post s e ⟨-, -, -⟩
      exact tg_two rfl (tg_name 4 scJoin.nd) (tg_two rfl (tg_name 5 scJoin.nd) (tg_name 6 scJoin.nd))
    · rintro pre ⟨⟨one, two⟩, i⟩ post ⟨g, t⟩ e ⟨es, hg, ht⟩
      simp only at hg ht
      have hx : ((one, two), i) ∈ roads.zipIdx := by rw [e]; simp
      have hr1 := h3 (one, two) (List.mem_of_getElem? (List.mem_zipIdx_iff_getElem?.mp hx))
      simp only at hr1
      have hpl : pre.length < roads.length := by have := congrArg List.length e; simp at this; omega
      show Sd _ [.d (nD size), .d (.tup (roads.map rD)), .d (.lst (g.map nD)), .o (t.map nD), .d (nD i), .d (nD one), .d (nD two)] _ _
      refine sd_if (evt_cmp (evd_ixL (vv 2 rfl) (vv 5 rfl) (at_mapD 0 (by omega))) (evd_ixL (vv 2 rfl) (vv 6 rfl) (at_mapD 0 (by omega))) o_ne) (fun h => ?_) (fun h => ?_)
      · have hne : g.getD one 0 ≠ g.getD two 0 := by intro z; rw [z] at h; simp at h
        refine sd_append 3 rfl (vv 4 rfl) (by rw [List.length_map]; omega) ?_
        refine sd_set 2 (evd_f hm hr (g, one, two) (eva_cons (vv 2 rfl) (eva_cons (vv 5 rfl) (eva_cons (vv 6 rfl) eva_nil))) ⟨by show one < g.length; omega, by show two < g.length; omega, by show g.length ≤ 1000; omega⟩) scJoin.nd ?_
        refine sd_nil (sd_nil ⟨(mergeN g one two, t ++ [i]), ⟨?_, by simp [mergeN, hg], by simp; omega⟩, ?_⟩)
        · rw [List.foldl_append, ← es]
          simp only [List.foldl_cons, List.foldl_nil, jrStep]
          rw [if_pos hne]
        · refine .eq rfl (.eq rfl (.eq rfl (.eq ?_ (.no (.no (.no .nil))))))
          show Slot.o _ = Slot.o _
          rw [List.map_append]; rfl
      · have hne : g.getD one 0 = g.getD two 0 := by
          have z : decide ((g.getD one 0 : Int) = (g.getD two 0 : Int)) = true := by simpa using h
          have := of_decide_eq_true z
          omega
        refine sd_nil (sd_nil ⟨(g, t), ⟨?_, hg, by simp; omega⟩, ?_⟩)
        · rw [List.foldl_append, ← es]
          simp only [List.foldl_cons, List.foldl_nil, jrStep]
          rw [if_neg (fun z => z hne)]
        · exact .eq rfl (.eq rfl (.eq rfl (.eq rfl (.no (.no (.no .nil))))))
    · rintro ⟨g, t⟩ ⟨es, hg, ht⟩
      refine sd_ret (lend (evd_ty (eva_cons (vv 3 rfl) eva_nil) c_tupL B.tuple (by decide +kernel)) (noL_nats _)) ?_
      show _ = _
      rw [show t = jr size roads from congrArg Prod.snd es]
abbrev nBelow : List Str := ["value", "many"]
theorem scBelow : FnScope nBelow ["value", "many"] (defScope (top 12)) := ⟨rfl, rfl, rfl, by decide +kernel, rfl, by decide +kernel, by decide +kernel⟩
abbrev belowSp : List D → D → Prop := fsp (fun (g : Int × Int) => [.int g.1, .int g.2]) (fun _ => True) fun g => .bl (decide (0 ≤ g.1) && decide (g.1 < g.2))
theorem kn_below (D0 : Dn K mg "is_below" (top 12)) (B : Bi mg) (hw : Kn P w K mg base 1 "is_whole" whSp) : Kn P w K mg base 2 "is_below" belowSp :=
  kn_mk (N := nBelow) (ps := ["value", "many"]) 1 D0 scBelow (fun _ => rfl) (by decide) (fun _ _ _ _ _ _ us hl => match us, hl with | [_, _], _ => rfl) fun f cdv A outer s H E hr ⟨i, n⟩ _ => by
    refine sd_ret (d := .bl (true && (decide (0 ≤ i) && decide (i < n)))) (evd_and (evd_f hw hr i (eva_cons (vv 0 rfl) eva_nil) trivial) fun _ => evd_and1 (evd_chain evd_int (vv 0 rfl) (fun _ => evd_var 1) o_le (fun _ => o_lt) ⟨_, op_lt⟩)) rfl
end
end K86

set_option linter.all false
set_option maxRecDepth 100000
set_option maxHeartbeats 4000000
/-! k86: frozen, is_piece, Net. -/
namespace K86
open PySem L2 ML
mutual
/-- lists become tuples, at every level -/
def fz : D → D
  | .tup ds => .tup (fzAll ds)
  | .lst ds => .tup (fzAll ds)
  | d => d
def fzAll : List D → List D
  | [] => []
  | d :: ds => fz d :: fzAll ds
end
theorem fzAll_eq : ∀ ds : List D, fzAll ds = ds.map fz
  | [] => rfl
  | d :: ds => by rw [fzAll, fzAll_eq ds]; rfl
mutual
/-- ints, tuples and lists of at most 1000 items -/
def tl : D → Bool
  | .int _ => true
  | .tup ds => decide (ds.length ≤ 1000) && tlAll ds
  | .lst ds => decide (ds.length ≤ 1000) && tlAll ds
  | _ => false
def tlAll : List D → Bool
  | [] => true
  | d :: ds => tl d && tlAll ds
end
theorem tlAll_iff : ∀ {ds : List D}, tlAll ds = true ↔ ∀ d ∈ ds, tl d = true
  | [] => by simp [tlAll]
  | d :: ds => by simp [tlAll, tlAll_iff (ds := ds)]
theorem dptAll_mem : ∀ {ds : List D} {d : D}, d ∈ ds → dpt d ≤ dptAll ds
  | e :: ds, d, h => by
    rw [dptAll]
    rcases List.mem_cons.mp h with z | z
    · subst z; omega
    · have := dptAll_mem z; omega
section
variable {P : Program} {w : World} {K : PySem.W.Frag} {mg : Str → Option Value} {base : Heap}
theorem kt_tup : PySem.W.kitAny K (.type "tuple") [.type "list", .type "tuple"] = some true := kitAny_cons (b := false) (kit_ty (by decide +kernel)) (fun _ => kitAny_cons (b := true) (kit_ty (by decide +kernel)) (fun h => by cases h) (fun _ => rfl)) (fun h => by cases h)
theorem kt_lst : PySem.W.kitAny K (.type "list") [.type "list", .type "tuple"] = some true := kitAny_cons (b := true) (kit_ty (by decide +kernel)) (fun h => by cases h) (fun _ => rfl)
theorem kt_int : PySem.W.kitAny K (.type "int") [.type "list", .type "tuple"] = some false := kitAny_cons (b := false) (kit_ty (by decide +kernel)) (fun _ => kitAny_cons (b := false) (kit_ty (by decide +kernel)) (fun _ => kitAny_nil) (fun h => by cases h)) (fun h => by cases h)
theorem src_id {X : Cx} {M : List Slot} {tg e : Expr} {ds : List D} (h : SrcD X M tg e ds) : SrcD X M tg e (ds.map fun d => d) := by rw [List.map_id']; exact h
abbrev nFrozen : List Str := ["value", "item"]
theorem scFrozen : FnScope nFrozen ["value"] (defScope (top 1)) := ⟨rfl, rfl, rfl, by decide +kernel, rfl, by decide +kernel, by decide +kernel⟩
abbrev frozenSp (n : Nat) : List D → D → Prop := fsp (fun (d : D) => [d]) (fun d => tl d = true ∧ dpt d ≤ n) fz
theorem kn_frozen (D0 : Dn K mg "frozen" (top 1)) (B : Bi mg) : ∀ n, Kn P w K mg base (n + 1) "frozen" (frozenSp n) := by
  intro n
  induction n with
  | zero =>
    refine kn_mk (N := nFrozen) (ps := ["value"]) 0 D0 scFrozen (fun _ => rfl) (by decide) (fun _ _ _ _ _ _ us hl => match us, hl with | [_], _ => rfl) fun f cdv A outer s H E hr d ⟨h1, h2⟩ => ?_
    cases d with
    | int i =>
      refine sd_if (evt_d (evd_isi2 (vv 0 rfl) ty_int kt_int B.isi B.list (by decide +kernel) B.tuple (by decide +kernel))) (fun h => by cases h) fun _ => sd_nil (sd_ret (vv 0 rfl) rfl)
    | tup ds => simp [dpt] at h2
    | lst ds => simp [dpt] at h2
    | _ => simp [tl] at h1
  | succ n ih =>
    refine kn_mk (N := nFrozen) (ps := ["value"]) (n + 1) D0 scFrozen (fun _ => rfl) (by decide) (fun _ _ _ _ _ _ us hl => match us, hl with | [_], _ => rfl) fun f cdv A outer s H E hr d ⟨h1, h2⟩ => ?_
    cases d with
    | int i =>
      refine sd_if (evt_d (evd_isi2 (vv 0 rfl) ty_int kt_int B.isi B.list (by decide +kernel) B.tuple (by decide +kernel))) (fun h => by cases h) fun _ => sd_nil (sd_ret (vv 0 rfl) rfl)
    | tup ds =>
      refine sd_if (evt_d (evd_isi2 (vv 0 rfl) (.b trivial) kt_tup B.isi B.list (by decide +kernel) B.tuple (by decide +kernel))) (fun _ => ?_) fun h => by cases h
      simp only [tl, Bool.and_eq_true, decide_eq_true_eq] at h1
      refine sd_ret (evd_ty (eva_cons (evo_map [("item", 1)] (fun d => d) ds fz _ [1] (src_id (src_tup (vv 0 rfl))) rfl scFrozen.nd (blkOk_by (N := nFrozen) (sc := defScope (top 1)) (by decide +kernel)) (by decide) (fun _ _ _ _ _ d hd => tg_name 1 scFrozen.nd) (fun _ _ _ _ _ d hd => ?_) (by omega)).toD eva_nil) c_tupL B.tuple (by decide +kernel)) ?_
      · have := dptAll_mem hd
        simp only [dpt] at h2
        exact evd_fB ih hr d (eva_cons (vv 1 rfl) eva_nil) ⟨tlAll_iff.mp h1.2 d hd, by omega⟩ rfl rfl (by decide) rfl rfl
      · show _ = _
        rw [fz, fzAll_eq]
    | lst ds =>
      refine sd_if (evt_d (evd_isi2 (vv 0 rfl) (.b trivial) kt_lst B.isi B.list (by decide +kernel) B.tuple (by decide +kernel))) (fun _ => ?_) fun h => by cases h
      simp only [tl, Bool.and_eq_true, decide_eq_true_eq] at h1
      refine sd_ret (evd_ty (eva_cons (evo_map [("item", 1)] (fun d => d) ds fz _ [1] (src_id (src_lst (vv 0 rfl))) rfl scFrozen.nd (blkOk_by (N := nFrozen) (sc := defScope (top 1)) (by decide +kernel)) (by decide) (fun _ _ _ _ _ d hd => tg_name 1 scFrozen.nd) (fun _ _ _ _ _ d hd => ?_) (by omega)).toD eva_nil) c_tupL B.tuple (by decide +kernel)) ?_
      · have := dptAll_mem hd
        simp only [dpt] at h2
        exact evd_fB ih hr d (eva_cons (vv 1 rfl) eva_nil) ⟨tlAll_iff.mp h1.2 d hd, by omega⟩ rfl rfl (by decide) rfl rfl
      · show _ = _
        rw [fz, fzAll_eq]
    | _ => simp [tl] at h1
end
end K86

set_option linter.all false
set_option maxRecDepth 100000
set_option maxHeartbeats 4000000
/-! k86: is_piece, Net, spanning, loops. -/
namespace K86
open PySem L2 ML
section
variable {P : Program} {w : World} {K : PySem.W.Frag} {mg : Str → Option Value} {base : Heap}
abbrev nPiece : List Str := ["piece", "many", "places", "roads", "gates", "one", "two", "place", "kind"]
theorem scPiece : FnScope nPiece ["piece", "many"] (defScope (top 13)) := ⟨rfl, rfl, rfl, by decide +kernel, rfl, by decide +kernel, by decide +kernel⟩
abbrev pieceSp : List D → D → Prop := fsp (fun (g : Piece × Nat) => [pD g.1, nD g.2]) (fun g => g.1.Ok g.2) fun _ => .bl true
theorem kn_piece (D0 : Dn K mg "is_piece" (top 13)) (B : Bi mg) (hb : Kn P w K mg base 2 "is_below" belowSp) (hj : Kn P w K mg base 2 "joining_roads" joinSp) : Kn P w K mg base 3 "is_piece" pieceSp :=
  kn_mk (N := nPiece) (ps := ["piece", "many"]) 2 D0 scPiece (fun _ => rfl) (by decide) (fun _ _ _ _ _ _ us hl => match us, hl with | [_, _], _ => rfl) fun f cdv A outer s H E hr ⟨q, many⟩ ok => by
    simp only at ok
    show Sd _ [.d (pD q), .d (nD many), .no, .no, .no, .no, .no, .no, .no] _ _
    refine sd_tg (d := pD q) (vv 0 rfl) (tg_three rfl (tg_name 2 scPiece.nd) (tg_name 3 scPiece.nd) (tg_name 4 scPiece.nd)) ?_
    refine sd_for (α := Nat × Nat) (S := Unit) (enc := rD) (xs := q.roads) (fun _ _ => True)
      (fun _ => [.d (pD q), .d (nD many), .d (nD q.size), .d (.tup (q.roads.map rD)), .d (.tup (q.gates.map rD)), .no, .no, .no, .no])
      (fun _ x => [.d (pD q), .d (nD many), .d (nD q.size), .d (.tup (q.roads.map rD)), .d (.tup (q.gates.map rD)), .d (nD x.1), .d (nD x.2), .no, .no]) (js := fun _ _ => [5, 6]) (fun _ => False)
      (src_tup (vv 3 rfl)) rfl () trivial (Le.refl _) (fun pre x post s e _ => tg_two rfl (tg_name 5 scPiece.nd) (tg_name 6 scPiece.nd)) ?_ ?_ (fun _ h => h.elim)
    · rintro pre ⟨one, two⟩ post s e -
      have hx := ok.roads (one, two) (by rw [e]; simp)
      simp only at hx
      show Sd _ [.d (pD q), .d (nD many), .d (nD q.size), .d (.tup (q.roads.map rD)), .d (.tup (q.gates.map rD)), .d (nD one), .d (nD two), .no, .no] _ _
      refine sd_if (k := false) ((evt_w (evw_or (evt_not (evt_d (evd_f hb hr ((one : Int), (q.size : Int)) (eva_cons (vv 5 rfl) (eva_cons (vv 2 rfl) eva_nil)) trivial))) (fun _ => evw_or1 (evt_not (evt_d (evd_f hb hr ((two : Int), (q.size : Int)) (eva_cons (vv 6 rfl) (eva_cons (vv 2 rfl) eva_nil)) trivial)))))).to ?_) (fun h => by cases h) fun _ => sd_nil (sd_nil ⟨(), trivial, .eq rfl (.eq rfl (.eq rfl (.eq rfl (.eq rfl (.no (.no (.no (.no .nil))))))))⟩)
      have a1 : (0 : Int) ≤ (one : Int) := by omega
      have a2 : (one : Int) < (q.size : Int) := by omega
      have a3 : (0 : Int) ≤ (two : Int) := by omega
      have a4 : (two : Int) < (q.size : Int) := by omega
      simp only [decide_eq_true a1, decide_eq_true a2, decide_eq_true a3, decide_eq_true a4]
      rfl
    · rintro s -
      refine sd_for (α := Nat × Nat) (S := Unit) (enc := rD) (xs := q.gates) (fun _ _ => True)
        (fun _ => [.d (pD q), .d (nD many), .d (nD q.size), .d (.tup (q.roads.map rD)), .d (.tup (q.gates.map rD)), .no, .no, .no, .no])
        (fun _ x => [.d (pD q), .d (nD many), .d (nD q.size), .d (.tup (q.roads.map rD)), .d (.tup (q.gates.map rD)), .no, .no, .d (nD x.1), .d (nD x.2)]) (js := fun _ _ => [7, 8]) (fun _ => False)
        (src_tup (vv 4 rfl)) rfl () trivial (Le.refl _) (fun pre x post s e _ => tg_two rfl (tg_name 7 scPiece.nd) (tg_name 8 scPiece.nd)) ?_ ?_ (fun _ h => h.elim)
      · rintro pre ⟨one, two⟩ post s e -
        have hx := ok.gates (one, two) (by rw [e]; simp)
        simp only at hx
        show Sd _ [.d (pD q), .d (nD many), .d (nD q.size), .d (.tup (q.roads.map rD)), .d (.tup (q.gates.map rD)), .no, .no, .d (nD one), .d (nD two)] _ _
        refine sd_if (k := false) ((evt_w (evw_or (evt_not (evt_d (evd_f hb hr ((one : Int), (q.size : Int)) (eva_cons (vv 7 rfl) (eva_cons (vv 2 rfl) eva_nil)) trivial))) (fun _ => evw_or1 (evt_not (evt_d (evd_f hb hr ((two : Int), (many : Int)) (eva_cons (vv 8 rfl) (eva_cons (vv 1 rfl) eva_nil)) trivial)))))).to ?_) (fun h => by cases h) fun _ => sd_nil (sd_nil ⟨(), trivial, .eq rfl (.eq rfl (.eq rfl (.eq rfl (.eq rfl (.no (.no (.no (.no .nil))))))))⟩)
        have a1 : (0 : Int) ≤ (one : Int) := by omega
        have a2 : (one : Int) < (q.size : Int) := by omega
        have a3 : (0 : Int) ≤ (two : Int) := by omega
        have a4 : (two : Int) < (many : Int) := by omega
        simp only [decide_eq_true a1, decide_eq_true a2, decide_eq_true a3, decide_eq_true a4]
        rfl
      · rintro s -
        have h1 := ok.sz
        have h2 := ok.rl
        have h3 := ok.pos
        refine sd_ret ((evd_cmp (evd_bi (eva_cons (evd_f hj hr (q.size, q.roads) (eva_cons (vv 2 rfl) (eva_cons (vv 3 rfl) eva_nil)) ⟨by show q.size ≤ 1000; omega, by show q.roads.length ≤ 1000; omega, ok.roads⟩) eva_nil) c_lenT B.len (by decide +kernel)) (evd_op (vv 2 rfl) evd_int o_sub) o_eq).to ?_) rfl
        rw [List.length_map, ok.conn]
        exact congrArg D.bl (decide_eq_true (by omega))
end
end K86

set_option linter.all false
set_option maxRecDepth 100000
set_option maxHeartbeats 4000000
/-! k86: Net, spanning, loops. -/
namespace K86
open PySem L2 ML
/-- a class of the text as the top has made it -/
structure ClT (K : PySem.W.Frag) (mg : Str → Option Value) (C : Addr) (x fl : Str) (qi qe : Str) (si se : Stmt) : Prop where
  g : mg x = some (.ref C)
  ob : ObT K C
  nA : NoAttr K C fl
  makes : PySem.W.makesIn K C = true
  kp : PySem.W.keepIn K (.ref C) = true
  ini : ∃ f fd, Fun K "__init__" qi si f fd ∧ PySem.W.findIn K (.ref C) "__init__" = some (some (.ref f)) ∧ PySem.W.isFn K (.ref f) = true
  eq : ∃ f fd, Fun K "__eq__" qe se f fd ∧ PySem.W.findIn K (.ref C) "__eq__" = some (some (.ref f)) ∧ PySem.W.isFn K (.ref f) = true
abbrev NetT (K : PySem.W.Frag) (mg : Str → Option Value) (C : Addr) : Prop := ClT K mg C "Net" "pieces" "Net.__init__" "Net.__eq__" (inClass (top 14) 0) (inClass (top 14) 1)
def netD (C : Addr) (ps : List Piece) : D := .ob C ["pieces"] [psD ps]
theorem clean_rD (p : Nat × Nat) : clean (rD p) = true := rfl
theorem cleanAll_map {α : Type} {enc : α → D} (h : ∀ a, clean (enc a) = true) : ∀ xs : List α, cleanAll (xs.map enc) = true
  | [] => rfl
  | n :: ns => by show (clean (enc n) && cleanAll (ns.map enc)) = true; rw [cleanAll_map h ns, h n]; rfl
theorem dptAll_map {α : Type} {enc : α → D} {n : Nat} (h : ∀ a, dpt (enc a) ≤ n) : ∀ xs : List α, dptAll (xs.map enc) ≤ n
  | [] => Nat.zero_le _
  | x :: xs => by
    have h1 := dptAll_map h xs
    have h2 := h x
    show max (dpt (enc x)) (dptAll (xs.map enc)) ≤ n
    omega
theorem dpt_rD (p : Nat × Nat) : dpt (rD p) ≤ 1 := by simp [rD, dpt, dptAll]
theorem clean_pD (p : Piece) : clean (pD p) = true := by
  unfold pD
  simp only [clean, cleanAll, cleanAll_map clean_rD, Bool.and_self]
theorem dpt_pD (p : Piece) : dpt (pD p) ≤ 3 := by
  have h1 := dptAll_map (n := 1) dpt_rD p.roads
  have h2 := dptAll_map (n := 1) dpt_rD p.gates
  unfold pD
  simp only [dpt, dptAll]
  omega
theorem clean_psD (ps : List Piece) : clean (psD ps) = true := by
  unfold psD
  simp only [clean, cleanAll_map clean_pD]
theorem dpt_psD (ps : List Piece) : dpt (psD ps) ≤ 4 := by
  have h1 := dptAll_map (n := 3) dpt_pD ps
  unfold psD
  simp only [dpt]
  omega
section
variable {P : Program} {w : World} {K : PySem.W.Frag} {mg : Str → Option Value} {base : Heap}
abbrev nNetI : List Str := ["self", "pieces", "copied", "kind", "piece"]
theorem scNetI : FnScope nNetI ["self", "pieces"] (defScope (inClass (top 14) 0)) := ⟨rfl, rfl, rfl, by decide +kernel, rfl, by decide +kernel, by decide +kernel⟩
/-- data that frozen makes the pieces -/
structure NetIn (a : D × List Piece) : Prop where
  ok : Ok a.2
  eq : fz a.1 = psD a.2
  tl : tl a.1 = true
  dp : dpt a.1 ≤ 5
theorem ok_netI {C : Addr} {f : Addr} {fd : FuncData} (F : Fun K "__init__" "Net.__init__" (inClass (top 14) 0) f fd) (T : NetT K mg C) (B : Bi mg) (hf : Kn P w K mg base 6 "frozen" (frozenSp 5)) (hp : Kn P w K mg base 3 "is_piece" pieceSp) :
    FnOk P w K mg base CX0 7 f fd ["self", "pieces"] (InitSp K C "pieces" (fun a : D × List Piece => [a.1]) NetIn fun a => psD a.2) :=
  fn_init (N := nNetI) (k := 6) F scNetI (fun _ => rfl) (by decide) fun cdv A outer s H E hr x dx ⟨d, ps⟩ a => by
    obtain ⟨ok, eq, tl, dp⟩ := a
    simp only at ok eq tl dp
    show Sd _ [.d (.raw (.ref x)), .d d, .no, .no, .no] _ _
    refine sd_set 2 (evd_f hf hr d (eva_cons (vv 1 rfl) eva_nil) ⟨tl, dp⟩) scNetI.nd ?_
    rw [eq]
    refine sd_for (α := Piece × Nat) (S := Unit) (enc := fun p => .tup [nD p.2, pD p.1]) (xs := ps.zipIdx) (fun _ _ => True)
      (fun _ => [.d (.raw (.ref x)), .d d, .d (psD ps), .no, .no])
      (fun _ y => [.d (.raw (.ref x)), .d d, .d (psD ps), .d (nD y.2), .d (pD y.1)]) (js := fun _ _ => [3, 4]) (fun _ => False)
      (src_enumTm (enc := pD) (vv 2 rfl) B.enum) rfl () trivial (Le.refl _) (fun pre y post s e _ => tg_two rfl (tg_name 3 scNetI.nd) (tg_name 4 scNetI.nd)) ?_ ?_ (fun _ h => h.elim)
    · rintro pre ⟨q, i⟩ post s e -
      have hx : (q, i) ∈ ps.zipIdx := by rw [e]; simp
      have hm := List.mem_of_getElem? (List.mem_zipIdx_iff_getElem?.mp hx)
      show Sd _ [.d (.raw (.ref x)), .d d, .d (psD ps), .d (nD i), .d (pD q)] _ _
      refine sd_if (k := false) (evt_not (evt_d (evd_f hp (hr.mono (by decide)) (q, ps.length) (eva_cons (vv 4 rfl) (eva_cons (EvD.to (evd_bi (eva_cons (vv 2 rfl) eva_nil) c_lenT B.len (by decide +kernel)) (by rw [List.length_map])) eva_nil)) (ok.ok q hm)))) (fun h => by cases h) fun _ => sd_nil (sd_nil ⟨(), trivial, .eq rfl (.eq rfl (.eq rfl (.no (.no .nil))))⟩)
    · rintro s -
      exact sd_fldLast 0 2 (x := x) rfl rfl fun G0 H0 G σ H v h0 I r => ⟨C, dx, [], I.up.h _ _ h0, T.ob.cl, T.nA, by show 0 < 1000; decide, v, H, I.up, r, rfl⟩
abbrev nNetE : List Str := ["self", "other"]
theorem scNetE : FnScope nNetE ["self", "other"] (defScope (inClass (top 14) 1)) := ⟨rfl, rfl, rfl, by decide +kernel, rfl, by decide +kernel, by decide +kernel⟩
theorem ok_netE {C : Addr} {f : Addr} {fd : FuncData} (F : Fun K "__eq__" "Net.__eq__" (inClass (top 14) 1) f fd) (T : NetT K mg C) (B : Bi mg) :
    FnOk P w K mg base CX0 1 f fd ["self", "other"] (PureSp K (fsp (fun ps : List Piece => [netD C ps, netD C ps]) (fun _ => True) fun _ => .bl true)) :=
  fn_pure (N := nNetE) (k := 0) F scNetE (fun ds d ⟨a, e, _⟩ => by rw [e]; rfl) (by decide) fun cdv A outer s H E hr ds d ⟨ps, e, _, ed⟩ => by
    subst e ed
    show Sd _ [.d (netD C ps), .d (netD C ps)] _ _
    have hu := hr.units
    refine sd_ret (d := .bl (true && true)) (evd_and (evd_isC (C := C) (d := netD C ps) (vv 1 rfl) (.o T.ob) (by unfold PySem.W.kitOne; simp) B.isi T.g) fun _ => evd_and1 (evd_cmp (evd_fld (d := psD ps) T.ob.cl T.nA (C := C) (ns := ["pieces"]) (ds := [psD ps]) (vv 0 rfl) (by simp)) (evd_fld (d := psD ps) T.ob.cl T.nA (C := C) (ns := ["pieces"]) (ds := [psD ps]) (vv 1 rfl) (by simp)) (o_eqD hu (clean_psD ps) (by have := dpt_psD ps; omega)))) rfl
end
end K86

set_option linter.all false
set_option maxRecDepth 100000
set_option maxHeartbeats 4000000
/-! k86: spanning, loops, place_after. -/
namespace K86
open PySem L2 ML
section
variable {P : Program} {w : World} {K : PySem.W.Frag} {mg : Str → Option Value} {base : Heap}
/-- the class Net, its defs walked -/
structure NetK (P : Program) (w : World) (K : PySem.W.Frag) (mg : Str → Option Value) (base : Heap) (C : Addr) : Prop where
  t : NetT K mg C
  ini : ∃ f fd, Mk K C f ∧ FnOk P w K mg base CX0 7 f fd ["self", "pieces"] (InitSp K C "pieces" (fun a : D × List Piece => [a.1]) NetIn fun a => psD a.2) ∧ Binds K fd ["self", "pieces"] []
  eq : ∃ f fd, PySem.W.findIn K (.ref C) "__eq__" = some (some (.ref f)) ∧ PySem.W.isFn K (.ref f) = true ∧ FnOk P w K mg base CX0 1 f fd ["self", "other"] (PureSp K (fsp (fun ps : List Piece => [netD C ps, netD C ps]) (fun _ => True) fun _ => .bl true)) ∧ Binds K fd ["self", "other"] []
theorem netK {C : Addr} (T : NetT K mg C) (B : Bi mg) (hf : Kn P w K mg base 6 "frozen" (frozenSp 5)) (hp : Kn P w K mg base 3 "is_piece" pieceSp) : NetK P w K mg base C := by
  obtain ⟨fi, fdi, Fi, hi, ki⟩ := T.ini
  obtain ⟨fe, fde, Fe, he, ke⟩ := T.eq
  exact ⟨T, ⟨fi, fdi, ⟨T.makes, hi, ki, T.kp⟩, ok_netI Fi T B hf hp, Fi.binds fun _ _ _ _ _ _ us hl => match us, hl with | [_, _], _ => rfl⟩, ⟨fe, fde, he, ke, ok_netE Fe T B, Fe.binds fun _ _ _ _ _ _ us hl => match us, hl with | [_, _], _ => rfl⟩⟩
section
variable {X : Cx} {M : List Slot} {e a b : Expr} {pos p : Pos} {d : D} {C : Addr} {ps : List Piece}
theorem evd_net (N : NetK X.prog X.w X.K X.mg X.base C) (hr : Room 8 X.A) (ha : EvD X M e d) (hp : NetIn (d, ps)) (hg : Gl X "Net" := by rfl)
    (hs : starEach [e] X.env = (false, eval e X.env) :: starEach [] X.env := by rfl) (hpl : (backTo pos (starEach [] X.env)).any (·.1) = false := by rfl) : EvD X M (.Call (.Name "Net" p) [e] [] pos) (netD C ps) := by
  obtain ⟨f, fd, mk, F, hb⟩ := N.ini
  exact evd_make mk F hr N.t.g hb (d, ps) (eva_cons ha eva_nil hs) hp hg (by decide) hs hpl
theorem evd_neteq (N : NetK X.prog X.w X.K X.mg X.base C) (hr : Room 1 X.A) (ha : EvD X M a (netD C ps)) (hb : EvD X M b (netD C ps)) : EvD X M (.Compare a [.Eq] [b] pos) (.bl true) := by
  obtain ⟨f, fd, h1, h2, F, hbd⟩ := N.eq
  exact evd_eqOwn F ⟨ps, rfl, trivial, rfl⟩ hr h1 h2 hbd ha hb
theorem evd_pieces (T : NetT X.K X.mg C) (ha : EvD X M e (netD C ps)) (hb : attributeBase e "pieces" X.env (eval e X.env) = eval e X.env := by rfl) : EvD X M (.Attribute e "pieces" pos) (psD ps) :=
  evd_fld T.ob.cl T.nA ha (by simp) hb
/-- net.pieces[k] -/
theorem evd_piece {k : Nat} (T : NetT X.K X.mg C) (ha : EvD X M e (netD C ps)) (hk : EvD X M b (nD k)) (hl : k < ps.length) (hb : attributeBase e "pieces" X.env (eval e X.env) = eval e X.env := by rfl) (hs : PlainIx b := by exact fun _ _ => rfl) : EvD X M (.Subscript (.Attribute e "pieces" pos) b p) (pD (ps.getD k default)) :=
  evd_ixT (evd_pieces T ha hb) hk (at_mapD default hl) hs
end
abbrev nSpan : List Str := ["net", "kind", "places", "roads", "_"]
theorem scSpan : FnScope nSpan ["net", "kind"] (defScope (top 16)) := ⟨rfl, rfl, rfl, by decide +kernel, rfl, by decide +kernel, by decide +kernel⟩
theorem Ok.at {ps : List Piece} (h : Ok ps) {k : Nat} (hk : k < ps.length) : (ps.getD k default).Ok ps.length := by
  have : ps.getD k default = ps[k] := by simp [List.getD, hk]
  rw [this]
  exact h.ok _ (List.getElem_mem hk)
abbrev spanSp (C : Addr) : List D → D → Prop := fsp (fun (g : List Piece × Nat) => [netD C g.1, nD g.2]) (fun g => Ok g.1 ∧ g.2 < g.1.length) fun g => .tup ((jr (g.1.getD g.2 default).size (g.1.getD g.2 default).roads).map nD)
theorem kn_span {C : Addr} (D0 : Dn K mg "spanning" (top 16)) (T : NetT K mg C) (hj : Kn P w K mg base 2 "joining_roads" joinSp) : Kn P w K mg base 3 "spanning" (spanSp C) :=
  kn_mk (N := nSpan) (ps := ["net", "kind"]) 2 D0 scSpan (fun _ => rfl) (by decide) (fun _ _ _ _ _ _ us hl => match us, hl with | [_, _], _ => rfl) fun f cdv A outer s H E hr ⟨ps, k⟩ ⟨ok, hk⟩ => by
    simp only at ok hk
    have o := ok.at hk
    have h1 := o.sz
    have h2 := o.rl
    show Sd _ [.d (netD C ps), .d (nD k), .no, .no, .no] _ _
    refine sd_tg (d := pD (ps.getD k default)) (evd_piece T (vv 0 rfl) (vv 1 rfl) hk) (tg_three rfl (tg_name 2 scSpan.nd) (tg_name 3 scSpan.nd) (tg_name 4 scSpan.nd)) ?_
    exact sd_ret (evd_f hj hr ((ps.getD k default).size, (ps.getD k default).roads) (eva_cons (vv 2 rfl) (eva_cons (vv 3 rfl) eva_nil)) ⟨by show (ps.getD k default).size ≤ 1000; omega, by show (ps.getD k default).roads.length ≤ 1000; omega, o.roads⟩) rfl
theorem at_1 {a b c : D} : atI [a, b, c] 1 = some b := rfl
theorem at_0 {a b c : D} : atI [a, b, c] 0 = some a := rfl
theorem at_2 {a b c : D} : atI [a, b, c] 2 = some c := rfl
abbrev nLoops : List Str := ["net", "kind"]
theorem scLoops : FnScope nLoops ["net", "kind"] (defScope (top 17)) := ⟨rfl, rfl, rfl, by decide +kernel, rfl, by decide +kernel, by decide +kernel⟩
/-- loops of the k-th piece -/
def lpN (p : Piece) : Nat := p.roads.length - (p.size - 1)
abbrev loopsSp (C : Addr) : List D → D → Prop := fsp (fun (g : List Piece × Nat) => [netD C g.1, nD g.2]) (fun g => Ok g.1 ∧ g.2 < g.1.length) fun g => .int (((g.1.getD g.2 default).roads.length : Int) - ((g.1.getD g.2 default).size - 1 : Nat))
theorem kn_loops {C : Addr} (D0 : Dn K mg "loops" (top 17)) (T : NetT K mg C) (B : Bi mg) (hs : Kn P w K mg base 3 "spanning" (spanSp C)) : Kn P w K mg base 4 "loops" (loopsSp C) :=
  kn_mk (N := nLoops) (ps := ["net", "kind"]) 3 D0 scLoops (fun _ => rfl) (by decide) (fun _ _ _ _ _ _ us hl => match us, hl with | [_, _], _ => rfl) fun f cdv A outer s H E hr ⟨ps, k⟩ ⟨ok, hk⟩ => by
    simp only at ok hk
    have o := ok.at hk
    show Sd _ [.d (netD C ps), .d (nD k)] _ _
    refine sd_ret (evd_op (evd_bi (eva_cons (evd_ixT (evd_piece T (vv 0 rfl) (vv 1 rfl) hk) evd_int at_1) eva_nil) c_lenT B.len (by decide +kernel))
      (evd_bi (eva_cons (evd_f hs hr (ps, k) (eva_cons (vv 0 rfl) (eva_cons (vv 1 rfl) eva_nil)) ⟨ok, hk⟩) eva_nil) c_lenT B.len (by decide +kernel)) o_sub) ?_
    show D.int _ = D.int _
    rw [List.length_map, List.length_map, o.conn]
abbrev nAfter : List Str := ["place", "low", "high"]
theorem scAfter : FnScope nAfter ["place", "low", "high"] (defScope (top 21)) := ⟨rfl, rfl, rfl, by decide +kernel, rfl, by decide +kernel, by decide +kernel⟩
abbrev afterSp : List D → D → Prop := fsp (fun (g : Nat × Nat × Nat) => [nD g.1, nD (min g.2.1 g.2.2), nD (max g.2.1 g.2.2)]) (fun _ => True) fun g => nD (nmF g.2.1 g.2.2 g.1)
theorem kn_after (D0 : Dn K mg "place_after" (top 21)) : Kn P w K mg base 1 "place_after" afterSp :=
  kn_mk (N := nAfter) (ps := ["place", "low", "high"]) 0 D0 scAfter (fun _ => rfl) (by decide) (fun _ _ _ _ _ _ us hl => match us, hl with | [_, _, _], _ => rfl) fun f cdv A outer s H E hr ⟨x, a, b⟩ _ => by
    show Sd _ [.d (nD x), .d (nD (min a b)), .d (nD (max a b))] _ _
    refine sd_if (evt_cmp (vv 0 rfl) (vv 2 rfl) o_eq) (fun h => sd_ret (vv 1 rfl) ?_) fun h => sd_nil (sd_if (evt_cmp (vv 0 rfl) (vv 2 rfl) o_gt) (fun h' => sd_ret (evd_op (vv 0 rfl) evd_int o_sub) ?_) fun h' => sd_nil (sd_ret (vv 0 rfl) ?_))
    · have z := of_decide_eq_true h
      show D.int _ = D.int _
      simp only [nmF]
      rw [if_pos (by omega)]
    · have z := of_decide_eq_false h
      have z' := of_decide_eq_true h'
      show D.int _ = D.int _
      simp only [nmF]
      rw [if_neg (by omega), if_pos (by omega)]
      exact congrArg D.int (by omega)
    · have z := of_decide_eq_false h
      have z' := of_decide_eq_false h'
      show D.int _ = D.int _
      simp only [nmF]
      rw [if_neg (by omega), if_neg (by omega)]
end
end K86

set_option linter.all false
set_option maxRecDepth 100000
set_option maxHeartbeats 4000000
/-! k86: shrunk, contracted (a road that joins two places), Book, net_book. -/
namespace K86
open PySem L2 ML
/-! data -/
theorem cut_take {xs : List D} {k : Nat} (h : k ≤ xs.length) : cutD xs none (some (k : Int)) = xs.take k := by
  unfold cutD
  rw [HT.sIx_none, HT.sIx_nat]
  simp [Nat.min_eq_left h]
theorem cut_drop {xs : List D} {k : Nat} (h : k ≤ xs.length) : cutD xs (some (k : Int)) none = xs.drop k := by
  unfold cutD
  rw [HT.sIx_none, HT.sIx_nat, Nat.min_eq_left h]
  exact List.take_of_length_le (by simp)
theorem flat_rep {α : Type} (n : Nat) (x : α) : (List.replicate n [x]).flatten = List.replicate n x := by
  induction n with
  | zero => rfl
  | succ n ih => rw [List.replicate_succ, List.flatten_cons, ih, List.replicate_succ]; rfl
theorem fz_rD (p : Nat × Nat) : fz (rD p) = rD p := by simp [rD, fz, fzAll]
theorem fz_map {α : Type} {enc : α → D} (h : ∀ a, fz (enc a) = enc a) (xs : List α) : fzAll (xs.map enc) = xs.map enc := by
  rw [fzAll_eq, List.map_map]
  exact List.map_congr_left fun a _ => h a
theorem fz_pD (p : Piece) : fz (pD p) = pD p := by
  unfold pD
  simp only [fz, fzAll, fz_map fz_rD]
theorem fz_psD (ps : List Piece) : fz (psD ps) = psD ps := by
  unfold psD
  rw [fz, fz_map fz_pD]
theorem tl_rD (p : Nat × Nat) : tl (rD p) = true := by simp [rD, tl, tlAll]
theorem tlAll_map {α : Type} {enc : α → D} {xs : List α} (h : ∀ a ∈ xs, tl (enc a) = true) : tlAll (xs.map enc) = true := tlAll_iff.mpr fun d hd => by
  obtain ⟨a, ha, rfl⟩ := List.mem_map.mp hd
  exact h a ha
theorem tl_pD {p : Piece} {many : Nat} (o : p.Ok many) : tl (pD p) = true := by
  have h1 := o.rl
  have h2 := o.gl
  unfold pD
  simp only [tl, tlAll, List.length_map, tlAll_map (fun a _ => tl_rD a), List.length_cons, List.length_nil]
  simp; omega
theorem noL_pD (p : Piece) : noL (pD p) = true := by
  unfold pD
  simp only [noL, noLAll, noL_map noL_rD, Bool.and_self]
theorem noL_netD (C : Addr) (ps : List Piece) : noL (netD C ps) = true := by
  unfold netD psD
  simp only [noL, noLAll, noL_map noL_pD, Bool.and_self]
section
variable {P : Program} {w : World} {K : PySem.W.Frag} {mg : Str → Option Value} {base : Heap}
/-- a piece as shrunk makes it -/
def smD (p : Piece) : D := .tup [nD 1, .lst (List.replicate (lpN p) (rD (0, 0))), .lst (p.gates.map fun g => rD (0, g.2))]
theorem small_in {ps : List Piece} (ok : Ok ps) : NetIn (.lst (ps.map smD), ps.map small) := by
  refine ⟨ok.small, ?_, ?_, ?_⟩
  · show D.tup (fzAll (ps.map smD)) = D.tup ((ps.map small).map pD)
    rw [fzAll_eq, List.map_map, List.map_map]
    refine congrArg D.tup (List.map_congr_left fun p hp => ?_)
    show fz (smD p) = pD (small p)
    have e1 : List.replicate (lpN p) (rD (0, 0)) = (List.replicate (lpN p) ((0 : Nat), (0 : Nat))).map rD := by rw [List.map_replicate]
    have e2 : (p.gates.map fun g => rD (0, g.2)) = (p.gates.map fun g => ((0 : Nat), g.2)).map rD := by rw [List.map_map]; rfl
    unfold smD
    rw [e1, e2]
    simp only [fz, fzAll, fz_map fz_rD]
    rfl
  · have h := ok.len
    show (decide ((ps.map smD).length ≤ 1000) && tlAll (ps.map smD)) = true
    rw [List.length_map, decide_eq_true (by omega : ps.length ≤ 1000), Bool.true_and]
    refine tlAll_map fun p hp => ?_
    have o := ok.ok p hp
    have h1 := o.rl
    have h2 := o.gl
    have h3 : lpN p ≤ 20 := by unfold lpN; omega
    have e1 : List.replicate (lpN p) (rD (0, 0)) = (List.replicate (lpN p) ((0 : Nat), (0 : Nat))).map rD := by rw [List.map_replicate]
    have e2 : (p.gates.map fun g => rD (0, g.2)) = (p.gates.map fun g => ((0 : Nat), g.2)).map rD := by rw [List.map_map]; rfl
    unfold smD
    rw [e1, e2]
    simp only [tl, tlAll, List.length_map, tlAll_map (fun a _ => tl_rD a), List.length_cons, List.length_nil, List.length_replicate]
    simp; omega
  · have e : ∀ p : Piece, dpt (smD p) ≤ 3 := fun p => by
      have e1 : List.replicate (lpN p) (rD (0, 0)) = (List.replicate (lpN p) ((0 : Nat), (0 : Nat))).map rD := by rw [List.map_replicate]
      have e2 : (p.gates.map fun g => rD (0, g.2)) = (p.gates.map fun g => ((0 : Nat), g.2)).map rD := by rw [List.map_map]; rfl
      unfold smD
      rw [e1, e2]
      have h1 := dptAll_map (n := 1) dpt_rD (List.replicate (lpN p) ((0 : Nat), (0 : Nat)))
      have h2 := dptAll_map (n := 1) dpt_rD (p.gates.map fun g => ((0 : Nat), g.2))
      simp only [dpt, dptAll]
      omega
    have h := dptAll_map (n := 3) e ps
    show 1 + dptAll (ps.map smD) ≤ 5
    omega
abbrev nShrunk : List Str := ["net", "pieces", "kind", "piece", "roads", "gates", "place", "target"]
theorem scShrunk : FnScope nShrunk ["net"] (defScope (top 23)) := ⟨rfl, rfl, rfl, by decide +kernel, rfl, by decide +kernel, by decide +kernel⟩
abbrev shrunkSp (C : Addr) : List D → D → Prop := fsp (fun (ps : List Piece) => [netD C ps]) Ok fun ps => netD C (ps.map small)
theorem kn_shrunk {C : Addr} (D0 : Dn K mg "shrunk" (top 23)) (B : Bi mg) (N : NetK P w K mg base C) (hl : Kn P w K mg base 4 "loops" (loopsSp C)) : Kn P w K mg base 9 "shrunk" (shrunkSp C) :=
  kn_mk (N := nShrunk) (ps := ["net"]) 8 D0 scShrunk (fun _ => rfl) (by decide) (fun _ _ _ _ _ _ us hl => match us, hl with | [_], _ => rfl) fun f cdv A outer s H E hr ps ok => by
    show Sd _ [.d (netD C ps), .no, .no, .no, .no, .no, .no, .no] _ _
    refine sd_setO 1 (evo_lst eva_nil) scShrunk.nd ?_
    refine sd_for (α := Piece × Nat) (S := List Piece) (enc := fun p => .tup [nD p.2, pD p.1]) (xs := ps.zipIdx) (fun pre s => s = pre.map (·.1))
      (fun s => [.d (netD C ps), .o (s.map smD), .no, .no, .no, .no, .no, .no])
      (fun s y => [.d (netD C ps), .o (s.map smD), .d (nD y.2), .d (pD y.1), .no, .no, .no, .no]) (js := fun _ _ => [2, 3]) (fun _ => False)
      (src_enumTm (enc := pD) (evd_pieces N.t (vv 0 rfl)) B.enum) rfl [] rfl (Le.refl _) (fun pre y post s e _ => tg_two rfl (tg_name 2 scShrunk.nd) (tg_name 3 scShrunk.nd)) ?_ ?_ (fun _ h => h.elim)
    · rintro pre ⟨q, i⟩ post s e es
      have hx : (q, i) ∈ ps.zipIdx := by rw [e]; simp
      have hg := List.mem_zipIdx_iff_getElem?.mp hx
      simp only at hg
      have hi : i < ps.length := (List.getElem?_eq_some_iff.mp hg).1
      have eq : ps.getD i default = q := by simp [List.getD, hg]
      have o := ok.at hi
      rw [eq] at o
      have h1 := o.rl
      have h2 := o.gl
      have hpl : pre.length < ps.length := by have := congrArg List.length e; simp at this; omega
      have hps := ok.len
      show Sd _ [.d (netD C ps), .o (s.map smD), .d (nD i), .d (pD q), .no, .no, .no, .no] _ _
      refine sd_set 4 (evo_op (ds := List.replicate (lpN q) (rD (0, 0))) (evo_lst (eva_cons (evd_tup (eva_cons evd_int (eva_cons evd_int eva_nil))) eva_nil)).toD (evd_f hl (hr.mono (by decide)) (ps, i) (eva_cons (vv 0 rfl) (eva_cons (vv 2 rfl) eva_nil)) ⟨ok, hi⟩) ?_).toD scShrunk.nd ?_
      · show OpO _ _ (.lst [rD (0, 0)]) (.int (((ps.getD i default).roads.length : Int) - ((ps.getD i default).size - 1 : Nat))) _
        rw [eq]
        have e1 : (((q.roads.length : Int) - ((q.size - 1 : Nat) : Int))).toNat = lpN q := by unfold lpN; omega
        have := o_mulL (X := CXf P w K mg base nShrunk "shrunk" (top 23) f cdv A outer ‹Shared› H E) (xs := [rD (0, 0)]) (k := (q.roads.length : Int) - ((q.size - 1 : Nat) : Int)) (by have := o.sz; omega) (by omega) (by rw [e1]; unfold lpN; simp; omega)
        rw [e1, flat_rep] at this
        exact this
      · refine sd_setMap 5 [("place", 6), ("target", 7)] rD q.gates (fun g => rD (0, g.2)) _ [6, 7] (src_tup (evd_ixT (d := .tup (q.gates.map rD)) (vv 3 rfl) evd_int at_2)) rfl scShrunk.nd (blkOk_by (N := nShrunk) (sc := defScope (top 23)) (by decide +kernel)) (by decide) (fun _ _ _ _ _ d hd => tg_two rfl (tg_name 6 scShrunk.nd) (tg_name 7 scShrunk.nd)) (fun _ _ _ _ _ d hd => ?_) (by omega) ?_
        · exact evd_tup (eva_cons evd_int (eva_cons (vv 7 rfl) eva_nil))
        · refine sd_append 1 rfl (evd_tup (eva_cons evd_int (eva_cons (vv 4 rfl) (eva_cons (vv 5 rfl) eva_nil)))) (by rw [List.length_map, es, List.length_map]; omega) ?_
          refine sd_nil ⟨s ++ [q], by rw [es, List.map_append]; rfl, .eq rfl (.eq ?_ (.no (.no (.no (.no (.no (.no .nil)))))))⟩
          rw [List.map_append]
          rfl
    · rintro s es
      have es' : s = ps := by rw [es]; exact List.zipIdx_map_fst 0 ps
      subst es'
      exact sd_ret (lend (evd_net N hr (vv 1 rfl) (small_in ok)) (noL_netD C _)) rfl
end
end K86

set_option linter.all false
set_option maxRecDepth 100000
set_option maxHeartbeats 4000000
/-! k86: contracted, where the road joins two places. -/
namespace K86
open PySem L2 ML
section
variable {P : Program} {w : World} {K : PySem.W.Frag} {mg : Str → Option Value} {base : Heap}
theorem nmF_lt {a b p n : Nat} (ha : a < n) (hb : b < n) (hne : a ≠ b) (hp : p < n) : nmF a b p < n - 1 := by
  unfold nmF
  split
  · omega
  · split <;> omega
theorem at_2i {a b : Nat} {c : Nat} {xs : List Nat} (h : c < xs.length) : atI (xs.map nD) (c : Int) = some (nD (xs.getD c 0)) := at_mapD 0 h
abbrev nCon : List Str := ["net", "kind", "road", "places", "roads", "gates", "low", "high", "after", "place", "kept", "new_roads", "one", "two", "new_gates", "target", "piece"]
theorem scCon : FnScope nCon ["net", "kind", "road"] (defScope (top 22)) := ⟨rfl, rfl, rfl, by decide +kernel, rfl, by decide +kernel, by decide +kernel⟩
/-- the new piece as contracted makes it -/
def cnD (p : Piece) (road : Nat) : D := .tup [.int ((p.size : Int) - 1), .lst ((sq p road).roads.map rD), .lst ((sq p road).gates.map rD)]
theorem con_in {ps : List Piece} {k road : Nat} (ok : Ok ps) (hk : k < ps.length) (hr : road < (ps.getD k default).roads.length) (hne : ((ps.getD k default).roads.getD road (0, 0)).1 ≠ ((ps.getD k default).roads.getD road (0, 0)).2) :
    NetIn (.tup ((ps.map pD).take k ++ [cnD (ps.getD k default) road] ++ (ps.map pD).drop (k + 1)), putP ps k (sq (ps.getD k default) road)) := by
  have o := ok.at hk
  have o2 := sq_ok o hr hne
  have hpos := o.pos
  have ok2 := ok.put hk o2
  have e1 : fz (cnD (ps.getD k default) road) = pD (sq (ps.getD k default) road) := by
    unfold cnD
    simp only [fz, fzAll, fz_map fz_rD]
    unfold pD
    have : ((ps.getD k default).size : Int) - 1 = (((ps.getD k default).size - 1 : Nat) : Int) := by omega
    rw [this]
    rfl
  have h1 := o2.rl
  have h2 := o2.gl
  refine ⟨ok2, ?_, ?_, ?_⟩
  · show D.tup (fzAll _) = D.tup ((putP ps k (sq (ps.getD k default) road)).map pD)
    rw [fzAll_eq]
    unfold putP
    simp only [List.map_append, List.map_cons, List.map_nil, e1, List.map_take, List.map_drop]
    have e2 : ∀ qs : List Piece, (qs.map pD).map fz = qs.map pD := fun qs => by rw [List.map_map]; exact List.map_congr_left fun p _ => fz_pD p
    rw [e2]
  · have hlen := ok.len
    show (decide (_ ≤ 1000) && tlAll _) = true
    rw [decide_eq_true (by simp; omega), Bool.true_and]
    refine tlAll_iff.mpr fun d hd => ?_
    simp only [List.mem_append, List.mem_singleton] at hd
    rcases hd with (hd | hd) | hd
    · obtain ⟨p, hp, rfl⟩ := List.mem_map.mp (List.mem_of_mem_take hd)
      exact tl_pD (ok.ok p hp)
    · subst hd
      unfold cnD
      simp only [tl, tlAll, List.length_map, tlAll_map (fun a _ => tl_rD a), List.length_cons, List.length_nil, Bool.and_true, Bool.true_and, Bool.and_eq_true, decide_eq_true_eq]
      omega
    · obtain ⟨p, hp, rfl⟩ := List.mem_map.mp (List.mem_of_mem_drop hd)
      exact tl_pD (ok.ok p hp)
  · have key : ∀ ds : List D, (∀ d ∈ ds, dpt d ≤ 3) → dptAll ds ≤ 3 := by
      intro ds
      induction ds with
      | nil => intro _; exact Nat.zero_le _
      | cons d ds ih =>
        intro h
        have := ih fun x hx => h x (by simp [hx])
        have := h d (by simp)
        simp only [dptAll]
        omega
    have := key _ (show ∀ d ∈ ((ps.map pD).take k ++ [cnD (ps.getD k default) road] ++ (ps.map pD).drop (k + 1)), dpt d ≤ 3 from fun d hd => by
      simp only [List.mem_append, List.mem_singleton] at hd
      rcases hd with (hd | hd) | hd
      · obtain ⟨p, hp, rfl⟩ := List.mem_map.mp (List.mem_of_mem_take hd)
        exact dpt_pD p
      · subst hd
        unfold cnD
        have h1 := dptAll_map (n := 1) dpt_rD (sq (ps.getD k default) road).roads
        have h2 := dptAll_map (n := 1) dpt_rD (sq (ps.getD k default) road).gates
        simp only [dpt, dptAll]
        omega
      · obtain ⟨p, hp, rfl⟩ := List.mem_map.mp (List.mem_of_mem_drop hd)
        exact dpt_pD p)
    show 1 + dptAll _ ≤ 5
    omega
abbrev conSp (C : Addr) : List D → D → Prop := fsp (fun (g : List Piece × Nat × Nat) => [netD C g.1, nD g.2.1, nD g.2.2])
  (fun g => Ok g.1 ∧ g.2.1 < g.1.length ∧ g.2.2 < (g.1.getD g.2.1 default).roads.length ∧ ((g.1.getD g.2.1 default).roads.getD g.2.2 (0, 0)).1 ≠ ((g.1.getD g.2.1 default).roads.getD g.2.2 (0, 0)).2) fun g => netD C (putP g.1 g.2.1 (sq (g.1.getD g.2.1 default) g.2.2))
theorem kn_con {C : Addr} (D0 : Dn K mg "contracted" (top 22)) (B : Bi mg) (N : NetK P w K mg base C) (ha : Kn P w K mg base 1 "place_after" afterSp) : Kn P w K mg base 9 "contracted" (conSp C) :=
  kn_mk (N := nCon) (ps := ["net", "kind", "road"]) 8 D0 scCon (fun _ => rfl) (by decide) (fun _ _ _ _ _ _ us hl => match us, hl with | [_, _, _], _ => rfl) fun f cdv A outer s H E hr ⟨ps, k, road⟩ ⟨ok, hk, hrd, hne⟩ => by
    simp only at ok hk hrd hne
    have o := ok.at hk
    have hin := con_in ok hk hrd hne
    generalize hq : ps.getD k default = q at o hrd hne hin
    have hpos := o.pos
    have hsz := o.sz
    have hrl := o.rl
    have hgl := o.gl
    have hps := ok.len
    have hrr := o.roads (q.roads.getD road (0, 0)) (by simp [List.getD, hrd])
    have hu := hr.units
    generalize hr0 : q.roads.getD road (0, 0) = r0 at hne hrr
    obtain ⟨x, y⟩ := r0
    simp only at hne hrr
    show Sd _ [.d (netD C ps), .d (nD k), .d (nD road), .no, .no, .no, .no, .no, .no, .no, .no, .no, .no, .no, .no, .no, .no] _ { nx := fun _ => netD C (putP ps k (sq q road)) = .non, rt := fun d' => d' = netD C (putP ps k (sq q road)) }
    refine sd_tg (d := pD q) ((evd_piece N.t (vv 0 rfl) (vv 1 rfl) hk).to (by rw [hq])) (tg_three rfl (tg_name 3 scCon.nd) (tg_name 4 scCon.nd) (tg_name 5 scCon.nd)) ?_
    have er : atI (q.roads.map rD) (road : Int) = some (.tup [.int (x : Int), .int (y : Int)]) := by rw [at_mapD (0, 0) hrd, hr0]
    refine sd_set 6 (evd_bi (eva_cons (evd_ixT (vv 4 rfl) (vv 2 rfl) er) eva_nil) (c_minT rfl hu) B.min (by decide +kernel)) scCon.nd ?_
    refine sd_set 7 (evd_bi (eva_cons (evd_ixT (vv 4 rfl) (vv 2 rfl) er) eva_nil) (c_maxT rfl hu) B.max (by decide +kernel)) scCon.nd ?_
    rw [natMin, natMax]
    refine sd_if (evt_cmp (vv 6 rfl) (vv 7 rfl) o_eq) (fun h => by have := of_decide_eq_true h; omega) fun _ => sd_nil ?_
    refine sd_set 8 (evo_map [("place", 9)] (fun (i : Nat) => D.int (i : Int)) (List.range q.size) (fun i => nD (nmF x y i)) _ [9] (src_rng1 (n := (q.size : Int)) (vv 3 rfl) (by omega) (by omega) B.range) rfl scCon.nd (blkOk_by (N := nCon) (sc := defScope (top 22)) (by decide +kernel)) (by decide) (fun _ _ _ _ _ d hd => tg_name 9 scCon.nd) (fun _ _ _ _ _ d hd => ?_) (by simp; omega)).toD scCon.nd ?_
    · exact evd_fB ha (hr.mono (by decide)) (d, x, y) (eva_cons (vv 9 rfl) (eva_cons (vv 6 rfl) (eva_cons (vv 7 rfl) eva_nil))) trivial rfl rfl (by decide) rfl rfl
    have hat : ∀ {i : Nat}, i < q.size → atI ((List.range q.size).map fun i => nD (nmF x y i)) (i : Int) = some (nD (nmF x y i)) := fun {i} hi => by
      have := at_map (enc := fun i => nD (nmF x y i)) (xs := List.range q.size) (k := i) (by simpa using hi)
      rw [this]
      simp
    refine sd_set 10 (evd_op (evd_slT (vv 4 rfl) evp_none (evp_some (vv 2 rfl))) (evd_slT (vv 4 rfl) (evp_some (evd_op (vv 2 rfl) evd_int o_add)) evp_none) (o_addT ?_)) scCon.nd ?_
    · rw [cut_take (by simp; omega), show ((road : Int) + 1) = ((road + 1 : Nat) : Int) from by omega, cut_drop (by simp; omega)]
      simp; omega
    rw [cut_take (by simp; omega), show ((road : Int) + 1) = ((road + 1 : Nat) : Int) from by omega, cut_drop (by simp; omega), ← List.map_take, ← List.map_drop, ← List.map_append]
    have hrin : ∀ r ∈ q.roads.take road ++ q.roads.drop (road + 1), r.1 < q.size ∧ r.2 < q.size := fun r hr => o.roads r (by
      rcases List.mem_append.mp hr with z | z
      · exact List.mem_of_mem_take z
      · exact List.mem_of_mem_drop z)
    refine sd_setMap 11 [("one", 12), ("two", 13)] rD (q.roads.take road ++ q.roads.drop (road + 1)) (fun r => rD (nmF x y r.1, nmF x y r.2)) _ [12, 13] (src_tup (vv 10 rfl)) rfl scCon.nd (blkOk_by (N := nCon) (sc := defScope (top 22)) (by decide +kernel)) (by decide) (fun _ _ _ _ _ d hd => tg_two rfl (tg_name 12 scCon.nd) (tg_name 13 scCon.nd)) (fun _ _ _ _ _ d hd => ?_) (by simp; omega) ?_
    · exact evd_tup (eva_cons (evd_ixL (vv 8 rfl) (vv 12 rfl) (hat (hrin d hd).1)) (eva_cons (evd_ixL (vv 8 rfl) (vv 13 rfl) (hat (hrin d hd).2)) eva_nil))
    refine sd_setMap 14 [("place", 9), ("target", 15)] rD q.gates (fun g => rD (nmF x y g.1, g.2)) _ [9, 15] (src_tup (vv 5 rfl)) rfl scCon.nd (blkOk_by (N := nCon) (sc := defScope (top 22)) (by decide +kernel)) (by decide) (fun _ _ _ _ _ d hd => tg_two rfl (tg_name 9 scCon.nd) (tg_name 15 scCon.nd)) (fun _ _ _ _ _ d hd => ?_) (by omega) ?_
    · exact evd_tup (eva_cons (evd_ixL (vv 8 rfl) (vv 9 rfl) (hat (o.gates d hd).1)) (eva_cons (vv 15 rfl) eva_nil))
    have es : (sq q road).roads = (q.roads.take road ++ q.roads.drop (road + 1)).map fun r => (nmF x y r.1, nmF x y r.2) := by simp only [sq, hr0]
    have eg : (sq q road).gates = q.gates.map fun g => (nmF x y g.1, g.2) := by simp only [sq, hr0]
    refine sd_set 16 (evd_tup (eva_cons (evd_op (vv 3 rfl) evd_int o_sub) (eva_cons (vv 11 rfl) (eva_cons (vv 14 rfl) eva_nil)))) scCon.nd ?_
    refine sd_ret (evd_net N hr (evd_op (evd_op (evd_slT (evd_pieces N.t (vv 0 rfl)) evp_none (evp_some (vv 1 rfl))) (evd_tup (eva_cons (vv 16 rfl) eva_nil)) (o_addT ?_)) (evd_slT (evd_pieces N.t (vv 0 rfl)) (evp_some (evd_op (vv 1 rfl) evd_int o_add)) evp_none) (o_addT ?_)) ?_) rfl
    · rw [cut_take (by simp; omega)]; simp; omega
    · rw [cut_take (by simp; omega), show ((k : Int) + 1) = ((k + 1 : Nat) : Int) from by omega, cut_drop (by simp; omega)]
      simp; omega
    · rw [cut_take (by simp; omega), show ((k : Int) + 1) = ((k + 1 : Nat) : Int) from by omega, cut_drop (by simp; omega)]
      unfold cnD at hin
      rw [es, eg, List.map_map, List.map_map] at hin
      exact hin
end
end K86

set_option linter.all false
set_option maxRecDepth 100000
set_option maxHeartbeats 4000000
/-! k86: Book, net_book. -/
namespace K86
open PySem L2 ML
abbrev BookT (K : PySem.W.Frag) (mg : Str → Option Value) (C : Addr) : Prop := ClT K mg C "Book" "kinds" "Book.__init__" "Book.__eq__" (inClass (top 27) 0) (inClass (top 27) 1)
def kiD (ks : List (List Int)) : D := .tup (ks.map fun k => .tup (k.map D.int))
def bookD (C : Addr) (ks : List (List Int)) : D := .ob C ["kinds"] [kiD ks]
structure BookIn (a : D × List (List Int)) : Prop where
  pos : 0 < a.2.length
  len : a.2.length ≤ 1000
  wid : ∀ k ∈ a.2, k.length ≤ 1000
  ok : ∀ k ∈ a.2, ∀ t ∈ k, -3 ≤ t ∧ t < (a.2.length : Int)
  eq : fz a.1 = kiD a.2
  tl : tl a.1 = true
  dp : dpt a.1 ≤ 5
section
variable {P : Program} {w : World} {K : PySem.W.Frag} {mg : Str → Option Value} {base : Heap}
abbrev nTarget : List Str := ["value", "many"]
theorem scTarget : FnScope nTarget ["value", "many"] (defScope (top 25)) := ⟨rfl, rfl, rfl, by decide +kernel, rfl, by decide +kernel, by decide +kernel⟩
abbrev targetSp : List D → D → Prop := fsp (fun (g : Int × Int) => [.int g.1, .int g.2]) (fun _ => True) fun g => .bl (decide (-3 ≤ g.1) && decide (g.1 < g.2))
theorem kn_target (D0 : Dn K mg "is_target" (top 25)) (B : Bi mg) (hw : Kn P w K mg base 1 "is_whole" whSp) : Kn P w K mg base 2 "is_target" targetSp :=
  kn_mk (N := nTarget) (ps := ["value", "many"]) 1 D0 scTarget (fun _ => rfl) (by decide) (fun _ _ _ _ _ _ us hl => match us, hl with | [_, _], _ => rfl) fun f cdv A outer s H E hr ⟨i, n⟩ _ => by
    refine sd_ret (d := .bl (true && (decide (-3 ≤ i) && decide (i < n)))) (evd_and (evd_f hw hr i (eva_cons (vv 0 rfl) eva_nil) trivial) fun _ => evd_and1 (evd_chain (evd_neg evd_int) (vv 0 rfl) (fun _ => vv 1 rfl) o_le (fun _ => o_lt) ⟨_, op_lt⟩)) rfl
abbrev nBookI : List Str := ["self", "kinds", "copied", "kind", "place"]
theorem scBookI : FnScope nBookI ["self", "kinds"] (defScope (inClass (top 27) 0)) := ⟨rfl, rfl, rfl, by decide +kernel, rfl, by decide +kernel, by decide +kernel⟩
theorem ok_bookI {C : Addr} {f : Addr} {fd : FuncData} (F : Fun K "__init__" "Book.__init__" (inClass (top 27) 0) f fd) (T : BookT K mg C) (B : Bi mg) (hf : Kn P w K mg base 6 "frozen" (frozenSp 5)) (hp : Kn P w K mg base 2 "is_target" targetSp) :
    FnOk P w K mg base CX0 7 f fd ["self", "kinds"] (InitSp K C "kinds" (fun a : D × List (List Int) => [a.1]) BookIn fun a => kiD a.2) :=
  fn_init (N := nBookI) (k := 6) F scBookI (fun _ => rfl) (by decide) fun cdv A outer s H E hr x dx ⟨d, ks⟩ a => by
    obtain ⟨pos, len, wid, ok, eq, tl, dp⟩ := a
    simp only at pos len wid ok eq tl dp
    show Sd _ [.d (.raw (.ref x)), .d d, .no, .no, .no] _ _
    refine sd_set 2 (evd_f hf hr d (eva_cons (vv 1 rfl) eva_nil) ⟨tl, dp⟩) scBookI.nd ?_
    rw [eq]
    have el : ∀ {X : Cx} {M : List Slot} {e : Expr}, EvD X M e (.int ((ks.map fun k => D.tup (k.map D.int)).length : Nat)) → EvD X M e (nD ks.length) := fun h => h.to (by rw [List.length_map])
    refine sd_if (k := false) ((evt_cmp (evd_bi (d := nD ks.length) (eva_cons (vv 2 rfl) eva_nil) (by rw [← List.length_map (f := fun k => D.tup (k.map D.int))]; exact c_lenT) B.len (by decide +kernel)) evd_int o_eq).to (decide_eq_false (by omega))) (fun h => by cases h) fun _ => sd_nil ?_
    refine sd_for (α := Nat) (S := Unit) (enc := fun i => D.int (i : Int)) (xs := List.range ks.length) (fun _ _ => True)
      (fun _ => [.d (.raw (.ref x)), .d d, .d (kiD ks), .no, .no])
      (fun _ i => [.d (.raw (.ref x)), .d d, .d (kiD ks), .d (nD i), .no]) (js := fun _ _ => [3]) (fun _ => False)
      (src_rng1 (n := (ks.length : Int)) (evd_bi (d := nD ks.length) (eva_cons (vv 2 rfl) eva_nil) (by rw [← List.length_map (f := fun k => D.tup (k.map D.int))]; exact c_lenT) B.len (by decide +kernel)) (by omega) (by omega) B.range) rfl () trivial (Le.refl _) (fun pre y post s e _ => tg_name 3 scBookI.nd) ?_ ?_ (fun _ h => h.elim)
    · rintro pre i post s e -
      have hi : i < ks.length := by have : i ∈ List.range ks.length := by rw [e]; simp
                                    simpa using this
      have hk := List.getElem_mem hi
      have hw := wid _ hk
      show Sd _ [.d (.raw (.ref x)), .d d, .d (kiD ks), .d (nD i), .no] _ _
      have ek : ∀ {X : Cx} {b : Expr} {M : List Slot} {p : Pos} {a : Expr}, EvD X M a (kiD ks) → EvD X M b (nD i) → PlainIx b → EvD X M (.Subscript a b p) (.tup (ks[i].map D.int)) := fun h1 h2 h3 => evd_ixT h1 h2 (at_map (enc := fun k => D.tup (k.map D.int)) hi) h3
      refine sd_for (α := Nat) (S := Unit) (enc := fun i => D.int (i : Int)) (xs := List.range ks[i].length) (fun _ _ => True)
        (fun _ => [.d (.raw (.ref x)), .d d, .d (kiD ks), .d (nD i), .no])
        (fun _ j => [.d (.raw (.ref x)), .d d, .d (kiD ks), .d (nD i), .d (nD j)]) (js := fun _ _ => [4]) (fun _ => False)
        (src_rng1 (n := (ks[i].length : Int)) (evd_bi (d := nD ks[i].length) (eva_cons (ek (vv 2 rfl) (vv 3 rfl) (fun _ _ => rfl)) eva_nil) (by rw [← List.length_map (f := D.int)]; exact c_lenT) B.len (by decide +kernel)) (by omega) (by omega) B.range) rfl () trivial (Le.refl _) (fun pre y post s e _ => tg_name 4 scBookI.nd) ?_ ?_ (fun _ h => h.elim)
      · rintro pre j post s e -
        have hj : j < ks[i].length := by have : j ∈ List.range ks[i].length := by rw [e]; simp
                                         simpa using this
        have ht := ok _ hk _ (List.getElem_mem hj)
        show Sd _ [.d (.raw (.ref x)), .d d, .d (kiD ks), .d (nD i), .d (nD j)] _ _
        refine sd_if (k := false) ((evt_not (evt_d (evd_f hp (hr.mono (by decide)) (ks[i][j], (ks.length : Int)) (eva_cons (evd_ixT (ek (vv 2 rfl) (vv 3 rfl) (fun _ _ => rfl)) (vv 4 rfl) (at_map (enc := D.int) hj)) (eva_cons (evd_bi (d := nD ks.length) (eva_cons (vv 2 rfl) eva_nil) (by rw [← List.length_map (f := fun k => D.tup (k.map D.int))]; exact c_lenT) B.len (by decide +kernel)) eva_nil)) trivial))).to ?_) (fun h => by cases h) fun _ => sd_nil (sd_nil ⟨(), trivial, .eq rfl (.eq rfl (.eq rfl (.eq rfl (.no .nil))))⟩)
        simp only [decide_eq_true ht.1, decide_eq_true ht.2]
        rfl
      · rintro s -
        exact sd_nil ⟨(), trivial, .eq rfl (.eq rfl (.eq rfl (.no (.no .nil))))⟩
    · rintro s -
      exact sd_fldLast 0 2 (x := x) rfl rfl fun G0 H0 G σ H v h0 I r => ⟨C, dx, [], I.up.h _ _ h0, T.ob.cl, T.nA, by show 0 < 1000; decide, v, H, I.up, r, rfl⟩
/-- the class Book, its __init__ walked -/
structure BookK (P : Program) (w : World) (K : PySem.W.Frag) (mg : Str → Option Value) (base : Heap) (C : Addr) : Prop where
  t : BookT K mg C
  ini : ∃ f fd, Mk K C f ∧ FnOk P w K mg base CX0 7 f fd ["self", "kinds"] (InitSp K C "kinds" (fun a : D × List (List Int) => [a.1]) BookIn fun a => kiD a.2) ∧ Binds K fd ["self", "kinds"] []
theorem bookK {C : Addr} (T : BookT K mg C) (B : Bi mg) (hf : Kn P w K mg base 6 "frozen" (frozenSp 5)) (hp : Kn P w K mg base 2 "is_target" targetSp) : BookK P w K mg base C := by
  obtain ⟨fi, fdi, Fi, hi, ki⟩ := T.ini
  exact ⟨T, ⟨fi, fdi, ⟨T.makes, hi, ki, T.kp⟩, ok_bookI Fi T B hf hp, Fi.binds fun _ _ _ _ _ _ us hl => match us, hl with | [_, _], _ => rfl⟩⟩
theorem evd_book {X : Cx} {M : List Slot} {e : Expr} {pos p : Pos} {d : D} {C : Addr} {ks : List (List Int)} (N : BookK X.prog X.w X.K X.mg X.base C) (hr : Room 8 X.A) (ha : EvD X M e d) (hp : BookIn (d, ks)) (hg : Gl X "Book" := by rfl)
    (hs : starEach [e] X.env = (false, eval e X.env) :: starEach [] X.env := by rfl) (hpl : (backTo pos (starEach [] X.env)).any (·.1) = false := by rfl) : EvD X M (.Call (.Name "Book" p) [e] [] pos) (bookD C ks) := by
  obtain ⟨f, fd, mk, F, hb⟩ := N.ini
  exact evd_make mk F hr N.t.g hb (d, ks) (eva_cons ha eva_nil hs) hp hg (by decide) hs hpl
/-- a kind as net_book makes it -/
def knD (p : Piece) : D := .lst ((kindsOf p).map D.int)
theorem kinds_in {ps : List Piece} (ok : Ok ps) (hpos : 0 < ps.length) : BookIn (.lst (ps.map knD), ps.map kindsOf) := by
  have h := ok.len
  have hk : ∀ p ∈ ps, (kindsOf p).length ≤ 1000 := fun p hp => by
    have o := ok.ok p hp
    have h1 := o.rl
    have h2 := o.gl
    simp [kindsOf]; omega
  have ei : ∀ ns : List Int, fzAll (ns.map D.int) = ns.map D.int := fun ns => fz_map (fun i => by simp [fz]) ns
  refine ⟨by rw [List.length_map]; exact hpos, by rw [List.length_map]; omega, fun k hk' => ?_, fun k hk' t ht => ?_, ?_, ?_, ?_⟩
  · obtain ⟨p, hp, rfl⟩ := List.mem_map.mp hk'
    exact hk p hp
  · obtain ⟨p, hp, rfl⟩ := List.mem_map.mp hk'
    rw [List.length_map]
    unfold kindsOf at ht
    rcases List.mem_append.mp ht with z | z
    · obtain ⟨g, hg, rfl⟩ := List.mem_map.mp z
      have := (ok.ok p hp).gates g hg
      omega
    · have := List.eq_of_mem_replicate z
      omega
  · show D.tup (fzAll (ps.map knD)) = kiD (ps.map kindsOf)
    rw [fzAll_eq, List.map_map]
    unfold kiD
    rw [List.map_map]
    refine congrArg D.tup (List.map_congr_left fun p hp => ?_)
    show fz (knD p) = D.tup ((kindsOf p).map D.int)
    unfold knD
    rw [fz, ei]
  · show (decide ((ps.map knD).length ≤ 1000) && tlAll (ps.map knD)) = true
    rw [List.length_map, decide_eq_true (by omega : ps.length ≤ 1000), Bool.true_and]
    refine tlAll_map fun p hp => ?_
    unfold knD
    have := hk p hp
    simp only [tl, List.length_map, tlAll_map (fun a _ => show tl (D.int a) = true from rfl), Bool.and_true]
    exact decide_eq_true this
  · have e : ∀ p : Piece, dpt (knD p) ≤ 1 := fun p => by
      have := dptAll_map (enc := D.int) (n := 0) (fun a => by simp [dpt]) (kindsOf p)
      unfold knD
      simp only [dpt]
      omega
    have := dptAll_map (n := 1) e ps
    show 1 + dptAll _ ≤ 5
    omega
abbrev nNB : List Str := ["net", "kinds", "kind", "piece", "targets", "place", "target"]
theorem scNB : FnScope nNB ["net"] (defScope (top 30)) := ⟨rfl, rfl, rfl, by decide +kernel, rfl, by decide +kernel, by decide +kernel⟩
abbrev nbSp (C CB : Addr) : List D → D → Prop := fsp (fun (ps : List Piece) => [netD C ps]) (fun ps => Ok ps ∧ 0 < ps.length) fun ps => bookD CB (ps.map kindsOf)
theorem kn_nb {C CB : Addr} (D0 : Dn K mg "net_book" (top 30)) (B : Bi mg) (hH : ∃ t, mg "HANDLE" = some (.int (-2) t)) (N : NetT K mg C) (NB : BookK P w K mg base CB) (hl : Kn P w K mg base 4 "loops" (loopsSp C)) : Kn P w K mg base 9 "net_book" (nbSp C CB) :=
  kn_mk (N := nNB) (ps := ["net"]) 8 D0 scNB (fun _ => rfl) (by decide) (fun _ _ _ _ _ _ us hl => match us, hl with | [_], _ => rfl) fun f cdv A outer s H E hr ps ⟨ok, hpos⟩ => by
    obtain ⟨tH, hH⟩ := hH
    have hps := ok.len
    show Sd _ [.d (netD C ps), .no, .no, .no, .no, .no, .no] _ _
    refine sd_setO 1 (evo_lst eva_nil) scNB.nd ?_
    refine sd_for (α := Piece × Nat) (S := List Piece) (enc := fun p => .tup [nD p.2, pD p.1]) (xs := ps.zipIdx) (fun pre s => s = pre.map (·.1))
      (fun s => [.d (netD C ps), .o (s.map knD), .no, .no, .no, .no, .no])
      (fun s y => [.d (netD C ps), .o (s.map knD), .d (nD y.2), .d (pD y.1), .no, .no, .no]) (js := fun _ _ => [2, 3]) (fun _ => False)
      (src_enumTm (enc := pD) (evd_pieces N (vv 0 rfl)) B.enum) rfl [] rfl (Le.refl _) (fun pre y post s e _ => tg_two rfl (tg_name 2 scNB.nd) (tg_name 3 scNB.nd)) ?_ ?_ (fun _ h => h.elim)
    · rintro pre ⟨q, i⟩ post s' e es
      have hx : (q, i) ∈ ps.zipIdx := by rw [e]; simp
      have hg := List.mem_zipIdx_iff_getElem?.mp hx
      simp only at hg
      have hi : i < ps.length := (List.getElem?_eq_some_iff.mp hg).1
      have eq : ps.getD i default = q := by simp [List.getD, hg]
      have o := ok.at hi
      rw [eq] at o
      have h1 := o.rl
      have h2 := o.gl
      have hpl : pre.length < ps.length := by have := congrArg List.length e; simp at this; omega
      show Sd _ [.d (netD C ps), .o (s'.map knD), .d (nD i), .d (pD q), .no, .no, .no] _ _
      refine sd_setMap 4 [("place", 5), ("target", 6)] rD q.gates (fun g => D.int (g.2 : Int)) _ [5, 6] (src_tup (evd_ixT (d := .tup (q.gates.map rD)) (vv 3 rfl) evd_int at_2)) rfl scNB.nd (blkOk_by (N := nNB) (sc := defScope (top 30)) (by decide +kernel)) (by decide) (fun _ _ _ _ _ d hd => tg_two rfl (tg_name 5 scNB.nd) (tg_name 6 scNB.nd)) (fun _ _ _ _ _ d hd => vv 6 rfl) (by omega) ?_
      refine sd_append 1 rfl (d := knD q) (EvO.to (evo_op (vv 4 rfl) (evo_op (ds := List.replicate (lpN q) (D.int (-2))) (evo_lst (eva_cons (evd_glI hH) eva_nil)).toD (evd_f hl (hr.mono (by decide)) (ps, i) (eva_cons (vv 0 rfl) (eva_cons (vv 2 rfl) eva_nil)) ⟨ok, hi⟩) ?_).toD (o_addL ?_)) ?_).toD (by rw [List.length_map, es, List.length_map]; omega) ?_
      · show OpO _ _ (.lst [.int (-2)]) (.int (((ps.getD i default).roads.length : Int) - ((ps.getD i default).size - 1 : Nat))) _
        rw [eq]
        have e1 : (((q.roads.length : Int) - ((q.size - 1 : Nat) : Int))).toNat = lpN q := by unfold lpN; omega
        have := o_mulL (X := CXf P w K mg base nNB "net_book" (top 30) f cdv A outer s H E) (xs := [.int (-2)]) (k := (q.roads.length : Int) - ((q.size - 1 : Nat) : Int)) (by have := o.sz; omega) (by omega) (by rw [e1]; unfold lpN; simp; omega)
        rw [e1, flat_rep] at this
        exact this
      · unfold lpN; simp; omega
      · unfold kindsOf lpN
        rw [List.map_append, List.map_map, List.map_replicate]
        rfl
      · refine sd_nil ⟨s' ++ [q], by rw [es, List.map_append]; rfl, .eq rfl (.eq ?_ (.no (.no (.no (.no (.no .nil))))))⟩
        rw [List.map_append]
        rfl
    · rintro s' es
      have es' : s' = ps := by rw [es]; exact List.zipIdx_map_fst 0 ps
      subst es'
      refine sd_ret (lend (evd_book NB hr (vv 1 rfl) (kinds_in ok hpos)) ?_) rfl
      have e1 : ∀ k : List Int, noL (.tup (k.map D.int)) = true := fun k => by simp only [noL]; exact noLAll_ints k
      unfold bookD kiD
      simp only [noL, noLAll, noL_map e1, Bool.and_self]
end
end K86

set_option linter.all false
set_option maxRecDepth 100000
set_option maxHeartbeats 4000000
/-! k86: next_places, closed_way, closed_ways. -/
namespace K86
open PySem L2 ML
/-! the search's bookkeeping -/
theorem count_set {l : List (Option Nat)} {i x : Nat} (hi : i < l.length) (h : l.getD i none = none) : (l.set i (some x)).count none + 1 = l.count none := by
  induction l generalizing i with
  | nil => simp at hi
  | cons a l ih =>
    cases i with
    | zero =>
      simp [List.getD] at h
      subst h
      simp
    | succ i =>
      have := ih (i := i) (by simpa using hi) (by simpa [List.getD] using h)
      rw [List.set_cons_succ, List.count_cons, List.count_cons]
      omega
structure BfOk (size : Nat) (s : List (Option Nat) × List Nat) : Prop where
  len : s.1.length = size
  cnt : s.2.length + s.1.count none = size
  lt : ∀ r ∈ s.2, r < size
theorem BfOk.put {size here x : Nat} {s : List (Option Nat) × List Nat} (h : BfOk size s) (hx : x < size) (hn : s.1.getD x none = none) : BfOk size (s.1.set x (some here), s.2 ++ [x]) :=
  ⟨by simp [h.len], by
    have := count_set (x := here) (by rw [h.len]; exact hx) hn
    have := h.cnt
    simp
    omega, fun r hr => by
    rcases List.mem_append.mp hr with z | z
    · exact h.lt r z
    · rw [List.mem_singleton.mp z]; exact hx⟩
theorem BfOk.e {size here : Nat} {s : List (Option Nat) × List Nat} (h : BfOk size s) {r : Nat × Nat} (hr : r.1 < size ∧ r.2 < size) : BfOk size (bfE here s r) := by
  unfold bfE
  have h1 : BfOk size (if r.1 = here ∧ s.1.getD r.2 none = none then (s.1.set r.2 (some here), s.2 ++ [r.2]) else s) := by
    split
    · rename_i z; exact h.put hr.2 z.2
    · exact h
  simp only
  generalize (if r.1 = here ∧ s.1.getD r.2 none = none then (s.1.set r.2 (some here), s.2 ++ [r.2]) else s) = s1 at h1 ⊢
  split
  · rename_i z; exact h1.put hr.1 z.2
  · exact h1
theorem BfOk.fold {size here : Nat} {tree : List (Nat × Nat)} (ht : RIn size tree) {s : List (Option Nat) × List Nat} (h : BfOk size s) : BfOk size (tree.foldl (bfE here) s) := by
  induction tree generalizing s with
  | nil => exact h
  | cons r tree ih => exact ih (fun x hx => ht x (by simp [hx])) (h.e (ht r (by simp)))
theorem bf0_ok {size goal : Nat} (hg : goal < size) : BfOk size ((bf0 size goal).ahead, (bf0 size goal).reached) := by
  refine ⟨by simp [bf0], ?_, fun r hr => by simp [bf0] at hr; omega⟩
  have := count_set (l := List.replicate size none) (i := goal) (x := goal) (by simpa using hg) (by simp [List.getD, hg])
  simp [bf0] at this ⊢
  omega
theorem isNon_oD (o : Option Nat) : isNonD (oD o) = decide (o = none) := by cases o <;> simp [oD, isNonD]
theorem map_oD_set {l : List (Option Nat)} {i x : Nat} : (l.map oD).set i (nD x) = (l.set i (some x)).map oD := by rw [List.map_set]; rfl
section
variable {P : Program} {w : World} {K : PySem.W.Frag} {mg : Str → Option Value} {base : Heap}
abbrev nNext : List Str := ["places", "tree", "goal", "ahead", "reached", "index", "here", "one", "two"]
theorem scNext : FnScope nNext ["places", "tree", "goal"] (defScope (top 18)) := ⟨rfl, rfl, rfl, by decide +kernel, rfl, by decide +kernel, by decide +kernel⟩
abbrev nextSp : List D → D → Prop := fsp (fun (g : Nat × List (Nat × Nat) × Nat) => [nD g.1, .lst (g.2.1.map rD), nD g.2.2]) (fun g => g.1 ≤ 1000 ∧ g.2.1.length ≤ 1000 ∧ RIn g.1 g.2.1 ∧ g.2.2 < g.1) fun g => .lst ((nextP g.1 g.2.1 g.2.2).map oD)
theorem pip_add {X : Cx} : PIp X .Add (ipI (· + ·)) := ip_add
theorem kn_next (D0 : Dn K mg "next_places" (top 18)) (B : Bi mg) : Kn P w K mg base 1 "next_places" nextSp :=
  kn_mk (N := nNext) (ps := ["places", "tree", "goal"]) 0 D0 scNext (fun _ => rfl) (by decide) (fun _ _ _ _ _ _ us hl => match us, hl with | [_, _, _], _ => rfl) fun f cdv A outer s H E hr ⟨size, tree, goal⟩ ⟨h1, h2, h3, h4⟩ => by
    simp only at h1 h2 h3 h4
    show Sd _ [.d (nD size), .d (.lst (tree.map rD)), .d (nD goal), .no, .no, .no, .no, .no, .no] _ _
    refine sd_setO 3 (EvO.to (ds' := (List.replicate size none).map oD) (evo_op (evo_lst (eva_cons evd_non eva_nil)).toD (vv 0 rfl) (o_mulL (by omega) (by omega) (by simp; omega))) (by rw [flat_rep, Int.toNat_natCast, List.map_replicate]; rfl)) scNext.nd ?_
    refine sd_item 3 rfl (vv 2 rfl) (vv 2 rfl) (Evl.ixN_nat (by simpa using h4)) ?_
    rw [map_oD_set]
    refine sd_setO 4 (evo_lst (eva_cons (vv 2 rfl) eva_nil)) scNext.nd ?_
    refine sd_set 5 evd_int scNext.nd ?_
    have st : ∀ s : Bf, s.index < s.reached.length → BfOk size (s.ahead, s.reached) → s.reached.length ≤ size := fun s _ o => by have := o.cnt; simp only at this; omega
    refine sd_while (S := Bf) (fun s => [.d (nD size), .d (.lst (tree.map rD)), .d (nD goal), .o (s.ahead.map oD), .o (s.reached.map nD), .d (nD s.index), .no, .no, .no])
      (fun s => BfOk size (s.ahead, s.reached) ∧ bfRun tree (size - s.index) s = bfRun tree size (bf0 size goal)) (fun s => size - s.index) (fun _ => False) (bf0 size goal) ⟨bf0_ok h4, by simp [bf0]⟩ (.eq rfl (.eq rfl (.eq rfl (.eq rfl (.eq rfl (.eq rfl (.no (.no (.no .nil)))))))))
      (fun s => decide ((s.index : Int) < (s.reached.length : Int))) ?_ ?_ ?_ (fun _ h => h.elim)
    · rintro s ⟨o, -⟩
      refine lendT ((evt_cmp (vv 5 rfl) (evd_bi (eva_cons (vv 4 rfl) eva_nil) c_lenL B.len (by decide +kernel)) o_lt).to ?_)
      rw [List.length_map]
    · rintro s ⟨o, hF⟩ ht
      have hlt : s.index < s.reached.length := by have := of_decide_eq_true ht; omega
      have hle := st s hlt o
      have hh : s.reached.getD s.index 0 < size := o.lt _ (by simp [List.getD, hlt])
      generalize hhere : s.reached.getD s.index 0 = here at hh
      refine sd_set 6 (lend (evd_ixL (vv 4 rfl) (vv 5 rfl) (at_mapD 0 hlt)) rfl) scNext.nd ?_
      rw [hhere]
      refine sd_for (α := Nat × Nat) (S := List (Option Nat) × List Nat) (enc := rD) (xs := tree) (fun pre t => t = pre.foldl (bfE here) (s.ahead, s.reached) ∧ BfOk size t)
        (fun t => [.d (nD size), .d (.lst (tree.map rD)), .d (nD goal), .o (t.1.map oD), .o (t.2.map nD), .d (nD s.index), .d (nD here), .no, .no])
        (fun t x => [.d (nD size), .d (.lst (tree.map rD)), .d (nD goal), .o (t.1.map oD), .o (t.2.map nD), .d (nD s.index), .d (nD here), .d (nD x.1), .d (nD x.2)]) (js := fun _ _ => [7, 8]) (fun _ => False)
        (src_lst (vv 1 rfl)) rfl (s.ahead, s.reached) ⟨rfl, o⟩ (.eq rfl (.eq rfl (.eq rfl (.eq rfl (.eq rfl (.eq rfl (.eq rfl (.no (.no .nil))))))))) (fun pre x post t e _ => tg_two rfl (tg_name 7 scNext.nd) (tg_name 8 scNext.nd)) ?_ ?_ (fun _ h => h.elim)
      · rintro pre ⟨x, y⟩ post ⟨ah, re⟩ e ⟨et, ot⟩
        have hxy := h3 (x, y) (by rw [e]; simp)
        simp only at hxy
        show Sd _ [.d (nD size), .d (.lst (tree.map rD)), .d (nD goal), .o (ah.map oD), .o (re.map nD), .d (nD s.index), .d (nD here), .d (nD x), .d (nD y)] _ _
        -- one step of the two
        have half : ∀ {X : Cx}, True := fun {X} => trivial
        let t1 : List (Option Nat) × List Nat := if x = here ∧ ah.getD y none = none then (ah.set y (some here), re ++ [y]) else (ah, re)
        have o1 : BfOk size t1 := by
          show BfOk size (if x = here ∧ ah.getD y none = none then (ah.set y (some here), re ++ [y]) else (ah, re))
          split
          · rename_i z; exact ot.put hxy.2 z.2
          · exact ot
        have l0 := ot.len
        have c0 := ot.cnt
        have l1 := o1.len
        have c1 := o1.cnt
        simp only at l0 c0
        refine sd_ifJ [.d (nD size), .d (.lst (tree.map rD)), .d (nD goal), .o (t1.1.map oD), .o (t1.2.map nD), .d (nD s.index), .d (nD here), .d (nD x), .d (nD y)]
          (lendT (evt_w (evw_and (evt_cmp (vv 7 rfl) (vv 6 rfl) o_eq) (fun _ => evw_and1 (evt_cmp (evd_ixL (vv 3 rfl) (vv 8 rfl) (at_mapD none (by omega))) evd_non o_isN))))) (fun h => ?_) (fun h => ?_) ?_
        · simp only [isNon_oD, Bool.and_eq_true, decide_eq_true_eq] at h
          have e1 : t1 = (ah.set y (some here), re ++ [y]) := if_pos ⟨by omega, h.2⟩
          refine sd_item 3 rfl (vv 6 rfl) (vv 8 rfl) (Evl.ixN_nat (by rw [List.length_map]; omega)) ?_
          rw [map_oD_set]
          refine sd_append 4 rfl (vv 8 rfl) (by rw [List.length_map]; omega) (sd_nil ?_)
          rw [e1]
          refine .eq rfl (.eq rfl (.eq rfl (.eq rfl (.eq ?_ (.eq rfl (.eq rfl (.eq rfl (.eq rfl .nil))))))))
          rw [List.map_append]; rfl
        · have e1 : t1 = (ah, re) := if_neg fun z => by
            simp only [isNon_oD, Bool.and_eq_false_iff, decide_eq_false_iff_not] at h
            rcases h with h | h
            · exact h (by omega)
            · exact h z.2
          rw [e1]
          exact sd_nil (Le.refl _)
        · generalize hg1 : t1 = t1' at o1 l1 c1
          obtain ⟨ah1, re1⟩ := t1'
          simp only at l1 c1
          have e2 : bfE here (ah, re) (x, y) = (if y = here ∧ ah1.getD x none = none then (ah1.set x (some here), re1 ++ [x]) else (ah1, re1)) := by
            show (if y = here ∧ t1.1.getD x none = none then (t1.1.set x (some here), t1.2 ++ [x]) else t1) = _
            rw [hg1]
          have ef : (pre ++ [(x, y)]).foldl (bfE here) (s.ahead, s.reached) = bfE here (ah, re) (x, y) := by rw [List.foldl_append, ← et]; rfl
          show Sd _ [.d (nD size), .d (.lst (tree.map rD)), .d (nD goal), .o (ah1.map oD), .o (re1.map nD), .d (nD s.index), .d (nD here), .d (nD x), .d (nD y)] _ _
          refine sd_if (lendT (evt_w (evw_and (evt_cmp (vv 8 rfl) (vv 6 rfl) o_eq) (fun _ => evw_and1 (evt_cmp (evd_ixL (vv 3 rfl) (vv 7 rfl) (at_mapD none (by omega))) evd_non o_isN))))) (fun h => ?_) (fun h => ?_)
          · simp only [isNon_oD, Bool.and_eq_true, decide_eq_true_eq] at h
            rw [if_pos ⟨by omega, h.2⟩] at e2
            refine sd_item 3 rfl (vv 6 rfl) (vv 7 rfl) (Evl.ixN_nat (by rw [List.length_map]; omega)) ?_
            rw [map_oD_set]
            refine sd_append 4 rfl (vv 7 rfl) (by rw [List.length_map]; omega) (sd_nil (sd_nil ⟨(ah1.set x (some here), re1 ++ [x]), ⟨by rw [ef, e2], o1.put hxy.1 h.2⟩, ?_⟩))
            refine .eq rfl (.eq rfl (.eq rfl (.eq rfl (.eq ?_ (.eq rfl (.eq rfl (.no (.no .nil))))))))
            rw [List.map_append]; rfl
          · have hn : ¬ (y = here ∧ ah1.getD x none = none) := fun z => by
              simp only [isNon_oD, Bool.and_eq_false_iff, decide_eq_false_iff_not] at h
              rcases h with h | h
              · exact h (by omega)
              · exact h z.2
            rw [if_neg hn] at e2
            exact sd_nil (sd_nil ⟨(ah1, re1), ⟨by rw [ef, e2], o1⟩, .eq rfl (.eq rfl (.eq rfl (.eq rfl (.eq rfl (.eq rfl (.eq rfl (.no (.no .nil))))))))⟩)
      · rintro ⟨ah, re⟩ ⟨et, ot⟩
        refine sd_addI 5 rfl evd_int scNext.nd pip_add (sd_nil ⟨⟨ah, re, s.index + 1⟩, ⟨ot, ?_⟩, by show size - (s.index + 1) < size - s.index; omega, .eq rfl (.eq rfl (.eq rfl (.eq rfl (.eq rfl (.eq rfl (.no (.no (.no .nil))))))))⟩)
        rw [← hF]
        have e3 : size - s.index = (size - (s.index + 1)) + 1 := by omega
        rw [e3, bfRun, if_pos hlt]
        congr 1
        unfold bfStep
        rw [hhere, ← et]
    · rintro s ⟨o, hF⟩ ht
      have hge : ¬ s.index < s.reached.length := by have := of_decide_eq_false ht; omega
      have e4 : bfRun tree (size - s.index) s = s := by
        cases size - s.index with
        | zero => rfl
        | succ n => rw [bfRun, if_neg hge]
      refine sd_retO 3 rfl ?_
      show D.lst _ = D.lst _
      rw [show nextP size tree goal = s.ahead from by unfold nextP; rw [← hF, e4]]
end
end K86

set_option linter.all false
set_option maxRecDepth 100000
set_option maxHeartbeats 4000000
/-! k86: closed_way, closed_ways. -/
namespace K86
open PySem L2 ML
theorem follow_len (ahead : List (Option Nat)) (first : Nat) : ∀ n place, (follow ahead first n place).length ≤ n
  | 0, _ => Nat.le_refl _
  | n + 1, place => by
    unfold follow
    split
    · simp
    · have := follow_len ahead first n ((ahead.getD place none).getD 0)
      rw [List.length_cons]; omega
theorem bfRun_ok {size : Nat} {tree : List (Nat × Nat)} (ht : RIn size tree) : ∀ (n : Nat) (s : Bf), BfOk size (s.ahead, s.reached) → BfOk size ((bfRun tree n s).ahead, (bfRun tree n s).reached)
  | 0, s, h => h
  | n + 1, s, h => by
    unfold bfRun
    split
    · exact bfRun_ok ht n _ (h.fold ht)
    · exact h
theorem nextP_len {size goal : Nat} {tree : List (Nat × Nat)} (ht : RIn size tree) (hg : goal < size) : (nextP size tree goal).length = size := (bfRun_ok ht size _ (bf0_ok hg)).len
theorem wD_noL (w : List Nat) : noL (.tup (w.map nD)) = true := by simp only [noL]; exact noL_nats w
theorem o_ninTn {X : Cx} {i : Nat} {ns : List Nat} : OpD X (compareOp .NotIn) (nD i) (.tup (ns.map nD)) (.bl (!decide (i ∈ ns))) := by
  have h := o_ninT (X := X) (i := (i : Int)) (ns := ns.map fun (n : Nat) => (n : Int))
  rw [List.map_map] at h
  have e : decide ((i : Int) ∈ ns.map fun n : Nat => (n : Int)) = decide (i ∈ ns) := by
    apply decide_eq_decide.mpr
    simp
    constructor
    · rintro ⟨a, ha, e⟩; have : a = i := by omega
      rw [← this]; exact ha
    · exact fun h => ⟨i, h, rfl⟩
  rw [e] at h
  exact h
section
variable {P : Program} {w : World} {K : PySem.W.Frag} {mg : Str → Option Value} {base : Heap}
abbrev nWay : List Str := ["places", "tree", "road", "first", "place", "ahead", "way"]
theorem scWay : FnScope nWay ["places", "tree", "road"] (defScope (top 19)) := ⟨rfl, rfl, rfl, by decide +kernel, rfl, by decide +kernel, by decide +kernel⟩
abbrev waySp : List D → D → Prop := fsp (fun (g : Nat × List (Nat × Nat) × (Nat × Nat)) => [nD g.1, .lst (g.2.1.map rD), rD g.2.2]) (fun g => g.1 ≤ 1000 ∧ g.2.1.length ≤ 1000 ∧ RIn g.1 g.2.1 ∧ (g.2.2.1 < g.1 ∧ g.2.2.2 < g.1) ∧ reach (nextP g.1 g.2.1 g.2.2.1) g.2.2.1 g.1 g.2.2.2) fun g => .tup ((cway g.1 g.2.1 g.2.2).map nD)
theorem kn_way (D0 : Dn K mg "closed_way" (top 19)) (B : Bi mg) (hn : Kn P w K mg base 1 "next_places" nextSp) : Kn P w K mg base 2 "closed_way" waySp :=
  kn_mk (N := nWay) (ps := ["places", "tree", "road"]) 1 D0 scWay (fun _ => rfl) (by decide) (fun _ _ _ _ _ _ us hl => match us, hl with | [_, _, _], _ => rfl) fun f cdv A outer s H E hr ⟨size, tree, first, place⟩ ⟨h1, h2, h3, h4, h5⟩ => by
    simp only at h1 h2 h3 h4 h5
    have hlen := nextP_len h3 h4.1
    show Sd _ [.d (nD size), .d (.lst (tree.map rD)), .d (rD (first, place)), .no, .no, .no, .no] _ { nx := fun _ => D.tup ((cway size tree (first, place)).map nD) = .non, rt := fun d' => d' = D.tup ((cway size tree (first, place)).map nD) }
    have hc : cway size tree (first, place) = first :: follow (nextP size tree first) first size place := rfl
    generalize hah : nextP size tree first = ahead at h5 hlen hc
    refine sd_tg (d := rD (first, place)) (vv 2 rfl) (tg_two rfl (tg_name 3 scWay.nd) (tg_name 4 scWay.nd)) ?_
    refine sd_set 5 (evd_f hn hr (size, tree, first) (eva_cons (vv 0 rfl) (eva_cons (vv 1 rfl) (eva_cons (vv 3 rfl) eva_nil))) ⟨h1, h2, h3, h4.1⟩) scWay.nd ?_
    simp only [hah]
    refine sd_setO 6 (evo_lst (eva_cons (vv 3 rfl) eva_nil)) scWay.nd ?_
    refine sd_while (S := Nat × Nat × List Nat) (fun s => [.d (nD size), .d (.lst (tree.map rD)), .d (rD (first, place)), .d (nD first), .d (nD s.2.1), .d (.lst (ahead.map oD)), .o (s.2.2.map nD)])
      (fun s => s.1 ≤ size ∧ reach ahead first s.1 s.2.1 ∧ s.2.2 ++ follow ahead first s.1 s.2.1 = cway size tree (first, place)) (fun s => s.1) (fun _ => False) (size, place, [first]) ⟨Nat.le_refl _, h5, by rw [hc]; rfl⟩
      (.eq rfl (.eq rfl (.eq rfl (.eq rfl (.eq rfl (.eq rfl (.eq rfl .nil))))))) (fun s => !decide ((s.2.1 : Int) = (first : Int))) ?_ ?_ ?_ (fun _ h => h.elim)
    · rintro s -
      exact evt_cmp (vv 4 rfl) (vv 3 rfl) o_ne
    · rintro ⟨n, pl, wy⟩ ⟨hn1, hre, he⟩ ht
      simp only at hn1 hre he
      have hne : pl ≠ first := fun z => by simp [z] at ht
      cases n with
      | zero => exact absurd hre hne
      | succ n =>
        rcases hre with hre | ⟨q, hq, hre⟩
        · exact absurd hre hne
        · have hpl : pl < ahead.length := by
            by_cases z : pl < ahead.length
            · exact z
            · simp [List.getD, z] at hq
          have hwl : wy.length ≤ size + 1 := by
            have := congrArg List.length he
            rw [hc] at this
            have := follow_len ahead first size place
            simp at *
            omega
          show Sd _ [.d (nD size), .d (.lst (tree.map rD)), .d (rD (first, place)), .d (nD first), .d (nD pl), .d (.lst (ahead.map oD)), .o (wy.map nD)] _ _
          refine sd_append 6 rfl (vv 4 rfl) (by rw [List.length_map]; omega) ?_
          refine sd_set 4 (evd_ixL (vv 5 rfl) (vv 4 rfl) (at_mapD none hpl)) scWay.nd ?_
          rw [hq]
          refine sd_nil ⟨(n, q, wy ++ [pl]), ⟨by show n ≤ size; omega, hre, ?_⟩, Nat.lt_succ_self n, .eq rfl (.eq rfl (.eq rfl (.eq rfl (.eq rfl (.eq rfl (.eq ?_ .nil))))))⟩
          · rw [← he]
            show (wy ++ [pl]) ++ follow ahead first n q = wy ++ follow ahead first (n + 1) pl
            rw [follow, if_neg hne, hq]
            simp
          · rw [List.map_append]; rfl
    · rintro ⟨n, pl, wy⟩ ⟨hn1, hre, he⟩ ht
      have hpl : pl = first := by
        have z : decide ((pl : Int) = (first : Int)) = true := by simpa using ht
        have := of_decide_eq_true z
        omega
      refine sd_ret (lend (evd_ty (eva_cons (vv 6 rfl) eva_nil) c_tupL B.tuple (by decide +kernel)) (noL_nats _)) ?_
      show D.tup _ = D.tup _
      have e0 : follow ahead first n pl = [] := by
        cases n with
        | zero => rfl
        | succ n => rw [follow, if_pos hpl]
      simp only [e0, List.append_nil] at he
      rw [he]
abbrev nWays : List Str := ["net", "kind", "places", "roads", "_", "taken", "tree", "number", "road"]
theorem scWays : FnScope nWays ["net", "kind"] (defScope (top 20)) := ⟨rfl, rfl, rfl, by decide +kernel, rfl, by decide +kernel, by decide +kernel⟩
abbrev waysSp (C : Addr) : List D → D → Prop := fsp (fun (g : List Piece × Nat) => [netD C g.1, nD g.2]) (fun g => Ok g.1 ∧ g.2 < g.1.length) fun g => .tup ((cways (g.1.getD g.2 default)).map fun w => .tup (w.map nD))
theorem treeOf_in {p : Piece} {many : Nat} (o : p.Ok many) : RIn p.size (treeOf p.roads (jr p.size p.roads)) := fun r hr => by
  obtain ⟨i, hi, rfl⟩ := List.mem_map.mp hr
  have hl := jr_lt hi
  exact o.roads _ (by simp [List.getD, hl])
theorem kn_ways {C : Addr} (D0 : Dn K mg "closed_ways" (top 20)) (T : NetT K mg C) (B : Bi mg) (hs : Kn P w K mg base 3 "spanning" (spanSp C)) (hw : Kn P w K mg base 2 "closed_way" waySp) : Kn P w K mg base 4 "closed_ways" (waysSp C) :=
  kn_mk (N := nWays) (ps := ["net", "kind"]) 3 D0 scWays (fun _ => rfl) (by decide) (fun _ _ _ _ _ _ us hl => match us, hl with | [_, _], _ => rfl) fun f cdv A outer s H E hr ⟨ps, k⟩ ⟨ok, hk⟩ => by
    simp only at ok hk
    have o := ok.at hk
    generalize hq : ps.getD k default = q at o
    have hsz := o.sz
    have hrl := o.rl
    have hjl : (jr q.size q.roads).length ≤ 20 := by rw [o.conn]; omega
    show Sd _ [.d (netD C ps), .d (nD k), .no, .no, .no, .no, .no, .no, .no] _ { nx := fun _ => D.tup ((cways q).map fun w => .tup (w.map nD)) = .non, rt := fun d' => d' = D.tup ((cways q).map fun w => .tup (w.map nD)) }
    refine sd_tg (d := pD q) ((evd_piece T (vv 0 rfl) (vv 1 rfl) hk).to (by rw [hq])) (tg_three rfl (tg_name 2 scWays.nd) (tg_name 3 scWays.nd) (tg_name 4 scWays.nd)) ?_
    refine sd_set 5 (evd_f hs hr (ps, k) (eva_cons (vv 0 rfl) (eva_cons (vv 1 rfl) eva_nil)) ⟨ok, hk⟩) scWays.nd ?_
    simp only [hq]
    refine sd_set 6 (EvO.toD (evo_map [("number", 7)] nD (jr q.size q.roads) (fun i => rD (q.roads.getD i (0, 0))) _ [7] (src_tup (vv 5 rfl)) rfl scWays.nd (blkOk_by (N := nWays) (sc := defScope (top 20)) (by decide +kernel)) (by decide) (fun _ _ _ _ _ d hd => tg_name 7 scWays.nd) (fun _ _ _ _ _ d hd => ?_) (by omega))) scWays.nd ?_
    · exact evd_ixT (vv 3 rfl) (vv 7 rfl) (at_mapD (0, 0) (jr_lt hd))
    refine sd_ret (evd_ty (eva_cons (EvO.toD (evo_lc (enc := fun p : (Nat × Nat) × Nat => .tup [nD p.2, rD p.1]) (items := q.roads.zipIdx) (p := fun r => !decide (r.2 ∈ jr q.size q.roads)) (f := fun r => .tup ((cway q.size (treeOf q.roads (jr q.size q.roads)) r.1).map nD)) (js := [7, 8]) [("number", 7), ("road", 8)]
      (src_enumTm (vv 3 rfl) B.enum) rfl scWays.nd (blkOk_by (N := nWays) (sc := defScope (top 20)) (by decide +kernel)) (by decide) (fun _ _ _ _ _ d hd => tg_two rfl (tg_name 7 scWays.nd) (tg_name 8 scWays.nd)) (fun _ _ _ _ _ d hd => evts_one (evt_cmp (vv 7 rfl) (vv 5 rfl) o_ninTn)) (fun _ _ _ _ _ d hd _ => ?_) (by simp; omega))) eva_nil) c_tupL B.tuple (by decide +kernel)) ?_
    · have hd1 : d.1 ∈ q.roads := by
        have := List.mem_zipIdx_iff_getElem?.mp (show (d.1, d.2) ∈ q.roads.zipIdx from hd)
        exact List.mem_of_getElem? this
      have hrr := o.roads d.1 hd1
      exact evd_fB hw (hr.mono (by decide)) (q.size, treeOf q.roads (jr q.size q.roads), d.1) (eva_cons (vv 2 rfl) (eva_cons (EvD.to (vv 6 rfl) (by unfold treeOf; rw [List.map_map]; rfl)) (eva_cons (vv 8 rfl) eva_nil))) ⟨by show q.size ≤ 1000; omega, by show (treeOf q.roads (jr q.size q.roads)).length ≤ 1000; unfold treeOf; rw [List.length_map]; omega, treeOf_in o, hrr, jr_reach o hrr⟩ rfl rfl (by decide) rfl rfl
    · show D.tup _ = D.tup _
      unfold cways
      rw [List.map_map]
      congr 2
      apply List.filter_congr
      intro x _
      by_cases z : x.2 ∈ jr q.size q.roads <;> simp [z]
end
end K86

set_option linter.all false
set_option maxRecDepth 100000
set_option maxHeartbeats 4000000
/-! k86: what the law draws: cells, digits. -/
namespace K86
open PySem L2 ML
section
variable {P : Program} {w : World} {K : PySem.W.Frag} {mg : Str → Option Value} {base : Heap}
theorem scLWhole : FnScope nWhole ["value"] (defScope (top 32)) := ⟨rfl, rfl, rfl, by decide +kernel, rfl, by decide +kernel, by decide +kernel⟩
theorem kn_lwhole (D0 : Dn K mg "_law_whole" (top 32)) (B : Bi mg) : Kn P w K mg base 1 "_law_whole" whSp :=
  kn_mk (N := nWhole) (ps := ["value"]) 0 D0 scLWhole (fun _ => rfl) (by decide) (fun _ _ _ _ _ _ us hl => match us, hl with | [_], _ => rfl) fun f cdv A outer s H E hr i _ => by
    refine sd_ret (d := .bl (true && (!false))) (evd_and (evd_isi (vv 0 rfl) ty_int kit_ii B.isi B.int (by decide +kernel)) fun _ => evd_and1 (evd_not (evd_isi (vv 0 rfl) ty_int kit_ib B.isi B.bool (by decide +kernel)))) rfl
/-- int(e), e an int -/
theorem evd_int1 {X : Cx} {M : List Slot} {e : Expr} {pos p : Pos} {i : Int} (ha : EvD X M e (.int i)) (hm : X.mg "int" = none) (hg : Gl X "int" := by rfl) (he : starEach [e] X.env = (false, eval e X.env) :: starEach [] X.env := by rfl) (hpl : (backTo pos (starEach [] X.env)).any (·.1) = false := by rfl) : EvD X M (.Call (.Name "int" p) [e] [] pos) (.int i) :=
  evd_ty (eva_cons ha eva_nil he) c_int hm (by decide +kernel) hg (by decide) (by decide) he hpl
theorem seedL_bd (ns : List Int) : 0 ≤ seedL ns ∧ seedL ns < 1000003 := by
  unfold seedL
  have key : ∀ (ns : List Int) (s : Int), 0 ≤ s ∧ s < 1000003 → 0 ≤ ns.foldl (fun s c => (s * 31 + c % 1000003) % 1000003) s ∧ ns.foldl (fun s c => (s * 31 + c % 1000003) % 1000003) s < 1000003 := by
    intro ns
    induction ns with
    | nil => intro s h; exact h
    | cons c ns ih => intro s h; exact ih _ ⟨by show 0 ≤ (s * 31 + c % 1000003) % 1000003; omega, by show (s * 31 + c % 1000003) % 1000003 < 1000003; omega⟩
  exact key ns 17 ⟨by omega, by omega⟩
abbrev nCell : List Str := ["script", "k", "seed", "cell"]
theorem scCell : FnScope nCell ["script", "k"] (defScope (top 33)) := ⟨rfl, rfl, rfl, by decide +kernel, rfl, by decide +kernel, by decide +kernel⟩
abbrev cellSp : List D → D → Prop := fsp (fun (g : List Int × Nat) => [.scr g.1, nD g.2]) (fun g => g.1.length ≤ 1000 ∧ g.2 ≤ 1000) fun g => .int (cellL g.1 g.2)
theorem kn_cell (D0 : Dn K mg "_law_cell" (top 33)) (B : Bi mg) : Kn P w K mg base 1 "_law_cell" cellSp :=
  kn_mk (N := nCell) (ps := ["script", "k"]) 0 D0 scCell (fun _ => rfl) (by decide) (fun _ _ _ _ _ _ us hl => match us, hl with | [_, _], _ => rfl) fun f cdv A outer s H E hr ⟨ns, k⟩ ⟨h1, h2⟩ => by
    simp only at h1 h2
    show Sd _ [.d (.scr ns), .d (nD k), .no, .no] _ { nx := fun _ => D.int (cellL ns k) = .non, rt := fun d' => d' = D.int (cellL ns k) }
    refine sd_if (evt_cmp (vv 1 rfl) (evd_bi (eva_cons (vv 0 rfl) eva_nil) c_lenS B.len (by decide +kernel)) o_lt) (fun h => ?_) fun h => sd_nil ?_
    · have hk : k < ns.length := by have := of_decide_eq_true h; omega
      refine sd_ret (evd_ixS (vv 0 rfl) (vv 1 rfl) (atI_nat (List.getElem?_eq_getElem hk))) ?_
      unfold cellL
      rw [if_pos hk]
      simp [List.getD, hk]
    · have hk : ¬ k < ns.length := by have := of_decide_eq_false h; omega
      refine sd_set 2 evd_int scCell.nd ?_
      refine sd_for (α := Int) (S := Int) (enc := D.int) (xs := ns) (fun pre s => s = seedL pre) (fun s => [.d (.scr ns), .d (nD k), .d (.int s), .no]) (fun s c => [.d (.scr ns), .d (nD k), .d (.int s), .d (.int c)]) (js := fun _ _ => [3]) (fun _ => False)
        (src_scr (vv 0 rfl)) rfl 17 rfl (Le.refl _) (fun pre x post s e _ => tg_name 3 scCell.nd) ?_ ?_ (fun _ h => h.elim)
      · rintro pre c post s e es
        have hb := seedL_bd pre
        refine sd_set 2 (evd_op (evd_int1 (evd_op (evd_op (vv 2 rfl) evd_int (o_mul (.inr (by decide)))) (evd_op (evd_int1 (vv 3 rfl) B.int) evd_int (o_mod (by decide))) o_add) B.int) evd_int (o_mod (by decide))) scCell.nd ?_
        refine sd_nil ⟨_, ?_, .eq rfl (.eq rfl (.eq rfl (.no .nil)))⟩
        rw [es]
        unfold seedL
        rw [List.foldl_append]
        rfl
      · rintro s es
        have hb := seedL_bd ns
        refine sd_ret (evd_op (evd_int1 (evd_op (evd_op (evd_op (vv 2 rfl) evd_int o_add) (evd_op (vv 1 rfl) evd_int o_add) (o_mul (.inl (by rw [es]; omega)))) evd_int (o_mul (.inr (by decide)))) B.int) evd_int (o_mod (by decide))) ?_
        unfold cellL
        rw [if_neg hk, es]
abbrev nDig : List Str := ["cell", "sizes", "row", "seed", "rest", "k", "twice"]
theorem scDig : FnScope nDig ["cell", "sizes"] (defScope (top 34)) := ⟨rfl, rfl, rfl, by decide +kernel, rfl, by decide +kernel, by decide +kernel⟩
/-- sizes that digits are drawn below -/
def SzOk (sizes : List Nat) : Prop := sizes.length ≤ 1000 ∧ ∀ s ∈ sizes, 0 < s ∧ s < 1073741824
abbrev digSp : List D → D → Prop := fsp (fun (g : Int × List Nat) => [.int g.1, .lst (g.2.map nD)]) (fun g => SzOk g.2) fun g => .lst ((digs g.1 g.2).map nD)
theorem kn_dig (D0 : Dn K mg "_law_digits" (top 34)) (B : Bi mg) : Kn P w K mg base 1 "_law_digits" digSp :=
  kn_mk (N := nDig) (ps := ["cell", "sizes"]) 0 D0 scDig (fun _ => rfl) (by decide) (fun _ _ _ _ _ _ us hl => match us, hl with | [_, _], _ => rfl) fun f cdv A outer s H E hr ⟨c, sizes⟩ ⟨h1, h2⟩ => by
    simp only at h1 h2
    show Sd _ [.d (.int c), .d (.lst (sizes.map nD)), .no, .no, .no, .no, .no] _ { nx := fun _ => D.lst ((digs c sizes).map nD) = .non, rt := fun d' => d' = D.lst ((digs c sizes).map nD) }
    refine sd_setO 2 (evo_lst eva_nil) scDig.nd ?_
    refine sd_set 3 (evd_op (evd_int1 (vv 0 rfl) B.int) evd_int (o_mod (by decide))) scDig.nd ?_
    refine sd_set 4 (evd_bi (eva_cons evd_int (eva_cons (evd_op (evd_int1 (vv 0 rfl) B.int) (evd_op evd_int evd_int (o_pow (by decide))) o_sub) eva_nil)) (c_max2 rfl) B.max (by decide +kernel)) scDig.nd ?_
    refine sd_for (α := Nat) (S := List Nat × Int × Int) (enc := fun i => D.int (i : Int)) (xs := List.range sizes.length) (fun pre s => s = pre.foldl (dgStep sizes) ([], c % 2147483629, max 0 (c - 10 ^ 18)) ∧ s.1.length = pre.length ∧ 0 ≤ s.2.1 ∧ s.2.1 < 2147483647)
      (fun s => [.d (.int c), .d (.lst (sizes.map nD)), .o (s.1.map nD), .d (.int s.2.1), .d (.int s.2.2), .no, .no]) (fun s k => [.d (.int c), .d (.lst (sizes.map nD)), .o (s.1.map nD), .d (.int s.2.1), .d (.int s.2.2), .d (nD k), .no]) (js := fun _ _ => [5]) (fun _ => False)
      (src_rng1 (n := (sizes.length : Int)) (EvD.to (evd_bi (eva_cons (vv 1 rfl) eva_nil) c_lenL B.len (by decide +kernel)) (by rw [List.length_map])) (by omega) (by omega) B.range) rfl ([], c % 2147483629, max 0 (c - 10 ^ 18)) ⟨rfl, rfl, by show 0 ≤ c % 2147483629; omega, by show c % 2147483629 < _; omega⟩ (Le.refl _) (fun pre x post s e _ => tg_name 5 scDig.nd) ?_ ?_ (fun _ h => h.elim)
    · rintro pre k post ⟨row, seed, rest⟩ e ⟨es, el, b1, b2⟩
      simp only at el b1 b2
      have hk : k < sizes.length := by have : k ∈ List.range sizes.length := by rw [e]; simp
                                       simpa using this
      have hpl : pre.length < sizes.length := by have := congrArg List.length e; simp at this; omega
      have hs := h2 (sizes.getD k 0) (by simp [List.getD, hk])
      show Sd _ [.d (.int c), .d (.lst (sizes.map nD)), .o (row.map nD), .d (.int seed), .d (.int rest), .d (nD k), .no] _ _
      refine sd_set 3 (d := .int (dgSeed seed k)) (evd_op (evd_int1 (evd_op (evd_op (evd_op (vv 3 rfl) evd_int (o_mul (.inr (by decide)))) (evd_op evd_int (vv 5 rfl) (o_mul (.inl (by decide)))) o_add) evd_int o_add) B.int) evd_int (o_mod (by decide))) scDig.nd ?_
      have c1 : 0 ≤ dgSeed seed k ∧ dgSeed seed k < 2147483647 := by unfold dgSeed; omega
      generalize hsd : dgSeed seed k = sd at c1
      refine sd_set 6 (d := .int (dgTwice sd)) (evd_op (evd_int1 (evd_op (vv 3 rfl) (evd_op (evd_op (vv 3 rfl) evd_int (o_fdiv (by decide))) evd_int o_add) (o_mul (.inl (by omega)))) B.int) evd_int (o_mod (by decide))) scDig.nd ?_
      generalize htw : dgTwice sd = tw
      have estep : (pre ++ [k]).foldl (dgStep sizes) ([], c % 2147483629, max 0 (c - 10 ^ 18)) = dgStep sizes (row, seed, rest) k := by rw [List.foldl_append, ← es]; rfl
      have hnat : ∀ a : Int, D.int (a % (sizes.getD k 0 : Int)) = nD (a % (sizes.getD k 0 : Int)).toNat := fun a => by
        have : 0 ≤ a % (sizes.getD k 0 : Int) := Int.emod_nonneg _ (by omega)
        show D.int _ = D.int _
        rw [Int.toNat_of_nonneg this]
      refine sd_if (evt_cmp (vv 4 rfl) evd_int o_gt) (fun h => ?_) (fun h => ?_)
      · have hp : 0 < rest := of_decide_eq_true h
        refine sd_append 2 rfl (evd_op (evd_int1 (vv 4 rfl) B.int) (evd_ixL (vv 1 rfl) (vv 5 rfl) (at_mapD 0 hk)) (o_mod (by omega))) (by rw [List.length_map]; omega) ?_
        refine sd_set 4 (evd_op (evd_int1 (vv 4 rfl) B.int) (evd_ixL (vv 1 rfl) (vv 5 rfl) (at_mapD 0 hk)) (o_fdiv (by omega))) scDig.nd ?_
        refine sd_nil (sd_nil ⟨(row ++ [(rest % (sizes.getD k 0 : Int)).toNat], sd, rest / (sizes.getD k 0 : Int)), ⟨?_, by simp [el], c1.1, c1.2⟩, ?_⟩)
        · rw [estep]
          unfold dgStep
          simp only [hsd]
          rw [if_pos hp]
        · refine .eq rfl (.eq rfl (.eq ?_ (.eq rfl (.eq rfl (.no (.no .nil))))))
          rw [List.map_append, hnat]
          rfl
      · have hp : ¬ 0 < rest := of_decide_eq_false h
        refine sd_append 2 rfl (evd_op (evd_op (vv 6 rfl) evd_int (o_fdiv (by decide))) (evd_ixL (vv 1 rfl) (vv 5 rfl) (at_mapD 0 hk)) (o_mod (by omega))) (by rw [List.length_map]; omega) ?_
        refine sd_nil (sd_nil ⟨(row ++ [(dgTwice sd / 19 % (sizes.getD k 0 : Int)).toNat], sd, rest), ⟨?_, by simp [el], c1.1, c1.2⟩, ?_⟩)
        · rw [estep]
          unfold dgStep
          simp only [hsd]
          rw [if_neg hp]
        · refine .eq rfl (.eq rfl (.eq ?_ (.eq rfl (.eq rfl (.no (.no .nil))))))
          rw [List.map_append, hnat, htw]
          rfl
    · rintro ⟨row, seed, rest⟩ ⟨es, -⟩
      refine sd_retO 2 rfl ?_
      show D.lst _ = D.lst _
      rw [show row = digs c sizes from congrArg Prod.fst es]
theorem szL : SzOk sizesL := ⟨by decide, by decide⟩
abbrev nSizes : List Str := ["tree"]
theorem scSizes : FnScope nSizes [] (defScope (top 35)) := ⟨rfl, rfl, rfl, by decide +kernel, rfl, by decide +kernel, by decide +kernel⟩
abbrev sizesSp : List D → D → Prop := fsp (fun (_ : Unit) => []) (fun _ => True) fun _ => .lst (sizesL.map nD)
theorem kn_sizes (D0 : Dn K mg "_law_piece_sizes" (top 35)) : Kn P w K mg base 1 "_law_piece_sizes" sizesSp :=
  kn_mk (N := nSizes) (ps := []) 0 D0 scSizes (fun _ => rfl) (by decide) (fun _ _ _ _ _ _ us hl => match us, hl with | [], _ => rfl) fun f cdv A outer s H E hr _ _ => by
    refine sd_set 0 (evo_op (evo_op (evo_lst (eva_cons evd_int eva_nil)).toD evd_int (o_mulL (by decide) (by decide) (by decide))).toD (evo_op (evo_lst (eva_cons evd_int (eva_cons evd_int eva_nil))).toD evd_int (o_mulL (by decide) (by decide) (by decide))).toD (o_addL (by decide))).toD scSizes.nd ?_
    refine sd_ret (evo_op (evo_op (evo_op (evo_lst (eva_cons evd_int (eva_cons evd_int (eva_cons evd_int eva_nil)))).toD (vv 0 rfl) (o_addL (by decide))).toD (evo_op (evo_lst (eva_cons evd_int (eva_cons evd_int (eva_cons evd_int (eva_cons evd_int eva_nil))))).toD evd_int (o_mulL (by decide) (by decide) (by decide))).toD (o_addL (by decide))).toD (evo_op (evo_lst (eva_cons evd_int (eva_cons evd_int (eva_cons evd_int eva_nil)))).toD evd_int (o_mulL (by decide) (by decide) (by decide))).toD (o_addL (by decide))).toD ?_
    rfl
abbrev nGk : List Str := ["way", "digit", "k", "many"]
theorem scGk : FnScope nGk nGk (defScope (top 36)) := ⟨rfl, rfl, rfl, by decide +kernel, rfl, by decide +kernel, by decide +kernel⟩
abbrev gkSp : List D → D → Prop := fsp (fun (g : Nat × Nat × Nat × Nat) => [nD g.1, nD g.2.1, nD g.2.2.1, nD g.2.2.2]) (fun g => g.2.2.1 < g.2.2.2) fun g => nD (gkF g.1 g.2.1 g.2.2.1 g.2.2.2)
theorem kn_gk (D0 : Dn K mg "_law_gate_kind" (top 36)) (B : Bi mg) : Kn P w K mg base 1 "_law_gate_kind" gkSp :=
  kn_mk (N := nGk) (ps := nGk) 0 D0 scGk (fun _ => rfl) (by decide) (fun _ _ _ _ _ _ us hl => match us, hl with | [_, _, _, _], _ => rfl) fun f cdv A outer s H E hr ⟨way, digit, k, many⟩ hk => by
    simp only at hk
    show Sd _ [.d (nD way), .d (nD digit), .d (nD k), .d (nD many)] _ { nx := fun _ => nD (gkF way digit k many) = .non, rt := fun d' => d' = nD (gkF way digit k many) }
    refine sd_if (evt_cmp (vv 0 rfl) evd_int o_lt) (fun h => sd_ret (evd_op (evd_int1 (vv 1 rfl) B.int) (vv 3 rfl) (o_mod (by omega))) ?_) fun h => sd_nil ?_
    · have := of_decide_eq_true h
      unfold gkF
      rw [if_pos (by omega)]
      show D.int _ = D.int _
      simp
    have z1 := of_decide_eq_false h
    refine sd_if (evt_cmp (vv 0 rfl) evd_int o_lt) (fun h => sd_ret (vv 2 rfl) ?_) fun h => sd_nil ?_
    · have := of_decide_eq_true h
      unfold gkF
      rw [if_neg (by omega), if_pos (by omega)]
    have z2 := of_decide_eq_false h
    refine sd_if (evt_cmp (vv 0 rfl) evd_int o_eq) (fun h => sd_ret (evd_bi (eva_cons (evd_op (vv 3 rfl) evd_int o_sub) (eva_cons (evd_op (vv 2 rfl) evd_int o_add) eva_nil)) (c_min2 rfl) B.min (by decide +kernel)) ?_) fun h => sd_nil ?_
    · have := of_decide_eq_true h
      unfold gkF
      rw [if_neg (by omega), if_neg (by omega), if_pos (by omega)]
      exact congrArg D.int (by omega)
    have z3 := of_decide_eq_false h
    refine sd_ret (evd_op (vv 2 rfl) (evd_op (evd_int1 (vv 1 rfl) B.int) (evd_op (vv 3 rfl) (vv 2 rfl) o_sub) (o_mod (by omega))) o_add) ?_
    unfold gkF
    rw [if_neg (by omega), if_neg (by omega), if_neg (by omega)]
    have e : ((many : Int) - (k : Int)) = ((many - k : Nat) : Int) := by omega
    show D.int _ = D.int _
    rw [e]
    simp
end
end K86

set_option linter.all false
set_option maxRecDepth 100000
set_option maxHeartbeats 8000000
/-! k86: the drawn pieces. -/
namespace K86
open PySem L2 ML
theorem insAt_map {α β : Type} (f : α → β) (l : List α) (i : Nat) (x : α) : (insAt l i x).map f = (l.map f).take i ++ [f x] ++ (l.map f).drop i := by simp [insAt, List.map_take, List.map_drop]
theorem insAt_len {α : Type} (l : List α) (i : Nat) (x : α) : (insAt l i x).length = l.length + 1 := by
  simp only [insAt, List.length_append, List.length_take, List.length_drop, List.length_cons, List.length_nil]; omega
theorem nmod (a b : Nat) : ((a : Int) % (b : Int)) = ((a % b : Nat) : Int) := by simp
theorem ndiv (a b : Nat) : ((a : Int) / (b : Int)) = ((a / b : Nat) : Int) := by simp
structure RowOk (row : List Nat) : Prop where
  len : row.length = 141
  b0 : row.getD 0 0 < 24
  b1 : row.getD 1 0 < 42
  b2 : row.getD 2 0 < 17
theorem RowOk.size {row : List Nat} (h : RowOk row) : 0 < pcSize row ∧ pcSize row ≤ 12 := by
  have := h.b0
  unfold pcSize
  split <;> omega
theorem RowOk.more {row : List Nat} (h : RowOk row) : pcMore row ≤ 20 := by
  unfold pcMore
  split <;> omega
theorem RowOk.count {row : List Nat} (h : RowOk row) : pcCount row ≤ 8 := by
  unfold pcCount
  split <;> omega
section
variable {P : Program} {w : World} {K : PySem.W.Frag} {mg : Str → Option Value} {base : Heap}
abbrev nPc : List Str := ["row", "k", "many", "size", "order", "p", "roads", "i", "pair", "more", "told", "gates", "count", "aim"]
theorem scPc : FnScope nPc ["row", "k", "many"] (defScope (top 37)) := ⟨rfl, rfl, rfl, by decide +kernel, rfl, by decide +kernel, by decide +kernel⟩
abbrev pcSp : List D → D → Prop := fsp (fun (g : List Nat × Nat × Nat) => [.lst (g.1.map nD), nD g.2.1, nD g.2.2]) (fun g => RowOk g.1 ∧ g.2.1 < g.2.2) fun g => pD (pieceL g.1 g.2.1 g.2.2)
theorem evd_row {X : Cx} {M : List Slot} {a b : Expr} {pos : Pos} {row : List Nat} {j : Int} (i : Nat) (ha : EvD X M a (.lst (row.map nD))) (hb : EvD X M b (.int j)) (e : j = (i : Int)) (h : i < row.length) (hs : PlainIx b := by exact fun _ _ => rfl) : EvD X M (.Subscript a b pos) (nD (row.getD i 0)) :=
  evd_ixL ha hb (at_i e (at_mapD 0 h)) hs
theorem at2_0 {a b : D} : atI [a, b] 0 = some a := rfl
theorem at2_1 {a b : D} : atI [a, b] 1 = some b := rfl
theorem cut_row {row : List Nat} {a : Nat} (h : a + 4 ≤ row.length) : cutD (row.map nD) (some (a : Int)) (some ((a + 4 : Nat) : Int)) = [nD (row.getD a 0), nD (row.getD (a + 1) 0), nD (row.getD (a + 2) 0), nD (row.getD (a + 3) 0)] := by
  unfold cutD
  rw [HT.sIx_nat, HT.sIx_nat, List.length_map, Nat.min_eq_left (by omega), Nat.min_eq_left (by omega)]
  rw [show a + 4 - a = 4 from by omega, ← List.map_drop, ← List.map_take]
  have e : (row.drop a).take 4 = [row.getD a 0, row.getD (a + 1) 0, row.getD (a + 2) 0, row.getD (a + 3) 0] := by
    apply List.ext_getElem?
    intro i
    by_cases hi : i < 4
    · rw [List.getElem?_take_of_lt hi, List.getElem?_drop]
      have g : ∀ j, j < row.length → row[j]? = some (row.getD j 0) := fun j hj => by simp [List.getD, hj]
      match i, hi with
      | 0, _ => exact g _ (by omega)
      | 1, _ => exact g _ (by omega)
      | 2, _ => exact g _ (by omega)
      | 3, _ => exact g _ (by omega)
    · rw [List.getElem?_eq_none (by rw [List.length_take]; omega), List.getElem?_eq_none (by simp; omega)]
  rw [e]
  rfl
theorem srcTo {X : Cx} {M : List Slot} {tg e : Expr} {ds es : List D} (h : SrcD X M tg e ds) (w : ds = es) : SrcD X M tg e es := w ▸ h
theorem kn_pc (D0 : Dn K mg "_law_piece" (top 37)) (B : Bi mg) (hg : Kn P w K mg base 1 "_law_gate_kind" gkSp) : Kn P w K mg base 2 "_law_piece" pcSp :=
  kn_mk (N := nPc) (ps := ["row", "k", "many"]) 1 D0 scPc (fun _ => rfl) (by decide) (fun _ _ _ _ _ _ us hl => match us, hl with | [_, _, _], _ => rfl) fun f cdv A outer s H E hr ⟨row, k, many⟩ ⟨ro, hk⟩ => by
    simp only at ro hk
    have hrl := ro.len
    have hsz := ro.size
    have hmo := ro.more
    have hco := ro.count
    show Sd _ [.d (.lst (row.map nD)), .d (nD k), .d (nD many), .no, .no, .no, .no, .no, .no, .no, .no, .no, .no, .no] _ { nx := fun _ => pD (pieceL row k many) = .non, rt := fun d' => d' = pD (pieceL row k many) }
    refine sd_set 3 (evd_op evd_int (evd_row 0 (vv 0 rfl) evd_int rfl (by omega)) o_add) scPc.nd ?_
    refine sd_ifJ [.d (.lst (row.map nD)), .d (nD k), .d (nD many), .d (nD (pcSize row)), .no, .no, .no, .no, .no, .no, .no, .no, .no, .no] (evt_cmp (evd_row 0 (vv 0 rfl) evd_int rfl (by omega)) evd_int o_gt) (fun h => ?_) (fun h => ?_) ?_
    · have := of_decide_eq_true h
      refine sd_set 3 (evd_op evd_int (evd_op (evd_int1 (evd_row 0 (vv 0 rfl) evd_int rfl (by omega)) B.int) evd_int (o_mod (by decide))) o_add) scPc.nd (sd_nil (.eq rfl (.eq rfl (.eq rfl (.eq ?_ (.no (.no (.no (.no (.no (.no (.no (.no (.no (.no .nil)))))))))))))))
      unfold pcSize
      rw [if_pos (by omega)]
      show Slot.d (D.int _) = Slot.d (D.int _)
      congr 2
    · have := of_decide_eq_false h
      refine sd_nil (.eq rfl (.eq rfl (.eq rfl (.eq ?_ (.no (.no (.no (.no (.no (.no (.no (.no (.no (.no .nil))))))))))))))
      unfold pcSize
      rw [if_neg (by omega)]
      show Slot.d (D.int _) = Slot.d (D.int _)
      congr 2
    generalize hsize : pcSize row = size at hsz
    refine sd_setO 4 (evo_lst eva_nil) scPc.nd ?_
    -- the order of the places
    refine sd_for (α := Nat) (S := List Nat) (enc := fun i => D.int (i : Int)) (xs := List.range size) (fun pre o => o = pre.foldl (fun o p => insAt o (row.getD (3 + p) 0 % (p + 1)) p) [] ∧ o.length = pre.length)
      (fun o => [.d (.lst (row.map nD)), .d (nD k), .d (nD many), .d (nD size), .o (o.map nD), .no, .no, .no, .no, .no, .no, .no, .no, .no]) (fun o p => [.d (.lst (row.map nD)), .d (nD k), .d (nD many), .d (nD size), .o (o.map nD), .d (nD p), .no, .no, .no, .no, .no, .no, .no, .no]) (js := fun _ _ => [5]) (fun _ => False)
      (src_rng1 (n := (size : Int)) (vv 3 rfl) (by omega) (by omega) B.range) rfl [] ⟨rfl, rfl⟩ (Le.refl _) (fun pre x post s e _ => tg_name 5 scPc.nd) ?_ ?_ (fun _ h => h.elim)
    · rintro pre p post o e ⟨eo, el⟩
      have hp : p < size := by have : p ∈ List.range size := by rw [e]; simp
                               simpa using this
      have hpl : pre.length < size := by have := congrArg List.length e; simp at this; omega
      have hm := Nat.mod_lt (row.getD (3 + p) 0) (show 0 < p + 1 by omega)
      refine sd_insert 4 rfl (n := ((row.getD (3 + p) 0 % (p + 1) : Nat) : Int)) (EvD.to (evd_op (evd_int1 (evd_row (3 + p) (vv 0 rfl) (evd_op evd_int (vv 5 rfl) o_add) (by omega) (by omega)) B.int) (evd_op (vv 5 rfl) evd_int o_add) (o_mod (by omega))) (by rw [← nmod]; rfl)) (vv 5 rfl) (by omega) (by rw [List.length_map]; omega) (sd_nil ⟨insAt o (row.getD (3 + p) 0 % (p + 1)) p, ⟨by rw [List.foldl_append, ← eo]; rfl, by rw [insAt_len, el]; simp⟩, ?_⟩)
      refine .eq rfl (.eq rfl (.eq rfl (.eq rfl (.eq ?_ (.no (.no (.no (.no (.no (.no (.no (.no (.no .nil)))))))))))))
      rw [insAt_map, Int.toNat_natCast]
    rintro order ⟨eo, elo⟩
    have ho : order = pcOrder row size := eo
    rw [List.length_range] at elo
    refine sd_setO 6 (evo_lst eva_nil) scPc.nd ?_
    -- the tree
    refine sd_for (α := Nat) (S := List (Nat × Nat)) (enc := fun i => D.int (1 + (i : Int))) (xs := List.range (size - 1)) (fun pre rs => rs = pre.foldl (fun rs j => insAt rs (row.getD (16 + 2 * j) 0 / 2 % (rs.length + 1)) (pcRoad1 row order j)) [] ∧ rs.length = pre.length)
      (fun rs => [.d (.lst (row.map nD)), .d (nD k), .d (nD many), .d (nD size), .o (order.map nD), .no, .o (rs.map rD), .no, .no, .no, .no, .no, .no, .no]) (fun rs j => [.d (.lst (row.map nD)), .d (nD k), .d (nD many), .d (nD size), .o (order.map nD), .no, .o (rs.map rD), .d (.int (1 + (j : Int))), .no, .no, .no, .no, .no, .no]) (js := fun _ _ => [7]) (fun _ => False)
      (srcTo (src_rng2 (m := 1) (n := (size : Int)) evd_int (vv 3 rfl) (by omega) B.range) (by rw [show ((size : Int) - 1).toNat = size - 1 from by omega])) rfl [] ⟨rfl, rfl⟩ (.eq rfl (.eq rfl (.eq rfl (.eq rfl (.eq rfl (.no (.eq rfl (.no (.no (.no (.no (.no (.no (.no .nil)))))))))))))) (fun pre x post s e _ => tg_name 7 scPc.nd) ?_ ?_ (fun _ h => h.elim)
    · rintro pre j post rs e ⟨er, el⟩
      have hj : j < size - 1 := by have : j ∈ List.range (size - 1) := by rw [e]; simp
                                   simpa using this
      have hpl : pre.length < size - 1 := by have := congrArg List.length e; simp at this; omega
      have hm := Nat.mod_lt (row.getD (15 + 2 * j) 0) (show 0 < j + 1 by omega)
      show Sd _ [.d (.lst (row.map nD)), .d (nD k), .d (nD many), .d (nD size), .o (order.map nD), .no, .o (rs.map rD), .d (.int (1 + (j : Int))), .no, .no, .no, .no, .no, .no] _ _
      refine sd_set 8 (d := rD (order.getD (j + 1) 0, order.getD (row.getD (15 + 2 * j) 0 % (j + 1)) 0)) (lend (evd_tup (eva_cons (evd_ixL (vv 4 rfl) (vv 7 rfl) (at_i (k := j + 1) (by omega) (at_mapD 0 (by omega)))) (eva_cons (evd_ixL (vv 4 rfl) (EvD.to (evd_op (evd_int1 (evd_row (15 + 2 * j) (vv 0 rfl) (evd_op evd_int (evd_op evd_int (vv 7 rfl) (o_mul (.inl (by decide)))) o_add) (by omega) (by omega)) B.int) (vv 7 rfl) (o_mod (by omega))) (d' := nD (row.getD (15 + 2 * j) 0 % (j + 1))) (by rw [show (1 + (j : Int)) = ((j + 1 : Nat) : Int) from by omega, nmod])) (at_mapD 0 (by omega))) eva_nil))) rfl) scPc.nd ?_
      refine sd_ifJ [.d (.lst (row.map nD)), .d (nD k), .d (nD many), .d (nD size), .o (order.map nD), .no, .o (rs.map rD), .d (.int (1 + (j : Int))), .d (rD (pcRoad1 row order j)), .no, .no, .no, .no, .no]
        (evt_cmp (EvD.to (d' := nD (row.getD (16 + 2 * j) 0 % 2)) (evd_op (evd_int1 (evd_row (16 + 2 * j) (vv 0 rfl) (evd_op evd_int (evd_op evd_int (vv 7 rfl) (o_mul (.inl (by decide)))) o_add) (by omega) (by omega)) B.int) evd_int (o_mod (by decide))) (by rw [show (2 : Int) = ((2 : Nat) : Int) from rfl, nmod])) evd_int o_eq) (fun h => ?_) (fun h => ?_) ?_
      · have := of_decide_eq_true h
        refine sd_set 8 (d := rD (pcRoad1 row order j)) (EvD.to (evd_tup (eva_cons (evd_ixT (vv 8 rfl) evd_int at2_1) (eva_cons (evd_ixT (vv 8 rfl) evd_int at2_0) eva_nil))) ?_) scPc.nd (sd_nil (Le.refl _))
        unfold pcRoad1
        rw [if_pos (by omega)]
      · have := of_decide_eq_false h
        refine sd_nil (.eq rfl (.eq rfl (.eq rfl (.eq rfl (.eq rfl (.no (.eq rfl (.eq rfl (.eq ?_ (.no (.no (.no (.no (.no .nil))))))))))))))
        unfold pcRoad1
        rw [if_neg (by omega)]
      · have hm2 := Nat.mod_lt (row.getD (16 + 2 * j) 0 / 2) (show 0 < rs.length + 1 by omega)
        refine sd_insert 6 rfl (n := ((row.getD (16 + 2 * j) 0 / 2 % (rs.length + 1) : Nat) : Int)) (lend (EvD.to (evd_op (evd_op (evd_int1 (evd_row (16 + 2 * j) (vv 0 rfl) (evd_op evd_int (evd_op evd_int (vv 7 rfl) (o_mul (.inl (by decide)))) o_add) (by omega) (by omega)) B.int) evd_int (o_fdiv (by decide))) (evd_op (evd_bi (eva_cons (vv 6 rfl) eva_nil) c_lenL B.len (by decide +kernel)) evd_int o_add) (o_mod (by omega))) (by rw [List.length_map, show (2 : Int) = ((2 : Nat) : Int) from rfl, ndiv, show ((rs.length : Int) + 1) = ((rs.length + 1 : Nat) : Int) from by omega, nmod])) rfl) (vv 8 rfl) (by omega) (by rw [List.length_map]; omega) (sd_nil ⟨insAt rs (row.getD (16 + 2 * j) 0 / 2 % (rs.length + 1)) (pcRoad1 row order j), ⟨by rw [List.foldl_append, ← er]; rfl, by rw [insAt_len, el]; simp⟩, ?_⟩)
        refine .eq rfl (.eq rfl (.eq rfl (.eq rfl (.eq rfl (.no (.eq ?_ (.no (.no (.no (.no (.no (.no (.no .nil)))))))))))))
        rw [insAt_map, Int.toNat_natCast]
    rintro rs1 ⟨er1, el1⟩
    have hrs1 : rs1 = pcRoads1 row order size := er1
    rw [List.length_range] at el1
    refine sd_set 9 (evd_row 1 (vv 0 rfl) evd_int rfl (by omega)) scPc.nd ?_
    refine sd_ifJ [.d (.lst (row.map nD)), .d (nD k), .d (nD many), .d (nD size), .no, .no, .o (rs1.map rD), .no, .no, .d (nD (pcMore row)), .no, .no, .no, .no] (evt_cmp (vv 9 rfl) evd_int o_gt) (fun h => ?_) (fun h => ?_) ?_
    · have := of_decide_eq_true h
      refine sd_set 9 (EvD.to (d' := nD (pcMore row)) (evd_op (evd_int1 (vv 9 rfl) B.int) evd_int (o_mod (by decide))) ?_) scPc.nd (sd_nil (.eq rfl (.eq rfl (.eq rfl (.eq rfl (.no (.no (.eq rfl (.no (.no (.eq rfl (.no (.no (.no (.no .nil)))))))))))))))
      unfold pcMore
      rw [if_pos (by omega), show (4 : Int) = ((4 : Nat) : Int) from rfl, nmod]
    · have := of_decide_eq_false h
      refine sd_nil (.eq rfl (.eq rfl (.eq rfl (.eq rfl (.no (.no (.eq rfl (.no (.no (.eq ?_ (.no (.no (.no (.no .nil))))))))))))))
      unfold pcMore
      rw [if_neg (by omega)]
    generalize hmore : pcMore row = more at hmo
    -- more roads
    refine sd_for (α := Nat) (S := List (Nat × Nat)) (enc := fun i => D.int (i : Int)) (xs := List.range (min more (20 - rs1.length))) (fun pre rs => rs = pre.foldl (fun rs i => insAt rs (row.getD (40 + 4 * i) 0 % (rs.length + 1)) (pcPair row size rs i)) rs1 ∧ rs.length = rs1.length + pre.length)
      (fun rs => [.d (.lst (row.map nD)), .d (nD k), .d (nD many), .d (nD size), .no, .no, .o (rs.map rD), .no, .no, .no, .no, .no, .no, .no]) (fun rs i => [.d (.lst (row.map nD)), .d (nD k), .d (nD many), .d (nD size), .no, .no, .o (rs.map rD), .d (nD i), .no, .no, .no, .no, .no, .no]) (js := fun _ _ => [7]) (fun _ => False)
      (srcTo (src_rng1 (n := ((min more (20 - rs1.length) : Nat) : Int)) (lend (EvD.to (evd_bi (eva_cons (vv 9 rfl) (eva_cons (evd_op evd_int (evd_bi (eva_cons (vv 6 rfl) eva_nil) c_lenL B.len (by decide +kernel)) o_sub) eva_nil)) (c_min2 rfl) B.min (by decide +kernel)) (by rw [List.length_map]; exact congrArg D.int (by omega))) rfl) (by omega) (by omega) B.range) (by rw [Int.toNat_natCast])) rfl rs1 ⟨rfl, rfl⟩ (.eq rfl (.eq rfl (.eq rfl (.eq rfl (.no (.no (.eq rfl (.no (.no (.no (.no (.no (.no (.no .nil)))))))))))))) (fun pre x post s e _ => tg_name 7 scPc.nd) ?_ ?_ (fun _ h => h.elim)
    · rintro pre i post rs e ⟨er, el⟩
      have hi : i < min more (20 - rs1.length) := by have : i ∈ List.range (min more (20 - rs1.length)) := by rw [e]; simp
                                                     simpa using this
      have hpl : pre.length < min more (20 - rs1.length) := by have := congrArg List.length e; simp at this; omega
      show Sd _ [.d (.lst (row.map nD)), .d (nD k), .d (nD many), .d (nD size), .no, .no, .o (rs.map rD), .d (nD i), .no, .no, .no, .no, .no, .no] _ _
      refine sd_set 10 (EvO.to (evo_slL (i := some ((37 + 4 * i : Nat) : Int)) (j := some ((37 + 4 * i + 4 : Nat) : Int)) (vv 0 rfl) (evp_some (EvD.to (evd_op evd_int (evd_op evd_int (vv 7 rfl) (o_mul (.inl (by decide)))) o_add) (congrArg D.int (by omega)))) (evp_some (EvD.to (evd_op evd_int (evd_op evd_int (vv 7 rfl) (o_mul (.inl (by decide)))) o_add) (congrArg D.int (by omega))))) (cut_row (by omega))).toD scPc.nd ?_
      rw [show 37 + 4 * i + 1 = 38 + 4 * i from by omega, show 37 + 4 * i + 2 = 39 + 4 * i from by omega, show 37 + 4 * i + 3 = 40 + 4 * i from by omega]
      have hsp : (0 : Int) < (size : Int) := by omega
      refine sd_set 8 (d := rD (row.getD (38 + 4 * i) 0 % size, row.getD (39 + 4 * i) 0 % size)) (EvD.to (evd_tup (eva_cons (evd_op (evd_int1 (evd_ixL (vv 10 rfl) evd_int rfl) B.int) (vv 3 rfl) (o_mod hsp)) (eva_cons (evd_op (evd_int1 (evd_ixL (vv 10 rfl) evd_int rfl) B.int) (vv 3 rfl) (o_mod hsp)) eva_nil))) (by rw [nmod, nmod])) scPc.nd ?_
      generalize hp0 : (row.getD (38 + 4 * i) 0 % size, row.getD (39 + 4 * i) 0 % size) = p0
      generalize hw : row.getD (37 + 4 * i) 0 = w0
      let L : List D := [nD w0, nD (row.getD (38 + 4 * i) 0), nD (row.getD (39 + 4 * i) 0), nD (row.getD (40 + 4 * i) 0)]
      let A : Nat × Nat → List Slot := fun q => [.d (.lst (row.map nD)), .d (nD k), .d (nD many), .d (nD size), .no, .no, .o (rs.map rD), .d (nD i), .d (rD q), .no, .d (.lst L), .no, .no, .no]
      have hA : ∀ {q q' : Nat × Nat}, q = q' → Le (A q) (A q') := fun h => h ▸ Le.refl _
      refine sd_ifJ (A (if w0 = 1 then (p0.1, p0.1) else p0)) (evt_cmp (evd_ixL (ds := L) (vv 10 rfl) evd_int rfl) evd_int o_eq) (fun h => ?_) (fun h => ?_) ?_
      · have := of_decide_eq_true h
        exact sd_set 8 (d := rD (p0.1, p0.1)) (evd_tup (eva_cons (evd_ixT (vv 8 rfl) evd_int at2_0) (eva_cons (evd_ixT (vv 8 rfl) evd_int at2_0) eva_nil))) scPc.nd (sd_nil (hA (by rw [if_pos (by omega)])))
      · have := of_decide_eq_false h
        exact sd_nil (hA (by rw [if_neg (by omega)]))
      generalize hp1 : (if w0 = 1 then (p0.1, p0.1) else p0) = p1
      show Sd _ (A p1) _ _
      refine sd_ifJ (A (if 1 < w0 ∧ 0 < rs.length then rs.getD (row.getD (39 + 4 * i) 0 % rs.length) (0, 0) else p1)) (lendT (evt_w (evw_and (evt_cmp (evd_ixL (ds := L) (vv 10 rfl) evd_int rfl) evd_int o_gt) (fun _ => evw_and1 (evt_cmp (evd_bi (eva_cons (vv 6 rfl) eva_nil) c_lenL B.len (by decide +kernel)) evd_int o_gt))))) (fun h => ?_) (fun h => ?_) ?_
      · rw [List.length_map] at h
        simp only [Bool.and_eq_true, decide_eq_true_eq] at h
        have hrl : 0 < rs.length := by omega
        have hmm := Nat.mod_lt (row.getD (39 + 4 * i) 0) hrl
        refine sd_set 8 (d := rD (rs.getD (row.getD (39 + 4 * i) 0 % rs.length) (0, 0))) (lend (evd_ixL (i := ((row.getD (39 + 4 * i) 0 % rs.length : Nat) : Int)) (vv 6 rfl) (EvD.to (evd_op (evd_int1 (evd_ixL (ds := L) (vv 10 rfl) evd_int rfl) B.int) (evd_bi (eva_cons (vv 6 rfl) eva_nil) c_lenL B.len (by decide +kernel)) (o_mod (by rw [List.length_map]; omega))) (by rw [List.length_map, nmod])) (at_mapD (0, 0) hmm)) rfl) scPc.nd (sd_nil (hA (by rw [if_pos ⟨by omega, hrl⟩])))
      · rw [List.length_map] at h
        simp only [Bool.and_eq_false_iff, decide_eq_false_iff_not] at h
        exact sd_nil (hA (by rw [if_neg (by omega)]))
      generalize hp2 : (if 1 < w0 ∧ 0 < rs.length then rs.getD (row.getD (39 + 4 * i) 0 % rs.length) (0, 0) else p1) = p2
      show Sd _ (A p2) _ _
      refine sd_ifJ (A (if w0 = 3 then (p2.2, p2.1) else p2)) (evt_cmp (evd_ixL (ds := L) (vv 10 rfl) evd_int rfl) evd_int o_eq) (fun h => ?_) (fun h => ?_) ?_
      · have := of_decide_eq_true h
        exact sd_set 8 (d := rD (p2.2, p2.1)) (evd_tup (eva_cons (evd_ixT (vv 8 rfl) evd_int at2_1) (eva_cons (evd_ixT (vv 8 rfl) evd_int at2_0) eva_nil))) scPc.nd (sd_nil (hA (by rw [if_pos (by omega)])))
      · have := of_decide_eq_false h
        exact sd_nil (hA (by rw [if_neg (by omega)]))
      have hpp : pcPair row size rs i = (if w0 = 3 then (p2.2, p2.1) else p2) := by
        subst hp2 hp1 hp0 hw
        rfl
      rw [← hpp]
      have hm2 := Nat.mod_lt (row.getD (40 + 4 * i) 0) (show 0 < rs.length + 1 by omega)
      show Sd _ (A (pcPair row size rs i)) _ _
      refine sd_insert 6 rfl (n := ((row.getD (40 + 4 * i) 0 % (rs.length + 1) : Nat) : Int)) (lend (EvD.to (evd_op (evd_int1 (evd_ixL (ds := L) (vv 10 rfl) evd_int rfl) B.int) (evd_op (evd_bi (eva_cons (vv 6 rfl) eva_nil) c_lenL B.len (by decide +kernel)) evd_int o_add) (o_mod (by omega))) (by rw [List.length_map, show ((rs.length : Int) + 1) = ((rs.length + 1 : Nat) : Int) from by omega, nmod])) rfl) (vv 8 rfl) (by omega) (by rw [List.length_map]; omega) (sd_nil ⟨insAt rs (row.getD (40 + 4 * i) 0 % (rs.length + 1)) (pcPair row size rs i), ⟨by rw [List.foldl_append, ← er]; rfl, by rw [insAt_len, el]; simp; omega⟩, ?_⟩)
      refine .eq rfl (.eq rfl (.eq rfl (.eq rfl (.no (.no (.eq ?_ (.no (.no (.no (.no (.no (.no (.no .nil)))))))))))))
      rw [insAt_map, Int.toNat_natCast]
    rintro rs2 ⟨er2, el2⟩
    have hrs2 : rs2 = pcRoads row size rs1 := by rw [er2]; unfold pcRoads; rw [hmore]
    refine sd_setO 11 (evo_lst eva_nil) scPc.nd ?_
    refine sd_set 12 (evd_row 2 (vv 0 rfl) evd_int rfl (by omega)) scPc.nd ?_
    refine sd_ifJ [.d (.lst (row.map nD)), .d (nD k), .d (nD many), .d (nD size), .no, .no, .o (rs2.map rD), .no, .no, .no, .no, .o [], .d (nD (pcCount row)), .no] (evt_cmp (vv 12 rfl) evd_int o_gt) (fun h => ?_) (fun h => ?_) ?_
    · have := of_decide_eq_true h
      refine sd_set 12 (EvD.to (d' := nD (pcCount row)) (evd_op evd_int (evd_op (evd_int1 (vv 12 rfl) B.int) evd_int (o_mod (by decide))) o_add) ?_) scPc.nd (sd_nil (.eq rfl (.eq rfl (.eq rfl (.eq rfl (.no (.no (.eq rfl (.no (.no (.no (.no (.eq rfl (.eq rfl (.no .nil)))))))))))))))
      unfold pcCount
      rw [if_pos (by omega), show (3 : Int) = ((3 : Nat) : Int) from rfl, nmod]
      exact congrArg D.int (by omega)
    · have := of_decide_eq_false h
      refine sd_nil (.eq rfl (.eq rfl (.eq rfl (.eq rfl (.no (.no (.eq rfl (.no (.no (.no (.no (.eq rfl (.eq ?_ (.no .nil))))))))))))))
      unfold pcCount
      rw [if_neg (by omega)]
    generalize hcount : pcCount row = count at hco
    -- gates
    refine sd_for (α := Nat) (S := List (Nat × Nat)) (enc := fun i => D.int (i : Int)) (xs := List.range count) (fun pre gs => gs = pre.map (fun i => (row.getD (117 + 3 * i) 0 % size, gkF (row.getD (118 + 3 * i) 0) (row.getD (119 + 3 * i) 0) k many)))
      (fun gs => [.d (.lst (row.map nD)), .d (nD k), .d (nD many), .d (nD size), .no, .no, .o (rs2.map rD), .no, .no, .no, .no, .o (gs.map rD), .no, .no]) (fun gs i => [.d (.lst (row.map nD)), .d (nD k), .d (nD many), .d (nD size), .no, .no, .o (rs2.map rD), .d (nD i), .no, .no, .no, .o (gs.map rD), .no, .no]) (js := fun _ _ => [7]) (fun _ => False)
      (srcTo (src_rng1 (n := (count : Int)) (vv 12 rfl) (by omega) (by omega) B.range) (by rw [Int.toNat_natCast])) rfl [] rfl (.eq rfl (.eq rfl (.eq rfl (.eq rfl (.no (.no (.eq rfl (.no (.no (.no (.no (.eq rfl (.no (.no .nil)))))))))))))) (fun pre x post s e _ => tg_name 7 scPc.nd) ?_ ?_ (fun _ h => h.elim)
    · rintro pre i post gs e eg
      have hi : i < count := by have : i ∈ List.range count := by rw [e]; simp
                                simpa using this
      have hpl : pre.length < count := by have := congrArg List.length e; simp at this; omega
      have hsp : (0 : Int) < (size : Int) := by omega
      show Sd _ [.d (.lst (row.map nD)), .d (nD k), .d (nD many), .d (nD size), .no, .no, .o (rs2.map rD), .d (nD i), .no, .no, .no, .o (gs.map rD), .no, .no] _ _
      refine sd_set 13 (evd_f hg (hr.mono (by decide)) (row.getD (118 + 3 * i) 0, row.getD (119 + 3 * i) 0, k, many) (eva_cons (evd_row (118 + 3 * i) (vv 0 rfl) (evd_op evd_int (evd_op evd_int (vv 7 rfl) (o_mul (.inl (by decide)))) o_add) (by omega) (by omega)) (eva_cons (evd_row (119 + 3 * i) (vv 0 rfl) (evd_op evd_int (evd_op evd_int (vv 7 rfl) (o_mul (.inl (by decide)))) o_add) (by omega) (by omega)) (eva_cons (vv 1 rfl) (eva_cons (vv 2 rfl) eva_nil)))) hk) scPc.nd ?_
      refine sd_append 11 rfl (d := rD (row.getD (117 + 3 * i) 0 % size, gkF (row.getD (118 + 3 * i) 0) (row.getD (119 + 3 * i) 0) k many)) (EvD.to (evd_tup (eva_cons (evd_op (evd_int1 (evd_row (117 + 3 * i) (vv 0 rfl) (evd_op evd_int (evd_op evd_int (vv 7 rfl) (o_mul (.inl (by decide)))) o_add) (by omega) (by omega)) B.int) (vv 3 rfl) (o_mod hsp)) (eva_cons (vv 13 rfl) eva_nil))) (by rw [nmod])) (by rw [List.length_map, eg, List.length_map]; omega) (sd_nil ⟨gs ++ [(row.getD (117 + 3 * i) 0 % size, gkF (row.getD (118 + 3 * i) 0) (row.getD (119 + 3 * i) 0) k many)], by rw [eg, List.map_append]; rfl, ?_⟩)
      refine .eq rfl (.eq rfl (.eq rfl (.eq rfl (.no (.no (.eq rfl (.no (.no (.no (.no (.eq ?_ (.no (.no .nil)))))))))))))
      rw [List.map_append]; rfl
    rintro gs eg
    refine sd_ret (lend (evd_tup (eva_cons (vv 3 rfl) (eva_cons (evd_ty (eva_cons (vv 6 rfl) eva_nil) c_tupL B.tuple (by decide +kernel)) (eva_cons (evd_ty (eva_cons (vv 11 rfl) eva_nil) c_tupL B.tuple (by decide +kernel)) eva_nil)))) ?_) ?_
    · simp only [noL, noLAll, noL_map noL_rD, Bool.and_self]
    · unfold pieceL pD
      rw [hsize, ← ho, ← hrs1, ← hrs2, eg]
      unfold pcGates
      rw [hcount]
end
end K86

set_option linter.all false
set_option maxRecDepth 100000
set_option maxHeartbeats 8000000
/-! k86: the law's own helpers. -/
namespace K86
open PySem L2 ML
theorem row_ok (c : Int) : RowOk (digs c sizesL) := by
  have hp : ∀ s ∈ sizesL, 0 < s := fun s hs => (szL.2 s hs).1
  have h0 := digs_lt c hp (i := 0) (by decide)
  have h1 := digs_lt c hp (i := 1) (by decide)
  have h2 := digs_lt c hp (i := 2) (by decide)
  exact ⟨by rw [digs_len]; decide, h0, h1, h2⟩
def lcScope : Expr → Scope
  | .ListComp _ _ sc _ => sc
  | _ => { kind := .function, names := [], isGenerator := false, isCoroutine := false }
def retE : List Stmt → Expr
  | [.Return (some e) _] => e
  | _ => .Constant .none 0 ⟨0, 0, 0, 0⟩
section
variable {P : Program} {w : World} {K : PySem.W.Frag} {mg : Str → Option Value} {base : Heap}
abbrev nPcs : List Str := ["script", "at", "many", "sizes", "k"]
theorem scPcs : FnScope nPcs ["script", "at", "many"] (defScope (top 38)) := ⟨rfl, rfl, rfl, by decide +kernel, rfl, by decide +kernel, by decide +kernel⟩
abbrev pcsSp : List D → D → Prop := fsp (fun (g : List Int × Nat × Nat) => [.scr g.1, nD g.2.1, nD g.2.2]) (fun g => g.1.length ≤ 1000 ∧ g.2.1 ≤ 100 ∧ g.2.2 ≤ 100) fun g => psD (piecesL g.1 g.2.1 g.2.2)
theorem kn_pcs (D0 : Dn K mg "_law_pieces" (top 38)) (B : Bi mg) (hs : Kn P w K mg base 1 "_law_piece_sizes" sizesSp) (hc : Kn P w K mg base 1 "_law_cell" cellSp) (hd : Kn P w K mg base 1 "_law_digits" digSp) (hp : Kn P w K mg base 2 "_law_piece" pcSp) : Kn P w K mg base 3 "_law_pieces" pcsSp :=
  kn_mk (N := nPcs) (ps := ["script", "at", "many"]) 2 D0 scPcs (fun _ => rfl) (by decide) (fun _ _ _ _ _ _ us hl => match us, hl with | [_, _, _], _ => rfl) fun f cdv A outer s H E hr ⟨ns, a, many⟩ ⟨h1, h2, h3⟩ => by
    simp only at h1 h2 h3
    show Sd _ [.d (.scr ns), .d (nD a), .d (nD many), .no, .no] _ { nx := fun _ => psD (piecesL ns a many) = .non, rt := fun d' => d' = psD (piecesL ns a many) }
    refine sd_set 3 (evd_fn0 (d := .lst (sizesL.map nD)) hs (hr.mono (by decide)) ⟨(), rfl, trivial, rfl⟩) scPcs.nd ?_
    refine sd_ret (evd_ty (eva_cons (evo_map [("k", 4)] (fun (i : Nat) => D.int (i : Int)) (List.range many) (fun k => pD (pieceL (digs (cellL ns (a + k)) sizesL) k many)) _ [4] (srcTo (src_rng1 (n := (many : Int)) (vv 2 rfl) (by omega) (by omega) B.range) (by rw [Int.toNat_natCast])) rfl scPcs.nd (blkOk_by (N := nPcs) (sc := defScope (top 38)) (by decide +kernel)) (by decide) (fun _ _ _ _ _ d hd => tg_name 4 scPcs.nd) (fun _ _ _ _ _ k hk => ?_) (by simp; omega)).toD eva_nil) c_tupL B.tuple (by decide +kernel)) ?_
    · have hk' : k < many := by simpa using hk
      exact evd_fB hp hr (digs (cellL ns (a + k)) sizesL, k, many) (eva_cons (evd_fB hd (hr.mono (by decide)) (cellL ns (a + k), sizesL) (eva_cons (evd_fB hc (hr.mono (by decide)) (ns, a + k) (eva_cons (vv 0 rfl) (eva_cons (EvD.to (evd_op (vv 1 rfl) (vv 4 rfl) o_add) (congrArg D.int (by omega))) eva_nil)) ⟨h1, by show a + k ≤ 1000; omega⟩ rfl rfl (by decide) rfl rfl) (eva_cons (vv 3 rfl) eva_nil)) szL rfl rfl (by decide) rfl rfl) (eva_cons (vv 4 rfl) (eva_cons (vv 2 rfl) eva_nil))) ⟨row_ok _, hk'⟩ rfl rfl (by decide) rfl rfl
    · unfold psD piecesL
      rw [List.map_map]
      rfl
abbrev nLi : List Str := ["pieces", "p", "q"]
theorem scLi : FnScope nLi ["pieces"] (defScope (top 39)) := ⟨rfl, rfl, rfl, by decide +kernel, rfl, by decide +kernel, by decide +kernel⟩
def lrD (r : Nat × Nat) : D := .lst [nD r.1, nD r.2]
def liD (p : Piece) : D := .lst [nD p.size, .lst (p.roads.map lrD), .lst (p.gates.map lrD)]
abbrev liSp : List D → D → Prop := fsp (fun (ps : List Piece) => [psD ps]) Ok fun ps => .lst (ps.map liD)
theorem kn_li (D0 : Dn K mg "_law_listed" (top 39)) (B : Bi mg) : Kn P w K mg base 1 "_law_listed" liSp :=
  kn_mk (N := nLi) (ps := ["pieces"]) 0 D0 scLi (fun _ => rfl) (by decide) (fun _ _ _ _ _ _ us hl => match us, hl with | [_], _ => rfl) fun f cdv A outer s H E hr ps ok => by
    have hps := ok.len
    show Sd _ [.d (psD ps), .no, .no] _ _
    refine sd_ret (evo_map [("q", 2)] pD ps liD _ [2] (src_tup (vv 0 rfl)) rfl scLi.nd (blkOk_by (N := nLi) (sc := defScope (top 39)) (by decide +kernel)) (by decide) (fun _ _ _ _ _ d hd => tg_name 2 scLi.nd) (fun _ _ _ _ _ q hq => ?_) (by omega)).toD rfl
    have o := ok.ok q hq
    have h1 := o.rl
    have h2 := o.gl
    refine (evo_lst (eva_cons (evd_ixT (vv 2 rfl) evd_int at_0) (eva_cons (evo_map [("p", 1)] rD q.roads lrD _ [1] (src_tup (evd_ixT (d := .tup (q.roads.map rD)) (vv 2 rfl) evd_int at_1)) rfl scLi.nd (blkOk_by (N := nLi) (sc := lcScope (retE (defBody (top 39)))) (by decide +kernel)) (by decide) (fun _ _ _ _ _ d hd => tg_name 1 scLi.nd) (fun _ _ _ _ _ r hr => ?_) (by omega)).toD
      (eva_cons (evo_map [("p", 1)] rD q.gates lrD _ [1] (src_tup (evd_ixT (d := .tup (q.gates.map rD)) (vv 2 rfl) evd_int at_2)) rfl scLi.nd (blkOk_by (N := nLi) (sc := lcScope (retE (defBody (top 39)))) (by decide +kernel)) (by decide) (fun _ _ _ _ _ d hd => tg_name 1 scLi.nd) (fun _ _ _ _ _ r hr => ?_) (by omega)).toD eva_nil)))).toD
    · exact (evo_ty (eva_cons (vv 1 rfl) eva_nil) c_listT B.list (by decide +kernel)).toD
    · exact (evo_ty (eva_cons (vv 1 rfl) eva_nil) c_listT B.list (by decide +kernel)).toD
theorem li_in {ps : List Piece} (ok : Ok ps) : NetIn (.lst (ps.map liD), ps) := by
  have hl := ok.len
  have er : ∀ rs : List (Nat × Nat), fzAll (rs.map lrD) = rs.map rD := fun rs => by
    rw [fzAll_eq, List.map_map]
    exact List.map_congr_left fun r _ => by simp [lrD, fz, fzAll]
  have tr : ∀ rs : List (Nat × Nat), tlAll (rs.map lrD) = true := fun rs => tlAll_map fun r _ => by simp [lrD, tl, tlAll]
  have dr : ∀ rs : List (Nat × Nat), dptAll (rs.map lrD) ≤ 1 := fun rs => dptAll_map (fun r => by simp [lrD, dpt, dptAll]) rs
  refine ⟨ok, ?_, ?_, ?_⟩
  · show D.tup (fzAll (ps.map liD)) = D.tup (ps.map pD)
    rw [fzAll_eq, List.map_map]
    refine congrArg D.tup (List.map_congr_left fun p _ => ?_)
    show fz (liD p) = pD p
    unfold liD pD
    simp only [fz, fzAll, er]
  · show (decide ((ps.map liD).length ≤ 1000) && tlAll (ps.map liD)) = true
    rw [List.length_map, decide_eq_true (by omega : ps.length ≤ 1000), Bool.true_and]
    refine tlAll_map fun p hp => ?_
    have h1 := (ok.ok p hp).rl
    have h2 := (ok.ok p hp).gl
    unfold liD
    simp only [tl, tlAll, List.length_map, tr, List.length_cons, List.length_nil, Bool.and_true, Bool.true_and, Bool.and_eq_true, decide_eq_true_eq]
    omega
  · have e : ∀ p : Piece, dpt (liD p) ≤ 3 := fun p => by
      have h1 := dr p.roads
      have h2 := dr p.gates
      unfold liD
      simp only [dpt, dptAll]
      omega
    have := dptAll_map (n := 3) e ps
    show 1 + dptAll _ ≤ 5
    omega
/-! plain -/
mutual
def nodes : D → Nat
  | .tup ds => 1 + nodesAll ds
  | _ => 1
def nodesAll : List D → Nat
  | [] => 0
  | d :: ds => nodes d + nodesAll ds
end
mutual
/-- ints and tuples of at most most items -/
def pl (most : Nat) : D → Bool
  | .int _ => true
  | .tup ds => decide (ds.length ≤ most) && plAll most ds
  | _ => false
def plAll (most : Nat) : List D → Bool
  | [] => true
  | d :: ds => pl most d && plAll most ds
end
theorem nodes_pos (d : D) : 0 < nodes d := by cases d <;> simp [nodes] <;> omega
theorem nodesAll_app : ∀ xs ys : List D, nodesAll (xs ++ ys) = nodesAll xs + nodesAll ys
  | [], ys => by simp [nodesAll]
  | x :: xs, ys => by rw [List.cons_append, nodesAll, nodesAll, nodesAll_app xs ys]; omega
theorem nodesAll_len : ∀ xs : List D, xs.length ≤ nodesAll xs
  | [] => Nat.le_refl _
  | x :: xs => by have := nodesAll_len xs; have := nodes_pos x; rw [List.length_cons, nodesAll]; omega
theorem plAll_iff {most : Nat} : ∀ {ds : List D}, plAll most ds = true ↔ ∀ d ∈ ds, pl most d = true
  | [] => by simp [plAll]
  | d :: ds => by simp [plAll, plAll_iff (ds := ds)]
abbrev nPl : List Str := ["value", "most", "waiting", "turn", "part"]
theorem scPl : FnScope nPl ["value", "most"] (defScope (top 40)) := ⟨rfl, rfl, rfl, by decide +kernel, rfl, by decide +kernel, by decide +kernel⟩
theorem kit_tt : PySem.W.kitOne K (.type "tuple") (.type "tuple") = some true := kit_ty (by decide +kernel)
theorem kit_it : PySem.W.kitOne K (.type "int") (.type "tuple") = some false := kit_ty (by decide +kernel)
abbrev plSp : List D → D → Prop := fsp (fun (g : D × Nat) => [g.1, nD g.2]) (fun g => pl g.2 g.1 = true ∧ nodes g.1 < g.2 ∧ g.2 ≤ 10000) fun _ => .bl true
theorem kn_pl (D0 : Dn K mg "_law_plain" (top 40)) (B : Bi mg) (hw : Kn P w K mg base 1 "_law_whole" whSp) : Kn P w K mg base 2 "_law_plain" plSp :=
  kn_mk (N := nPl) (ps := ["value", "most"]) 1 D0 scPl (fun _ => rfl) (by decide) (fun _ _ _ _ _ _ us hl => match us, hl with | [_, _], _ => rfl) fun f cdv A outer s H E hr ⟨d, most⟩ ⟨h1, h2, h3⟩ => by
    simp only at h1 h2 h3
    show Sd _ [.d d, .d (nD most), .no, .no, .no] _ { nx := fun _ => D.bl true = .non, rt := fun d' => d' = D.bl true }
    refine sd_setO 2 (evo_lst (eva_cons (vv 0 rfl) eva_nil)) scPl.nd ?_
    refine sd_for (α := Nat) (S := List D) (enc := fun i => D.int (i : Int)) (xs := List.range most) (fun pre st => pre.length + nodesAll st = nodes d ∧ plAll most st = true)
      (fun st => [.d d, .d (nD most), .o st, .no, .no]) (fun st i => [.d d, .d (nD most), .o st, .d (nD i), .no]) (js := fun _ _ => [3]) (fun _ => False)
      (srcTo (src_rng1 (n := (most : Int)) (vv 1 rfl) (by omega) (by omega) B.range) (by rw [Int.toNat_natCast])) rfl [d] ⟨by simp [nodesAll], by simp [plAll, h1]⟩ (Le.refl _) (fun pre x post st e _ => tg_name 3 scPl.nd) ?_ ?_ (fun _ h => h.elim)
    · rintro pre i post st e ⟨hn, hp⟩
      have hlen := nodesAll_len st
      show Sd _ [.d d, .d (nD most), .o st, .d (nD i), .no] _ _
      refine sd_if (k := decide (st.length = 0)) (lendT ((evt_cmp (evd_bi (eva_cons (vv 2 rfl) eva_nil) c_lenL B.len (by decide +kernel)) evd_int o_eq).to (decide_eq_decide.mpr (by omega)))) (fun h => sd_ret evd_bl rfl) fun h => sd_nil ?_
      have hne := of_decide_eq_false h
      have hsne : st ≠ [] := fun z => hne (by rw [z]; rfl)
      obtain ⟨ini, last, rfl⟩ : ∃ ini last, st = ini ++ [last] := ⟨st.dropLast, st.getLast hsne, (List.dropLast_concat_getLast hsne).symm⟩
      refine sd_pop 2 4 rfl scPl.nd ?_
      have hpl := plAll_iff.mp hp last (by simp)
      have hpi : ∀ x ∈ ini, pl most x = true := fun x hx => plAll_iff.mp hp x (by simp [hx])
      rw [nodesAll_app] at hn
      simp only [nodesAll, Nat.add_zero] at hn
      show Sd _ [.d d, .d (nD most), .o ini, .d (nD i), .d last] _ _
      cases last with
      | int j =>
        refine sd_if (evt_d (evd_isi (vv 4 rfl) ty_int kit_it B.isi B.tuple (by decide +kernel))) (fun h => by cases h) fun _ => ?_
        refine sd_if (k := false) (evt_not (evt_d (evd_f hw hr j (eva_cons (vv 4 rfl) eva_nil) trivial))) (fun h => by cases h) fun _ => sd_nil (sd_nil (sd_nil ⟨ini, ⟨?_, plAll_iff.mpr hpi⟩, .eq rfl (.eq rfl (.eq rfl (.no (.no .nil))))⟩))
        simp only [nodes] at hn
        rw [List.length_append]
        simp
        omega
      | tup ds =>
        simp only [pl, Bool.and_eq_true, decide_eq_true_eq] at hpl
        simp only [nodes] at hn
        have hdl := nodesAll_len ds
        have hil := nodesAll_len ini
        refine sd_if (evt_d (evd_isi (vv 4 rfl) (.b trivial) kit_tt B.isi B.tuple (by decide +kernel))) (fun _ => ?_) fun h => by cases h
        refine sd_if (evt_cmp (evd_bi (eva_cons (vv 4 rfl) eva_nil) c_lenT B.len (by decide +kernel)) (vv 1 rfl) o_gt) (fun h => by have := of_decide_eq_true h; omega) fun _ => sd_nil ?_
        refine sd_extend 2 rfl (evo_ty (eva_cons (vv 4 rfl) eva_nil) c_listT B.list (by decide +kernel)).toD (by omega) (sd_nil (sd_nil ⟨ini ++ ds, ⟨?_, plAll_iff.mpr fun x hx => ?_⟩, .eq rfl (.eq rfl (.eq rfl (.no (.no .nil))))⟩))
        · rw [nodesAll_app, List.length_append]
          simp
          omega
        · rcases List.mem_append.mp hx with z | z
          · exact hpi x z
          · exact plAll_iff.mp hpl.2 x z
      | _ => simp [pl] at hpl
    · rintro st ⟨hn, -⟩
      rw [List.length_range] at hn
      omega
end
end K86

set_option linter.all false
set_option maxRecDepth 100000
set_option maxHeartbeats 8000000
/-! k86: the greedy tree, the names after, the piece squeezed, the small piece. -/
namespace K86
open PySem L2 ML
theorem nms_get {size p : Nat} {r : Nat × Nat} (hp : p < size) : (nms size r).getD p 0 = nmF r.1 r.2 p := by simp [nms, List.getD, hp]
theorem nms_len (size : Nat) (r : Nat × Nat) : (nms size r).length = size := by simp [nms]
section
variable {P : Program} {w : World} {K : PySem.W.Frag} {mg : Str → Option Value} {base : Heap}
abbrev nGr : List Str := ["size", "roads", "names", "taken", "i", "one", "two", "q"]
theorem scGr : FnScope nGr ["size", "roads"] (defScope (top 41)) := ⟨rfl, rfl, rfl, by decide +kernel, rfl, by decide +kernel, by decide +kernel⟩
abbrev grSp : List D → D → Prop := fsp (fun (g : Nat × List (Nat × Nat)) => [nD g.1, .tup (g.2.map rD)]) (fun g => g.1 ≤ 1000 ∧ g.2.length ≤ 1000 ∧ RIn g.1 g.2) fun g => .lst ((gr g.1 g.2).map nD)
theorem kn_gr (D0 : Dn K mg "_law_greedy" (top 41)) (B : Bi mg) : Kn P w K mg base 1 "_law_greedy" grSp :=
  kn_mk (N := nGr) (ps := ["size", "roads"]) 0 D0 scGr (fun _ => rfl) (by decide) (fun _ _ _ _ _ _ us hl => match us, hl with | [_, _], _ => rfl) fun f cdv A outer s H E hr ⟨size, roads⟩ ⟨h1, h2, h3⟩ => by
    simp only at h1 h2 h3
    show Sd _ [.d (nD size), .d (.tup (roads.map rD)), .no, .no, .no, .no, .no, .no] _ { nx := fun _ => D.lst ((gr size roads).map nD) = .non, rt := fun d' => d' = D.lst ((gr size roads).map nD) }
    refine sd_set 2 (evo_listRg (vv 0 rfl) (by omega) rfl B.list B.range).toD scGr.nd ?_
    rw [Int.toNat_natCast]
    refine sd_setO 3 (evo_lst eva_nil) scGr.nd ?_
    refine sd_for (α := Nat) (S := List Nat × List Nat) (enc := fun i => D.int (i : Int)) (xs := List.range roads.length) (fun pre s => s = pre.foldl (grStep roads) (List.range size, []) ∧ s.1.length = size ∧ s.2.length ≤ pre.length)
      (fun s => [.d (nD size), .d (.tup (roads.map rD)), .d (.lst (s.1.map nD)), .o (s.2.map nD), .no, .no, .no, .no])
      (fun s i => [.d (nD size), .d (.tup (roads.map rD)), .d (.lst (s.1.map nD)), .o (s.2.map nD), .d (nD i), .no, .no, .no]) (js := fun _ _ => [4]) (fun _ => False)
      (src_rng1 (n := (roads.length : Int)) (EvD.to (evd_bi (eva_cons (vv 1 rfl) eva_nil) c_lenT B.len (by decide +kernel)) (by rw [List.length_map])) (by omega) (by omega) B.range) rfl (List.range size, []) ⟨rfl, by simp, by simp⟩
      (Le.refl _) (fun pre x post s e _ => tg_name 4 scGr.nd) ?_ ?_ (fun _ h => h.elim)
    · rintro pre i post ⟨g, t⟩ e ⟨es, hg, ht⟩
      simp only at hg ht
      have hi : i < roads.length := by have : i ∈ List.range roads.length := by rw [e]; simp
                                       simpa using this
      have hpl : pre.length < roads.length := by have := congrArg List.length e; simp at this; omega
      have hrd := h3 (roads.getD i (0, 0)) (by simp [List.getD, hi])
      generalize hrr : roads.getD i (0, 0) = r at hrd
      obtain ⟨x, y⟩ := r
      simp only at hrd
      have hat : atI (roads.map rD) (i : Int) = some (rD (x, y)) := by rw [← hrr]; exact at_mapD (0, 0) hi
      show Sd _ [.d (nD size), .d (.tup (roads.map rD)), .d (.lst (g.map nD)), .o (t.map nD), .d (nD i), .no, .no, .no] _ _
      refine sd_set 5 (d := nD (g.getD x 0)) (evd_ixL (vv 2 rfl) (evd_ixT (evd_ixT (vv 1 rfl) (vv 4 rfl) hat) evd_int at2_0) (at_mapD 0 (by omega))) scGr.nd ?_
      refine sd_set 6 (d := nD (g.getD y 0)) (evd_ixL (vv 2 rfl) (evd_ixT (evd_ixT (vv 1 rfl) (vv 4 rfl) hat) evd_int at2_1) (at_mapD 0 (by omega))) scGr.nd ?_
      have estep : (pre ++ [i]).foldl (grStep roads) (List.range size, []) = grStep roads (g, t) i := by rw [List.foldl_append, ← es]; rfl
      refine sd_if (evt_cmp (vv 5 rfl) (vv 6 rfl) o_ne) (fun h => ?_) (fun h => ?_)
      · have hne : g.getD x 0 ≠ g.getD y 0 := by intro z; rw [z] at h; simp at h
        refine sd_append 3 rfl (vv 4 rfl) (by rw [List.length_map]; omega) ?_
        refine sd_setMap 2 [("q", 7)] nD g (fun q => nD (if q = g.getD y 0 then g.getD x 0 else q)) _ [7] (src_lst (vv 2 rfl)) rfl scGr.nd (blkOk_by (N := nGr) (sc := defScope (top 41)) (by decide +kernel)) (by decide) (fun _ _ _ _ _ d hd => tg_name 7 scGr.nd) (fun _ _ _ _ _ q hq => ?_) (by omega) ?_
        · refine evd_ixL (evo_lst (eva_cons (vv 7 rfl) (eva_cons (vv 5 rfl) eva_nil))).toD (evd_ty (eva_cons (evd_cmp (vv 7 rfl) (vv 6 rfl) o_eq) eva_nil) c_intB B.int (by decide +kernel)) ?_
          by_cases z : q = g.getD y 0
          · rw [if_pos z, if_pos (decide_eq_true (by omega))]; rfl
          · rw [if_neg z, if_neg (show ¬ (decide ((q : Int) = (g.getD y 0 : Int)) = true) from fun w => z (by have := of_decide_eq_true w; omega))]; rfl
        · refine sd_nil (sd_nil ⟨(g.map fun q => if q = g.getD y 0 then g.getD x 0 else q, t ++ [i]), ⟨?_, by simp [hg], by simp; omega⟩, ?_⟩)
          · rw [estep]
            unfold grStep
            simp only [hrr]
            rw [if_pos hne]
          · refine .eq rfl (.eq rfl (.eq ?_ (.eq ?_ (.no (.no (.no (.no .nil)))))))
            · rw [List.map_map]; rfl
            · rw [List.map_append]; rfl
      · have hne : g.getD x 0 = g.getD y 0 := by
          have z : decide ((g.getD x 0 : Int) = (g.getD y 0 : Int)) = true := by simpa using h
          have := of_decide_eq_true z
          omega
        refine sd_nil (sd_nil ⟨(g, t), ⟨?_, hg, by simp; omega⟩, .eq rfl (.eq rfl (.eq rfl (.eq rfl (.no (.no (.no (.no .nil)))))))⟩)
        rw [estep]
        unfold grStep
        simp only [hrr]
        rw [if_neg (fun z => z hne)]
    · rintro ⟨g, t⟩ ⟨es, -, -⟩
      refine sd_retO 3 rfl ?_
      show D.lst _ = D.lst _
      rw [show t = gr size roads from congrArg Prod.snd es]
abbrev nNm : List Str := ["size", "pair", "high", "names", "p"]
theorem scNm : FnScope nNm ["size", "pair"] (defScope (top 42)) := ⟨rfl, rfl, rfl, by decide +kernel, rfl, by decide +kernel, by decide +kernel⟩
abbrev nmSp : List D → D → Prop := fsp (fun (g : Nat × (Nat × Nat)) => [nD g.1, rD g.2]) (fun g => g.1 ≤ 1000 ∧ g.2.1 < g.1 ∧ g.2.2 < g.1 ∧ g.2.1 ≠ g.2.2) fun g => .lst ((nms g.1 g.2).map nD)
theorem kn_nm (D0 : Dn K mg "_law_names" (top 42)) (B : Bi mg) : Kn P w K mg base 1 "_law_names" nmSp :=
  kn_mk (N := nNm) (ps := ["size", "pair"]) 0 D0 scNm (fun _ => rfl) (by decide) (fun _ _ _ _ _ _ us hl => match us, hl with | [_, _], _ => rfl) fun f cdv A outer s H E hr ⟨size, a, b⟩ ⟨h1, h2, h3, h4⟩ => by
    simp only at h1 h2 h3 h4
    show Sd _ [.d (nD size), .d (rD (a, b)), .no, .no, .no] _ { nx := fun _ => D.lst ((nms size (a, b)).map nD) = .non, rt := fun d' => d' = D.lst ((nms size (a, b)).map nD) }
    refine sd_set 2 (d := nD (max a b)) (EvD.to (evd_bi (eva_cons (evd_ixT (vv 1 rfl) evd_int at2_0) (eva_cons (evd_ixT (vv 1 rfl) evd_int at2_1) eva_nil)) (c_max2 rfl) B.max (by decide +kernel)) (by rw [natMax])) scNm.nd ?_
    refine sd_setMapO 3 [("p", 4)] (fun (i : Nat) => D.int (i : Int)) (List.range size) (fun p => D.int ((p : Int) - (if decide ((p : Int) > ((max a b : Nat) : Int)) then 1 else 0))) _ [4] (srcTo (src_rng1 (n := (size : Int)) (vv 0 rfl) (by omega) (by omega) B.range) (by rw [Int.toNat_natCast])) rfl scNm.nd (blkOk_by (N := nNm) (sc := defScope (top 42)) (by decide +kernel)) (by decide) (fun _ _ _ _ _ d hd => tg_name 4 scNm.nd) (fun _ _ _ _ _ p hp => ?_) (by simp; omega) ?_
    · exact evd_op (vv 4 rfl) (evd_ty (eva_cons (evd_cmp (vv 4 rfl) (vv 2 rfl) o_gt) eva_nil) c_intB B.int (by decide +kernel)) o_sub
    · refine sd_item 3 rfl (d := nD (min a b)) (EvD.to (evd_bi (eva_cons (evd_ixT (vv 1 rfl) evd_int at2_0) (eva_cons (evd_ixT (vv 1 rfl) evd_int at2_1) eva_nil)) (c_min2 rfl) B.min (by decide +kernel)) (by rw [natMin])) (vv 2 rfl) (Evl.ixN_nat (by simp; omega)) ?_
      refine sd_retO 3 rfl ?_
      show D.lst _ = D.lst _
      congr 1
      apply List.ext_getElem
      · simp [nms]
      · intro i hi1 hi2
        have hi : i < size := by simpa using hi1
        rw [List.getElem_set]
        simp only [List.getElem_map, List.getElem_range, nms]
        unfold nmF
        by_cases z : max a b = i
        · rw [if_pos z, if_pos z.symm]
        · rw [if_neg z, if_neg (show ¬ i = max a b from fun q => z q.symm)]
          by_cases y : i > max a b
          · rw [if_pos (decide_eq_true (by omega)), if_pos y]
            show D.int _ = D.int _
            congr 1
            omega
          · rw [if_neg (show ¬ (decide ((i : Int) > ((max a b : Nat) : Int)) = true) from fun q => y (by have := of_decide_eq_true q; omega)), if_neg y]
            show D.int _ = D.int _
            congr 1
abbrev nSq : List Str := ["piece", "road", "names", "roads", "p", "gates"]
theorem scSq : FnScope nSq ["piece", "road"] (defScope (top 43)) := ⟨rfl, rfl, rfl, by decide +kernel, rfl, by decide +kernel, by decide +kernel⟩
abbrev sqSp : List D → D → Prop := fsp (fun (g : Piece × Nat) => [pD g.1, nD g.2]) (fun g => (∃ many, g.1.Ok many) ∧ g.2 < g.1.roads.length ∧ (g.1.roads.getD g.2 (0, 0)).1 ≠ (g.1.roads.getD g.2 (0, 0)).2) fun g => pD (sq g.1 g.2)
theorem kn_sq (D0 : Dn K mg "_law_squeezed" (top 43)) (B : Bi mg) (hn : Kn P w K mg base 1 "_law_names" nmSp) : Kn P w K mg base 2 "_law_squeezed" sqSp :=
  kn_mk (N := nSq) (ps := ["piece", "road"]) 1 D0 scSq (fun _ => rfl) (by decide) (fun _ _ _ _ _ _ us hl => match us, hl with | [_, _], _ => rfl) fun f cdv A outer s H E hr ⟨q, road⟩ ⟨⟨many, o⟩, hrl, hne⟩ => by
    simp only at o hrl hne
    show Sd _ [.d (pD q), .d (nD road), .no, .no, .no, .no] _ { nx := fun _ => pD (sq q road) = .non, rt := fun d' => d' = pD (sq q road) }
    have hsz := o.sz
    have hl := o.rl
    have hgl := o.gl
    have hin := o.roads (q.roads.getD road (0, 0)) (by simp [List.getD, hrl])
    have hro : EvA (CXf P w K mg base nSq "_law_squeezed" (top 43) f cdv A outer s H E) [.d (pD q), .d (nD road), .no, .no, .no, .no] [] [] := eva_nil
    refine sd_set 2 (evd_f hn hr (q.size, q.roads.getD road (0, 0)) (eva_cons (evd_ixT (vv 0 rfl) evd_int at_0) (eva_cons (evd_ixT (evd_ixT (d := .tup (q.roads.map rD)) (vv 0 rfl) evd_int at_1) (vv 1 rfl) (at_mapD (0, 0) hrl)) eva_nil)) ⟨by show q.size ≤ 1000; omega, hin.1, hin.2, hne⟩) scSq.nd ?_
    have hget : ∀ x, x < q.size → atI ((nms q.size (q.roads.getD road (0, 0))).map nD) (x : Int) = some (nD (nmF (q.roads.getD road (0, 0)).1 (q.roads.getD road (0, 0)).2 x)) := fun x hx => by
      rw [← nms_get hx]; exact at_mapD 0 (by rw [nms_len]; exact hx)
    refine sd_setMap 3 [("p", 4)] rD (q.roads.take road ++ q.roads.drop (road + 1)) (fun p => rD (nmF (q.roads.getD road (0, 0)).1 (q.roads.getD road (0, 0)).2 p.1, nmF (q.roads.getD road (0, 0)).1 (q.roads.getD road (0, 0)).2 p.2)) _ [4]
      (src_tup (EvD.to (evd_op (evd_slT (evd_ixT (d := .tup (q.roads.map rD)) (vv 0 rfl) evd_int at_1) evp_none (evp_some (vv 1 rfl))) (evd_slT (evd_ixT (d := .tup (q.roads.map rD)) (vv 0 rfl) evd_int at_1) (evp_some (EvD.to (evd_op (vv 1 rfl) evd_int o_add) (congrArg D.int (show ((road : Int) + 1) = ((road + 1 : Nat) : Int) by omega)))) evp_none) (o_addT (by rw [cut_take (by rw [List.length_map]; omega), cut_drop (by rw [List.length_map]; omega)]; simp; omega))) (by rw [cut_take (by rw [List.length_map]; omega), cut_drop (by rw [List.length_map]; omega), ← List.map_take, ← List.map_drop, ← List.map_append]))) rfl scSq.nd (blkOk_by (N := nSq) (sc := defScope (top 43)) (by decide +kernel)) (by decide) (fun _ _ _ _ _ d hd => tg_name 4 scSq.nd) (fun _ _ _ _ _ p hp => ?_) (by simp; omega) ?_
    · have hp' : p ∈ q.roads := by
        rcases List.mem_append.mp hp with z | z
        · exact List.mem_of_mem_take z
        · exact List.mem_of_mem_drop z
      have hpi := o.roads p hp'
      exact evd_tup (eva_cons (evd_ixL (vv 2 rfl) (evd_ixT (d := nD p.1) (vv 4 rfl) evd_int at2_0) (hget p.1 hpi.1)) (eva_cons (evd_ixL (vv 2 rfl) (evd_ixT (d := nD p.2) (vv 4 rfl) evd_int at2_1) (hget p.2 hpi.2)) eva_nil))
    refine sd_setMap 5 [("p", 4)] rD q.gates (fun g => rD (nmF (q.roads.getD road (0, 0)).1 (q.roads.getD road (0, 0)).2 g.1, g.2)) _ [4]
      (src_tup (evd_ixT (d := .tup (q.gates.map rD)) (vv 0 rfl) evd_int at_2)) rfl scSq.nd (blkOk_by (N := nSq) (sc := defScope (top 43)) (by decide +kernel)) (by decide) (fun _ _ _ _ _ d hd => tg_name 4 scSq.nd) (fun _ _ _ _ _ g hg => ?_) (by omega) ?_
    · have hgi := o.gates g hg
      exact evd_tup (eva_cons (evd_ixL (vv 2 rfl) (evd_ixT (d := nD g.1) (vv 4 rfl) evd_int at2_0) (hget g.1 hgi.1)) (eva_cons (evd_ixT (d := nD g.2) (vv 4 rfl) evd_int at2_1) eva_nil))
    refine sd_ret (evd_tup (eva_cons (evd_op (evd_ixT (d := nD q.size) (vv 0 rfl) evd_int at_0) evd_int o_sub) (eva_cons (evd_ty (eva_cons (vv 3 rfl) eva_nil) c_tupL B.tuple (by decide +kernel)) (eva_cons (evd_ty (eva_cons (vv 5 rfl) eva_nil) c_tupL B.tuple (by decide +kernel)) eva_nil)))) ?_
    unfold sq pD
    have := o.pos
    simp only [List.map_map]
    rw [show ((q.size : Int) - 1) = ((q.size - 1 : Nat) : Int) from by omega]
    rfl
abbrev nSm : List Str := ["pieces", "told", "piece", "count", "gate"]
theorem scSm : FnScope nSm ["pieces"] (defScope (top 44)) := ⟨rfl, rfl, rfl, by decide +kernel, rfl, by decide +kernel, by decide +kernel⟩
abbrev smSp : List D → D → Prop := fsp (fun (ps : List Piece) => [psD ps]) Ok fun ps => psD (ps.map small)
theorem lpN_int {q : Piece} {many : Nat} (o : q.Ok many) : (q.roads.length : Int) - (q.size : Int) + 1 = (q.roads.length : Int) - ((q.size - 1 : Nat) : Int) := by have := o.pos; omega
theorem kn_sm (D0 : Dn K mg "_law_small" (top 44)) (B : Bi mg) : Kn P w K mg base 1 "_law_small" smSp :=
  kn_mk (N := nSm) (ps := ["pieces"]) 0 D0 scSm (fun _ => rfl) (by decide) (fun _ _ _ _ _ _ us hl => match us, hl with | [_], _ => rfl) fun f cdv A outer s H E hr ps ok => by
    show Sd _ [.d (psD ps), .no, .no, .no, .no] _ { nx := fun _ => psD (ps.map small) = .non, rt := fun d' => d' = psD (ps.map small) }
    have hps := ok.len
    refine sd_setO 1 (evo_lst eva_nil) scSm.nd ?_
    refine sd_for (α := Piece) (S := List Piece) (enc := pD) (xs := ps) (fun pre s => s = pre)
      (fun s => [.d (psD ps), .o (s.map fun q => pD (small q)), .no, .no, .no])
      (fun s y => [.d (psD ps), .o (s.map fun q => pD (small q)), .d (pD y), .no, .no]) (js := fun _ _ => [2]) (fun _ => False)
      (src_tup (vv 0 rfl)) rfl [] rfl (Le.refl _) (fun pre y post s e _ => tg_name 2 scSm.nd) ?_ ?_ (fun _ h => h.elim)
    · rintro pre q post s e rfl
      have hq : q ∈ ps := by rw [e]; simp
      have o := ok.ok q hq
      have h1 := o.rl
      have h2 := o.gl
      have h3 := o.sz
      have hpl : s.length < ps.length := by have := congrArg List.length e; simp at this; omega
      show Sd _ [.d (psD ps), .o (s.map fun q => pD (small q)), .d (pD q), .no, .no] _ _
      refine sd_set 3 (d := .int ((q.roads.length : Int) - ((q.size - 1 : Nat) : Int))) (lend (EvD.to (evd_op (evd_op (evd_bi (eva_cons (evd_ixT (d := .tup (q.roads.map rD)) (vv 2 rfl) evd_int at_1) eva_nil) c_lenT B.len (by decide +kernel)) (evd_ixT (d := nD q.size) (vv 2 rfl) evd_int at_0) o_sub) evd_int o_add) (by rw [List.length_map]; exact congrArg D.int (lpN_int o))) rfl) scSm.nd ?_
      refine sd_append 1 rfl (d := pD (small q)) (lend (EvD.to (evd_tup (eva_cons evd_int (eva_cons (evd_ty (eva_cons (evo_op (ds := List.replicate (lpN q) (rD (0, 0))) (evo_lst (eva_cons (evd_tup (eva_cons evd_int (eva_cons evd_int eva_nil))) eva_nil)).toD (vv 3 rfl) ?_).toD eva_nil) c_tupL B.tuple (by decide +kernel))
        (eva_cons (evd_ty (eva_cons (evo_map [("gate", 4)] rD q.gates (fun g => rD (0, g.2)) _ [4] (src_tup (evd_ixT (d := .tup (q.gates.map rD)) (vv 2 rfl) evd_int at_2)) rfl scSm.nd (blkOk_by (N := nSm) (sc := defScope (top 44)) (by decide +kernel)) (by decide) (fun _ _ _ _ _ d hd => tg_name 4 scSm.nd) (fun _ _ _ _ _ g hg => ?_) (by omega)).toD eva_nil) c_tupL B.tuple (by decide +kernel)) eva_nil)))) ?_) (noL_pD _)) (by rw [List.length_map]; omega) (sd_nil ⟨s ++ [q], rfl, ?_⟩)
      · have e1 : (((q.roads.length : Int) - ((q.size - 1 : Nat) : Int))).toNat = lpN q := by unfold lpN; omega
        have := o_mulL (X := CXf P w K mg base nSm "_law_small" (top 44) f cdv A outer ‹Shared› H E) (xs := [rD (0, 0)]) (k := (q.roads.length : Int) - ((q.size - 1 : Nat) : Int)) (by omega) (by omega) (by rw [e1]; unfold lpN; simp; omega)
        rw [e1, flat_rep] at this
        exact this
      · exact evd_tup (eva_cons evd_int (eva_cons (evd_ixT (d := nD g.2) (vv 4 rfl) evd_int at2_1) eva_nil))
      · unfold small pD
        simp only [List.map_replicate, List.map_map]
        rfl
      · refine .eq rfl (.eq ?_ (.no (.no (.no .nil))))
        rw [List.map_append]; rfl
    · rintro s rfl
      refine sd_ret (lend (evd_ty (eva_cons (vv 1 rfl) eva_nil) c_tupL B.tuple (by decide +kernel)) ?_) ?_
      · exact noL_map (enc := fun q => pD (small q)) (fun q => noL_pD _) s
      · unfold psD
        rw [List.map_map]
        rfl
end
end K86

set_option linter.all false
set_option maxRecDepth 100000
set_option maxHeartbeats 8000000
/-! k86: kinds, the way after, is it the net, the way back, the closed ways. -/
namespace K86
open PySem L2 ML
def argE : Expr → Expr
  | .Call _ [e] _ _ => e
  | e => e
section
variable {P : Program} {w : World} {K : PySem.W.Frag} {mg : Str → Option Value} {base : Heap}
abbrev nKi : List Str := ["pieces", "gate", "q"]
theorem scKi : FnScope nKi ["pieces"] (defScope (top 45)) := ⟨rfl, rfl, rfl, by decide +kernel, rfl, by decide +kernel, by decide +kernel⟩
abbrev kiSp : List D → D → Prop := fsp (fun (ps : List Piece) => [psD ps]) Ok fun ps => kiD (ps.map kindsOf)
theorem kn_ki (D0 : Dn K mg "_law_kinds" (top 45)) (B : Bi mg) : Kn P w K mg base 1 "_law_kinds" kiSp :=
  kn_mk (N := nKi) (ps := ["pieces"]) 0 D0 scKi (fun _ => rfl) (by decide) (fun _ _ _ _ _ _ us hl => match us, hl with | [_], _ => rfl) fun f cdv A outer s H E hr ps ok => by
    show Sd _ [.d (psD ps), .no, .no] _ { nx := fun _ => kiD (ps.map kindsOf) = .non, rt := fun d' => d' = kiD (ps.map kindsOf) }
    have hps := ok.len
    refine sd_ret (evd_ty (eva_cons (evo_map [("q", 2)] pD ps (fun q => D.tup ((kindsOf q).map D.int)) _ [2] (src_tup (vv 0 rfl)) rfl scKi.nd (blkOk_by (N := nKi) (sc := defScope (top 45)) (by decide +kernel)) (by decide) (fun _ _ _ _ _ d hd => tg_name 2 scKi.nd) (fun _ _ _ _ _ q hq => ?_) (by omega)).toD eva_nil) c_tupL B.tuple (by decide +kernel)) ?_
    · have o := ok.ok q hq
      have h1 := o.rl
      have h2 := o.gl
      have h3 := o.sz
      refine EvD.to (evd_ty (eva_cons (evo_op (evo_map [("gate", 1)] rD q.gates (fun g => D.int (g.2 : Int)) _ [1] (src_tup (evd_ixT (d := .tup (q.gates.map rD)) (vv 2 rfl) evd_int at_2)) rfl scKi.nd (blkOk_by (N := nKi) (sc := lcScope (argE (retE (defBody (top 45))))) (by decide +kernel)) (by decide) (fun _ _ _ _ _ d hd => tg_name 1 scKi.nd) (fun _ _ _ _ _ g hg => evd_ixT (d := nD g.2) (vv 1 rfl) evd_int at2_1) (by omega)).toD
        (evo_op (ds := List.replicate (lpN q) (D.int (-2))) (evo_lst (eva_cons (evd_op evd_int evd_int o_sub) eva_nil)).toD (EvD.to (d' := .int ((q.roads.length : Int) - ((q.size - 1 : Nat) : Int))) (evd_op (evd_op (evd_bi (eva_cons (evd_ixT (d := .tup (q.roads.map rD)) (vv 2 rfl) evd_int at_1) eva_nil) c_lenT B.len (by decide +kernel)) (evd_ixT (d := nD q.size) (vv 2 rfl) evd_int at_0) o_sub) evd_int o_add) (by rw [List.length_map]; exact congrArg D.int (lpN_int o))) ?_).toD (o_addL ?_)).toD eva_nil) c_tupL B.tuple (by decide +kernel)) ?_
      · have e1 : (((q.roads.length : Int) - ((q.size - 1 : Nat) : Int))).toNat = lpN q := by unfold lpN; omega
        have := fun X => o_mulL (X := X) (xs := [.int (-2)]) (k := (q.roads.length : Int) - ((q.size - 1 : Nat) : Int)) (by omega) (by omega) (by rw [e1]; unfold lpN; simp; omega)
        simp only [e1, flat_rep] at this
        exact this _
      · unfold lpN; simp; omega
      · unfold kindsOf lpN
        rw [List.map_append, List.map_replicate, List.map_map]
        rfl
    · unfold kiD
      rw [List.map_map]
      rfl
end
end K86

set_option linter.all false
set_option maxRecDepth 100000
set_option maxHeartbeats 8000000
/-! k86: the way after, is it the net. -/
namespace K86
open PySem L2 ML
theorem waStep_len (names : List Nat) (t : List Nat) (p : Nat) : (waStep names t p).length ≤ t.length + 1 := by
  unfold waStep; split <;> simp
theorem wa_len (names : List Nat) : ∀ (pre : List Nat) (t : List Nat), (pre.foldl (waStep names) t).length ≤ t.length + pre.length
  | [], t => Nat.le_refl _
  | p :: pre, t => by
    have := wa_len names pre (waStep names t p)
    have := waStep_len names t p
    simp only [List.foldl_cons, List.length_cons]
    omega
theorem snoc (t : List Nat) : t = [] ∨ ∃ i z, t = i ++ [z] := by
  rcases List.eq_nil_or_concat t with h | ⟨i, z, h⟩
  · exact .inl h
  · exact .inr ⟨i, z, by rw [h, List.concat_eq_append]⟩
section
variable {P : Program} {w : World} {K : PySem.W.Frag} {mg : Str → Option Value} {base : Heap}
abbrev nWa : List Str := ["way", "names", "told", "place"]
theorem scWa : FnScope nWa ["way", "names"] (defScope (top 46)) := ⟨rfl, rfl, rfl, by decide +kernel, rfl, by decide +kernel, by decide +kernel⟩
abbrev waSp : List D → D → Prop := fsp (fun (g : List Nat × List Nat) => [.tup (g.1.map nD), .lst (g.2.map nD)]) (fun g => g.1.length ≤ 1000 ∧ ∀ p ∈ g.1, p < g.2.length) fun g => .tup ((wayAfter g.1 g.2).map nD)
theorem kn_wa (D0 : Dn K mg "_law_way_after" (top 46)) (B : Bi mg) : Kn P w K mg base 1 "_law_way_after" waSp :=
  kn_mk (N := nWa) (ps := ["way", "names"]) 0 D0 scWa (fun _ => rfl) (by decide) (fun _ _ _ _ _ _ us hl => match us, hl with | [_, _], _ => rfl) fun f cdv A outer s H E hr ⟨way, names⟩ ⟨h1, h2⟩ => by
    simp only at h1 h2
    show Sd _ [.d (.tup (way.map nD)), .d (.lst (names.map nD)), .no, .no] _ { nx := fun _ => D.tup ((wayAfter way names).map nD) = .non, rt := fun d' => d' = D.tup ((wayAfter way names).map nD) }
    refine sd_setO 2 (evo_lst eva_nil) scWa.nd ?_
    refine sd_for (α := Nat) (S := List Nat) (enc := nD) (xs := way) (fun pre s => s = pre.foldl (waStep names) [])
      (fun s => [.d (.tup (way.map nD)), .d (.lst (names.map nD)), .o (s.map nD), .no]) (fun s x => [.d (.tup (way.map nD)), .d (.lst (names.map nD)), .o (s.map nD), .d (nD x)]) (js := fun _ _ => [3]) (fun _ => False)
      (src_tup (vv 0 rfl)) rfl [] rfl (Le.refl _) (fun pre x post s e _ => tg_name 3 scWa.nd) ?_ ?_ (fun _ h => h.elim)
    · rintro pre p post t e et
      have hp := h2 p (by rw [e]; simp)
      have hpl : pre.length < way.length := by have := congrArg List.length e; simp at this; omega
      have htl : t.length ≤ pre.length := by have := wa_len names pre []; rw [← et] at this; simpa using this
      have estep : (pre ++ [p]).foldl (waStep names) [] = waStep names t p := by rw [List.foldl_append, ← et]; rfl
      have hat : atI (names.map nD) (p : Int) = some (nD (names.getD p 0)) := at_mapD 0 hp
      show Sd _ [.d (.tup (way.map nD)), .d (.lst (names.map nD)), .o (t.map nD), .d (nD p)] _ _
      have fin : waStep names t p = t ++ [names.getD p 0] → Sd (CXf P w K mg base nWa "_law_way_after" (top 46) f cdv A outer ‹Shared› H E) [.d (.tup (way.map nD)), .d (.lst (names.map nD)), .o ((t ++ [names.getD p 0]).map nD), .d (nD p)] [] { nx := fun M' => ∃ s', s' = (pre ++ [p]).foldl (waStep names) [] ∧ Le M' [.d (.tup (way.map nD)), .d (.lst (names.map nD)), .o (s'.map nD), .no], ct := fun M' => ∃ s', s' = (pre ++ [p]).foldl (waStep names) [] ∧ Le M' [.d (.tup (way.map nD)), .d (.lst (names.map nD)), .o (s'.map nD), .no], bk := fun _ => False, rt := fun d' => d' = D.tup ((wayAfter way names).map nD) } := fun h =>
        sd_nil ⟨t ++ [names.getD p 0], by rw [estep, h], .eq rfl (.eq rfl (.eq rfl (.no .nil)))⟩
      rcases snoc t with rfl | ⟨ini, z, rfl⟩
      · refine sd_if (k := true || false) (lendT (evt_w (evw_or (y := false) ((evt_cmp (evd_bi (eva_cons (vv 2 rfl) eva_nil) c_lenL B.len (by decide +kernel)) evd_int o_eq).to (by simp)) (fun h => by cases h)))) (fun _ => ?_) (fun h => ?_)
        · refine sd_append 2 (ds := ([] : List Nat).map nD) rfl (evd_ixL (vv 1 rfl) (vv 3 rfl) hat) (by decide) (sd_nil (fin rfl))
        · cases h
      · refine sd_if (k := false || !decide ((z : Int) = (names.getD p 0 : Int))) (lendT (evt_w (evw_or ((evt_cmp (evd_bi (eva_cons (vv 2 rfl) eva_nil) c_lenL B.len (by decide +kernel)) evd_int o_eq).to (by simp; omega)) (fun _ => evw_or1 (evt_cmp (evd_ixL (vv 2 rfl) (evd_neg evd_int) (d := nD z) ?_) (evd_ixL (vv 1 rfl) (vv 3 rfl) hat) o_ne))))) (fun h => ?_) (fun h => ?_)
        · rw [List.map_append]; exact atI_last _ _
        · have hz : ¬ z = names.getD p 0 := fun q => by rw [q] at h; simp at h
          have ew : waStep names (ini ++ [z]) p = (ini ++ [z]) ++ [names.getD p 0] := by
            unfold waStep
            rw [if_neg (by simpa using hz)]
          refine sd_append 2 rfl (evd_ixL (vv 1 rfl) (vv 3 rfl) hat) (by rw [List.length_map]; omega) (sd_le ?_ (sd_nil (fin ew)))
          refine .eq rfl (.eq rfl (.eq ?_ (.eq rfl .nil)))
          rw [List.map_append, List.map_append, List.map_append]; rfl
        · have hz : z = names.getD p 0 := Decidable.byContradiction fun q => by rw [decide_eq_false (by omega)] at h; cases h
          have ew : waStep names (ini ++ [z]) p = ini ++ [z] := by
            unfold waStep
            rw [if_pos (by simp [hz])]
          exact sd_nil (sd_nil ⟨ini ++ [z], by rw [estep, ew], .eq rfl (.eq rfl (.eq rfl (.no .nil)))⟩)
    · rintro t et
      have htl : t.length ≤ way.length := by have := wa_len names way []; rw [← et] at this; simpa using this
      have ewa : wayAfter way names = if 1 < t.length ∧ t.head? = t.getLast? then t.dropLast else t := by unfold wayAfter; rw [← et]
      have fin : ∀ {t' : List Nat}, wayAfter way names = t' → Sd (CXf P w K mg base nWa "_law_way_after" (top 46) f cdv A outer ‹Shared› H E) [.d (.tup (way.map nD)), .d (.lst (names.map nD)), .o (t'.map nD), .no] ((defBody (top 46)).drop 3) { nx := fun _ => D.tup ((wayAfter way names).map nD) = .non, rt := fun d' => d' = D.tup ((wayAfter way names).map nD) } := fun {t'} h => by
        refine sd_ret (lend (evd_ty (eva_cons (vv 2 rfl) eva_nil) c_tupL B.tuple (by decide +kernel)) (wD_noL _)) ?_
        rw [h]
      rcases snoc t with rfl | ⟨ini, z, rfl⟩
      · refine sd_if (k := false && false) (lendT (evt_w (evw_and (y := false) ((evt_cmp (evd_bi (eva_cons (vv 2 rfl) eva_nil) c_lenL B.len (by decide +kernel)) evd_int o_gt).to (by simp)) (fun h => by cases h)))) (fun h => by cases h) (fun _ => sd_nil (fin (t' := []) (by rw [ewa]; rfl)))
      · have hlen : ((ini ++ [z]).map nD).length = ini.length + 1 := by simp
        have hhd : atI ((ini ++ [z]).map nD) 0 = some (nD ((ini ++ [z]).getD 0 0)) := at_mapD (k := 0) 0 (by simp)
        have hla : atI ((ini ++ [z]).map nD) (-1) = some (nD z) := by rw [List.map_append]; exact atI_last _ _
        have hh : (ini ++ [z]).head? = some ((ini ++ [z]).getD 0 0) := by cases ini <;> rfl
        have hl : (ini ++ [z]).getLast? = some z := by simp
        rw [hh, hl] at ewa
        generalize ha0 : (ini ++ [z]).getD 0 0 = a0 at hhd ewa
        refine sd_if (lendT (evt_w (evw_and (evt_cmp (evd_bi (eva_cons (vv 2 rfl) eva_nil) c_lenL B.len (by decide +kernel)) evd_int o_gt) (fun _ => evw_and1 (evt_cmp (evd_ixL (vv 2 rfl) evd_int hhd) (evd_ixL (vv 2 rfl) (evd_neg evd_int) hla) o_eq))))) (fun h => ?_) (fun h => ?_)
        · rw [hlen] at h
          simp only [Bool.and_eq_true, decide_eq_true_eq] at h
          refine sd_popE 2 (ds := ini.map nD) (d := nD z) (by simp [List.map_append]) (sd_nil (fin (t' := ini) ?_))
          rw [ewa, if_pos ⟨by simp; omega, by congr 1; omega⟩]
          simp
        · rw [hlen] at h
          refine sd_nil (fin (t' := ini ++ [z]) ?_)
          rw [ewa, if_neg ?_]
          rintro ⟨z1, z2⟩
          simp at z1 z2
          simp [z2] at h
          omega
abbrev nIN : List Str := ["value", "pieces", "told"]
theorem scIN : FnScope nIN ["value", "pieces"] (defScope (top 47)) := ⟨rfl, rfl, rfl, by decide +kernel, rfl, by decide +kernel, by decide +kernel⟩
abbrev inSp (C : Addr) : List D → D → Prop := fsp (fun (ps : List Piece) => [netD C ps, psD ps]) Ok fun _ => .bl true
theorem nodesAll_map {α : Type} {enc : α → D} {n : Nat} : ∀ {xs : List α}, (∀ a ∈ xs, nodes (enc a) ≤ n) → nodesAll (xs.map enc) ≤ n * xs.length
  | [], _ => Nat.zero_le _
  | x :: xs, h => by
    have := nodesAll_map (xs := xs) fun a ha => h a (by simp [ha])
    have := h x (by simp)
    simp only [List.map_cons, nodesAll, List.length_cons, Nat.mul_succ]
    omega
theorem nodes_rD (r : Nat × Nat) : nodes (rD r) ≤ 3 := by simp [rD, nodes, nodesAll]
theorem nodes_psD {ps : List Piece} (ok : Ok ps) : nodes (psD ps) < 4000 := by
  have h := ok.len
  have hp : ∀ p ∈ ps, nodes (pD p) ≤ 100 := fun p hp => by
    have o := ok.ok p hp
    have h1 := o.rl
    have h2 := o.gl
    have e1 := nodesAll_map (xs := p.roads) (n := 3) fun r _ => nodes_rD r
    have e2 := nodesAll_map (xs := p.gates) (n := 3) fun r _ => nodes_rD r
    unfold pD
    simp only [nodes, nodesAll]
    omega
  have := nodesAll_map hp
  unfold psD
  simp only [nodes]
  omega
theorem plAll_map {α : Type} {enc : α → D} {most : Nat} {xs : List α} (h : ∀ a ∈ xs, pl most (enc a) = true) : plAll most (xs.map enc) = true := plAll_iff.mpr fun d hd => by
  obtain ⟨a, ha, rfl⟩ := List.mem_map.mp hd
  exact h a ha
theorem pl_rD {most : Nat} (hm : 2 ≤ most) (r : Nat × Nat) : pl most (rD r) = true := by simp [rD, pl, plAll, hm]
theorem pl_psD {ps : List Piece} (ok : Ok ps) : pl 4000 (psD ps) = true := by
  have h := ok.len
  unfold psD
  simp only [pl, List.length_map, Bool.and_eq_true, decide_eq_true_eq]
  refine ⟨by omega, plAll_map fun p hp => ?_⟩
  have o := ok.ok p hp
  have h1 := o.rl
  have h2 := o.gl
  unfold pD
  simp only [pl, plAll, List.length_map, List.length_cons, List.length_nil, plAll_map (fun r _ => pl_rD (most := 4000) (by omega) r), Bool.and_eq_true, decide_eq_true_eq]
  simp
  omega
theorem kn_in {C : Addr} (D0 : Dn K mg "_law_is_net" (top 47)) (B : Bi mg) (T : NetT K mg C) (hp : Kn P w K mg base 2 "_law_plain" plSp) : Kn P w K mg base 3 "_law_is_net" (inSp C) :=
  kn_mk (N := nIN) (ps := ["value", "pieces"]) 2 D0 scIN (fun _ => rfl) (by decide) (fun _ _ _ _ _ _ us hl => match us, hl with | [_, _], _ => rfl) fun f cdv A outer s H E hr ps ok => by
    show Sd _ [.d (netD C ps), .d (psD ps), .no] _ { nx := fun _ => D.bl true = .non, rt := fun d' => d' = D.bl true }
    have hu := hr.units
    refine sd_if (evt_not (evt_d (evd_isC (k := true) (C := C) (d := netD C ps) (vv 0 rfl) (.o T.ob) (by unfold PySem.W.kitOne; simp) B.isi T.g))) (fun h => by cases h) fun _ => sd_nil ?_
    refine sd_set 2 (evd_pieces T (vv 0 rfl)) scIN.nd ?_
    refine sd_ret (d := .bl (true && true)) (evd_and (evd_f hp hr (psD ps, 4000) (eva_cons (vv 2 rfl) (eva_cons evd_int eva_nil)) ⟨pl_psD ok, nodes_psD ok, by show 4000 ≤ 10000; omega⟩) fun _ => evd_and1 (evd_cmp (vv 2 rfl) (vv 1 rfl) (o_eqD hu (clean_psD ps) (by have := dpt_psD ps; omega)))) rfl
end
end K86

set_option linter.all false
set_option maxRecDepth 100000
set_option maxHeartbeats 8000000
/-! k86: the way back, the closed ways. -/
namespace K86
open PySem L2 ML
theorem range_at {n i : Nat} {pre post : List Nat} (e : List.range n = pre ++ i :: post) : i = pre.length ∧ pre.length < n := by
  have hl := congrArg List.length e
  simp at hl
  have hlt : pre.length < n := by omega
  have h1 : (List.range n)[pre.length]? = some pre.length := by simp [hlt]
  rw [e] at h1
  simp at h1
  exact ⟨h1, hlt⟩
/-- one side of wbE -/
def wbH (here : Nat) (r : Nat × Nat) (s : List (Option Nat) × List Nat) (side : Nat) : List (Option Nat) × List Nat :=
  let a := if side = 0 then r.1 else r.2
  let b := if side = 0 then r.2 else r.1
  if a = here ∧ b ∉ s.2 then (s.1.set b (some here), s.2 ++ [b]) else s
theorem wbE_two (here : Nat) (s : List (Option Nat) × List Nat) (r : Nat × Nat) : wbE here s r = (List.range 2).foldl (wbH here r) s := rfl
theorem wbH_len (here : Nat) (r : Nat × Nat) (s : List (Option Nat) × List Nat) (side : Nat) : (wbH here r s side).1.length = s.1.length ∧ (wbH here r s side).2.length ≤ s.2.length + 1 ∧ s.2 <+: (wbH here r s side).2 := by
  unfold wbH
  dsimp only
  by_cases c : ((if side = 0 then r.1 else r.2) = here ∧ (if side = 0 then r.2 else r.1) ∉ s.2)
  · rw [if_pos c]; simp
  · rw [if_neg c]; simp
theorem o_ninLn {X : Cx} {i : Nat} {ns : List Nat} : OpD X (compareOp .NotIn) (nD i) (.lst (ns.map nD)) (.bl (!decide (i ∈ ns))) := by
  have h := o_ninL (X := X) (i := (i : Int)) (ns := ns.map fun (n : Nat) => (n : Int))
  rw [List.map_map] at h
  have e : decide ((i : Int) ∈ ns.map fun n : Nat => (n : Int)) = decide (i ∈ ns) := decide_eq_decide.mpr ⟨fun z => by
    obtain ⟨a, ha, e⟩ := List.mem_map.mp z
    have : a = i := by omega
    rw [← this]; exact ha, fun z => List.mem_map.mpr ⟨i, z, rfl⟩⟩
  rw [e] at h
  exact h
theorem wb_pre {here : Nat} {tree : List (Nat × Nat)} : ∀ (s : List (Option Nat) × List Nat), s.2 <+: (tree.foldl (wbE here) s).2 := by
  induction tree with
  | nil => intro s; exact List.prefix_refl _
  | cons r tree ih =>
    intro s
    refine List.IsPrefix.trans ?_ (ih (wbE here s r))
    rw [wbE_two]
    exact ((wbH_len here r s 0).2.2).trans (wbH_len here r _ 1).2.2
section
variable {P : Program} {w : World} {K : PySem.W.Frag} {mg : Str → Option Value} {base : Heap}
abbrev nWb : List Str := ["size", "tree", "one", "two", "before", "seen", "i", "pair", "side", "way"]
theorem scWb : FnScope nWb ["size", "tree", "one", "two"] (defScope (top 50)) := ⟨rfl, rfl, rfl, by decide +kernel, rfl, by decide +kernel, by decide +kernel⟩
structure WbG where
  size : Nat
  tree : List (Nat × Nat)
  one : Nat
  two : Nat
def WbG.s0 (g : WbG) : List (Option Nat) × List Nat := (List.replicate g.size none, [g.one])
abbrev wbSp : List D → D → Prop := fsp (fun (g : WbG) => [nD g.size, .lst (g.tree.map rD), nD g.one, nD g.two]) (fun g => g.size ≤ 100 ∧ g.tree.length ≤ 100 ∧ RIn g.size g.tree ∧ reach (wbRun g.tree g.size 0 g.s0).1 g.one g.size g.two) fun g => .lst ((wayBack g.size g.tree g.one g.two).map nD)
theorem pair_at {x y side : Nat} (h : side < 2) : atI [nD x, nD y] (side : Int) = some (nD (if side = 0 then x else y)) := by
  match side, h with
  | 0, _ => rfl
  | 1, _ => rfl
theorem pair_at1 {x y side : Nat} {i : Int} (h : side < 2) (e : i = 1 - (side : Int)) : atI [nD x, nD y] i = some (nD (if side = 0 then y else x)) := by
  subst e
  match side, h with
  | 0, _ => rfl
  | 1, _ => rfl
theorem kn_wb (D0 : Dn K mg "_law_way_back" (top 50)) (B : Bi mg) : Kn P w K mg base 1 "_law_way_back" wbSp :=
  kn_mk (N := nWb) (ps := ["size", "tree", "one", "two"]) 0 D0 scWb (fun _ => rfl) (by decide) (fun _ _ _ _ _ _ us hl => match us, hl with | [_, _, _, _], _ => rfl) fun f cdv A outer s H E hr ⟨size, tree, one, two⟩ ⟨h1, h2, h3, h4⟩ => by
    simp only at h1 h2 h3 h4
    show Sd _ [.d (nD size), .d (.lst (tree.map rD)), .d (nD one), .d (nD two), .no, .no, .no, .no, .no, .no] _ { nx := fun _ => D.lst ((wayBack size tree one two).map nD) = .non, rt := fun d' => d' = D.lst ((wayBack size tree one two).map nD) }
    have hs0 : WbG.s0 ⟨size, tree, one, two⟩ = (List.replicate size none, [one]) := rfl
    rw [hs0] at h4
    refine sd_setO 4 (EvO.to (ds' := (List.replicate size none).map oD) (evo_op (evo_lst (eva_cons evd_non eva_nil)).toD (vv 0 rfl) (o_mulL (by omega) (by omega) (by simp; omega))) (by rw [flat_rep, Int.toNat_natCast, List.map_replicate]; rfl)) scWb.nd ?_
    refine sd_setO 5 (evo_lst (eva_cons (vv 2 rfl) eva_nil)) scWb.nd ?_
    generalize hF : wbRun tree size 0 (List.replicate size none, [one]) = fin at h4
    have hFl : fin.1.length = size ∧ wayBack size tree one two = wbWay fin.1 one size two := by
      refine ⟨?_, by unfold wayBack; rw [hF]⟩
      have hl : ∀ (n i : Nat) (s : List (Option Nat) × List Nat), (wbRun tree n i s).1.length = s.1.length := by
        intro n
        induction n with
        | zero => intro i s; rfl
        | succ n ih =>
          intro i s
          unfold wbRun
          split
          · rw [ih]
            have : ∀ (tr : List (Nat × Nat)) (here : Nat) (s : List (Option Nat) × List Nat), (tr.foldl (wbE here) s).1.length = s.1.length := by
              intro tr here
              induction tr with
              | nil => intro s; rfl
              | cons r tr ih => intro s; rw [List.foldl_cons, ih, wbE_two]; exact ((wbH_len here r _ 1).1).trans (wbH_len here r s 0).1
            exact this _ _ _
          · rfl
      rw [← hF, hl]
      simp
    have hmul : ∀ a b : Nat, a ≤ 100 → b ≤ 100 → a * b ≤ 10000 := fun a b ha hb => Nat.mul_le_mul ha hb
    have tail : Sd (CXf P w K mg base nWb "_law_way_back" (top 50) f cdv A outer s H E) [.d (nD size), .d (.lst (tree.map rD)), .d (nD one), .d (nD two), .o (fin.1.map oD), .no, .no, .no, .no, .no] ((defBody (top 50)).drop 3) { nx := fun _ => D.lst ((wayBack size tree one two).map nD) = .non, rt := fun d' => d' = D.lst ((wayBack size tree one two).map nD) } := by
      obtain ⟨bl, bw⟩ := hFl
      generalize hah : fin.1 = ahead at h4 bl bw
      refine sd_setO 9 (evo_lst (eva_cons (vv 3 rfl) eva_nil)) scWb.nd ?_
      refine sd_for (α := Nat) (S := List Nat × Nat) (enc := fun i => D.int (i : Int)) (xs := List.range size) (fun pre s => s.1 ++ wbWay ahead one (size - pre.length) s.2 = wayBack size tree one two ∧ s.1.length = pre.length ∧ reach ahead one (size - pre.length) s.2)
        (fun s => [.d (nD size), .d (.lst (tree.map rD)), .d (nD one), .d (nD two), .o (ahead.map oD), .no, .no, .no, .no, .o ((s.1 ++ [s.2]).map nD)]) (fun s i => [.d (nD size), .d (.lst (tree.map rD)), .d (nD one), .d (nD two), .o (ahead.map oD), .no, .d (nD i), .no, .no, .o ((s.1 ++ [s.2]).map nD)]) (js := fun _ _ => [6])
        (fun M' => Le M' [.no, .no, .no, .no, .no, .no, .no, .no, .no, .o ((wayBack size tree one two).map nD)])
        (srcTo (src_rng1 (n := (size : Int)) (vv 0 rfl) (by omega) (by omega) B.range) (by rw [Int.toNat_natCast])) rfl ([], two) ⟨by simpa using bw.symm, rfl, by simpa using h4⟩
        (Le.refl _) (fun pre x post s e _ => tg_name 6 scWb.nd) ?_ ?_ ?_
      · rintro pre i post ⟨ini, z⟩ e ⟨hw, hl, hre⟩
        simp only at hw hl hre
        obtain ⟨rfl, hlt⟩ := range_at e
        have e3 : size - pre.length = (size - (pre.length + 1)) + 1 := by omega
        have hla : atI ((ini ++ [z]).map nD) (-1) = some (nD z) := by rw [List.map_append]; exact atI_last _ _
        rw [e3, wbWay] at hw
        rw [e3] at hre
        show Sd _ [.d (nD size), .d (.lst (tree.map rD)), .d (nD one), .d (nD two), .o (ahead.map oD), .no, .d (nD pre.length), .no, .no, .o ((ini ++ [z]).map nD)] _ _
        refine sd_if (lendT (evt_cmp (evd_ixL (vv 9 rfl) (evd_neg evd_int) hla) (vv 2 rfl) o_eq)) (fun h => ?_) (fun h => sd_nil ?_)
        · have hz : z = one := by have := of_decide_eq_true h; omega
          rw [if_pos hz] at hw
          refine sd_break ?_
          rw [← hw]
          exact .no (.no (.no (.no (.no (.no (.no (.no (.no (.eq rfl .nil)))))))))
        · have hz : z ≠ one := by have := of_decide_eq_false h; omega
          rw [if_neg hz] at hw
          rcases hre with hre | ⟨q, hq, hre⟩
          · exact absurd hre hz
          have hpl : z < ahead.length := by
            by_cases y : z < ahead.length
            · exact y
            · simp [List.getD, y] at hq
          refine sd_append 9 rfl (d := nD q) (lend (EvD.to (evd_ixL (vv 4 rfl) (evd_ixL (vv 9 rfl) (evd_neg evd_int) hla) (at_mapD none hpl)) (by rw [hq]; rfl)) rfl) (by rw [List.length_map, List.length_append, hl]; simp; omega) (sd_nil ⟨(ini ++ [z], q), ⟨?_, by simp [hl], ?_⟩, ?_⟩)
          · rw [← hw, hq, List.length_append]
            simp
          · rw [List.length_append]; exact hre
          · refine .eq rfl (.eq rfl (.eq rfl (.eq rfl (.eq rfl (.no (.no (.no (.no (.eq ?_ .nil)))))))))
            show Slot.o _ = Slot.o _
            simp
      · rintro ⟨ini, z⟩ ⟨hw, -, -⟩
        rw [List.length_range, Nat.sub_self, wbWay] at hw
        simp only at hw
        show Sd _ [.d (nD size), .d (.lst (tree.map rD)), .d (nD one), .d (nD two), .o (ahead.map oD), .no, .no, .no, .no, .o ((ini ++ [z]).map nD)] _ _
        rw [hw]
        exact sd_retO 9 rfl rfl
      · intro M' h
        exact sd_le h (sd_retO 9 rfl rfl)
    -- the search
    refine sd_for (α := Nat) (S := List (Option Nat) × List Nat) (enc := fun i => D.int (i : Int)) (xs := List.range size) (fun pre s => wbRun tree (size - pre.length) pre.length s = fin ∧ s.1.length = size ∧ s.2.length ≤ 1 + 2 * (tree.length * pre.length))
      (fun s => [.d (nD size), .d (.lst (tree.map rD)), .d (nD one), .d (nD two), .o (s.1.map oD), .o (s.2.map nD), .no, .no, .no, .no]) (fun s i => [.d (nD size), .d (.lst (tree.map rD)), .d (nD one), .d (nD two), .o (s.1.map oD), .o (s.2.map nD), .d (nD i), .no, .no, .no]) (js := fun _ _ => [6])
      (fun M' => Le M' [.d (nD size), .d (.lst (tree.map rD)), .d (nD one), .d (nD two), .o (fin.1.map oD), .no, .no, .no, .no, .no])
      (srcTo (src_rng1 (n := (size : Int)) (vv 0 rfl) (by omega) (by omega) B.range) (by rw [Int.toNat_natCast])) rfl (List.replicate size none, [one]) ⟨by simpa using hF, by simp, by simp⟩
      (Le.refl _) (fun pre x post s e _ => tg_name 6 scWb.nd) ?_ ?_ ?_
    · rintro pre i post ⟨bf, sn⟩ e ⟨hR, hbl, hsl⟩
      simp only at hbl hsl
      obtain ⟨rfl, hlt⟩ := range_at e
      show Sd _ [.d (nD size), .d (.lst (tree.map rD)), .d (nD one), .d (nD two), .o (bf.map oD), .o (sn.map nD), .d (nD pre.length), .no, .no, .no] _ _
      have hm := hmul tree.length pre.length h2 (by omega)
      have e3 : size - pre.length = (size - (pre.length + 1)) + 1 := by omega
      rw [e3, wbRun] at hR
      refine sd_if (lendT (evt_cmp (vv 6 rfl) (evd_bi (eva_cons (vv 5 rfl) eva_nil) c_lenL B.len (by decide +kernel)) o_ge)) (fun h => ?_) (fun h => sd_nil ?_)
      · rw [List.length_map] at h
        have := of_decide_eq_true h
        rw [if_neg (by show ¬ pre.length < sn.length; omega)] at hR
        refine sd_break ?_
        rw [← hR]
        exact .eq rfl (.eq rfl (.eq rfl (.eq rfl (.eq rfl (.no (.no (.no (.no (.no .nil)))))))))
      · rw [List.length_map] at h
        have := of_decide_eq_false h
        have hi : pre.length < sn.length := by omega
        rw [if_pos (by exact hi)] at hR
        have hr0 : sn.getD pre.length 0 = sn[pre.length] := by simp [List.getD, hi]
        generalize hhere : sn.getD pre.length 0 = here at hR hr0
        have pfx : ∀ {sn' : List Nat}, sn <+: sn' → atI (sn'.map nD) (pre.length : Int) = some (nD here) := fun {sn'} ⟨t, et⟩ => by
          have hl : pre.length < sn'.length := by rw [← et, List.length_append]; omega
          rw [at_mapD 0 hl]
          have : sn'.getD pre.length 0 = here := by
            rw [← et]; simp [List.getD, List.getElem?_append_left hi, hi, hr0]
          rw [this]
        refine sd_for (α := Nat × Nat) (S := List (Option Nat) × List Nat) (enc := rD) (xs := tree) (fun pr t => t = pr.foldl (wbE here) (bf, sn) ∧ t.1.length = size ∧ t.2.length ≤ sn.length + 2 * pr.length ∧ sn <+: t.2)
          (fun t => [.d (nD size), .d (.lst (tree.map rD)), .d (nD one), .d (nD two), .o (t.1.map oD), .o (t.2.map nD), .d (nD pre.length), .no, .no, .no])
          (fun t x => [.d (nD size), .d (.lst (tree.map rD)), .d (nD one), .d (nD two), .o (t.1.map oD), .o (t.2.map nD), .d (nD pre.length), .d (rD x), .no, .no]) (js := fun _ _ => [7]) (fun _ => False)
          (src_lst (vv 1 rfl)) rfl (bf, sn) ⟨rfl, hbl, by simp, List.prefix_refl _⟩ (.eq rfl (.eq rfl (.eq rfl (.eq rfl (.eq rfl (.eq rfl (.eq rfl (.no (.no (.no .nil)))))))))) (fun pr x po t e _ => tg_name 7 scWb.nd) ?_ ?_ (fun _ h => h.elim)
        · rintro pr ⟨x, y⟩ po ⟨tb, ts⟩ et ⟨e1, e2, e4, e5⟩
          simp only at e2 e4 e5
          have hxy := h3 (x, y) (by rw [et]; simp)
          simp only at hxy
          have hprl : pr.length < tree.length := by have := congrArg List.length et; simp at this; omega
          show Sd _ [.d (nD size), .d (.lst (tree.map rD)), .d (nD one), .d (nD two), .o (tb.map oD), .o (ts.map nD), .d (nD pre.length), .d (rD (x, y)), .no, .no] _ _
          refine sd_for (α := Nat) (S := List (Option Nat) × List Nat) (enc := fun i => D.int (i : Int)) (xs := List.range 2) (fun pq u => u = pq.foldl (wbH here (x, y)) (tb, ts) ∧ u.1.length = size ∧ u.2.length ≤ ts.length + pq.length ∧ sn <+: u.2)
            (fun u => [.d (nD size), .d (.lst (tree.map rD)), .d (nD one), .d (nD two), .o (u.1.map oD), .o (u.2.map nD), .d (nD pre.length), .d (rD (x, y)), .no, .no])
            (fun u j => [.d (nD size), .d (.lst (tree.map rD)), .d (nD one), .d (nD two), .o (u.1.map oD), .o (u.2.map nD), .d (nD pre.length), .d (rD (x, y)), .d (nD j), .no]) (js := fun _ _ => [8]) (fun _ => False)
            (src_rng1 (n := 2) evd_int (by decide) (by decide) B.range) rfl (tb, ts) ⟨rfl, e2, by simp, e5⟩ (.eq rfl (.eq rfl (.eq rfl (.eq rfl (.eq rfl (.eq rfl (.eq rfl (.eq rfl (.no (.no .nil)))))))))) (fun pq x po t e _ => tg_name 8 scWb.nd) ?_ ?_ (fun _ h => h.elim)
          · rintro pq j pw ⟨ub, us⟩ eu ⟨u1, u2, u3, u4⟩
            simp only at u2 u3 u4
            obtain ⟨rfl, hj⟩ := range_at eu
            have uex := wbH_len here (x, y) (ub, us) pq.length
            have estep : (pq ++ [pq.length]).foldl (wbH here (x, y)) (tb, ts) = wbH here (x, y) (ub, us) pq.length := by rw [List.foldl_append, ← u1]; rfl
            generalize hside : pq.length = side at *
            show Sd _ [.d (nD size), .d (.lst (tree.map rD)), .d (nD one), .d (nD two), .o (ub.map oD), .o (us.map nD), .d (nD pre.length), .d (rD (x, y)), .d (nD side), .no] _ _
            have hb' : (if side = 0 then y else x) < size := by split <;> omega
            unfold wbH at estep uex
            simp only at estep uex
            refine sd_if (lendT (evt_w (evw_and (evt_cmp (evd_ixT (vv 7 rfl) (vv 8 rfl) (pair_at hj)) (evd_ixL (vv 5 rfl) (vv 6 rfl) (pfx u4)) o_eq) (fun _ => evw_and1 (evt_cmp (evd_ixT (vv 7 rfl) (evd_op evd_int (vv 8 rfl) o_sub) (pair_at1 hj rfl)) (vv 5 rfl) o_ninLn))))) (fun h => ?_) (fun h => ?_)
            · simp only [Bool.and_eq_true, decide_eq_true_eq, Bool.not_eq_true', decide_eq_false_iff_not] at h
              have hc : (if side = 0 then x else y) = here ∧ (if side = 0 then y else x) ∉ us := ⟨by omega, h.2⟩
              rw [if_pos hc] at estep uex
              generalize hbb : (if side = 0 then y else x) = b at *
              refine sd_item 4 rfl (lend (evd_ixL (vv 5 rfl) (vv 6 rfl) (pfx u4)) rfl) (evd_ixT (vv 7 rfl) (evd_op evd_int (vv 8 rfl) o_sub) ((pair_at1 hj rfl).trans (by rw [hbb]))) (Evl.ixN_nat (by rw [List.length_map]; omega)) ?_
              rw [map_oD_set]
              refine sd_append 5 rfl (evd_ixT (vv 7 rfl) (evd_op evd_int (vv 8 rfl) o_sub) ((pair_at1 hj rfl).trans (by rw [hbb]))) (by rw [List.length_map]; omega) (sd_nil (sd_nil ⟨(ub.set b (some here), us ++ [b]), ⟨estep.symm, by rw [uex.1]; exact u2, by simp; omega, u4.trans uex.2.2⟩, ?_⟩))
              refine .eq rfl (.eq rfl (.eq rfl (.eq rfl (.eq rfl (.eq ?_ (.eq rfl (.eq rfl (.no (.no .nil)))))))))
              rw [List.map_append]; rfl
            · have hc : ¬ ((if side = 0 then x else y) = here ∧ (if side = 0 then y else x) ∉ us) := fun z => by
                simp only [Bool.and_eq_false_iff, decide_eq_false_iff_not, Bool.not_eq_false', decide_eq_true_eq] at h
                rcases h with h | h
                · exact h (by omega)
                · exact z.2 h
              rw [if_neg hc] at estep
              exact sd_nil (sd_nil ⟨(ub, us), ⟨estep.symm, u2, by simp; omega, u4⟩, .eq rfl (.eq rfl (.eq rfl (.eq rfl (.eq rfl (.eq rfl (.eq rfl (.eq rfl (.no (.no .nil)))))))))⟩)
          · rintro ⟨ub, us⟩ ⟨u1, u2, u3, u4⟩
            simp only [List.length_range] at u2 u3 u4
            refine sd_nil ⟨(ub, us), ⟨?_, u2, by simp; omega, u4⟩, .eq rfl (.eq rfl (.eq rfl (.eq rfl (.eq rfl (.eq rfl (.eq rfl (.no (.no (.no .nil)))))))))⟩
            rw [u1, List.foldl_append, ← e1, List.foldl_cons, List.foldl_nil, wbE_two]
        · rintro ⟨tb, ts⟩ ⟨e1, e2, e4, e5⟩
          simp only at e2 e4
          refine sd_nil ⟨(tb, ts), ⟨?_, e2, ?_⟩, .eq rfl (.eq rfl (.eq rfl (.eq rfl (.eq rfl (.eq rfl (.no (.no (.no (.no .nil)))))))))⟩
          · rw [List.length_append]
            show wbRun tree (size - (pre.length + 1)) (pre.length + 1) (tb, ts) = fin
            rw [e1]
            exact hR
          · show ts.length ≤ 1 + 2 * (tree.length * (pre ++ [pre.length]).length)
            rw [List.length_append, List.length_singleton, Nat.mul_succ]
            omega
    · rintro ⟨bf, sn⟩ ⟨hR, -, -⟩
      rw [List.length_range, Nat.sub_self] at hR
      refine sd_le (M' := [.d (nD size), .d (.lst (tree.map rD)), .d (nD one), .d (nD two), .o (fin.1.map oD), .no, .no, .no, .no, .no]) ?_ ?_
      · rw [← hR]
        exact .eq rfl (.eq rfl (.eq rfl (.eq rfl (.eq rfl (.no (.no (.no (.no (.no .nil)))))))))
      · exact tail
    · intro M' h
      exact sd_le h tail
end
end K86

set_option linter.all false
set_option maxRecDepth 100000
set_option maxHeartbeats 8000000
/-! k86: the closed ways. -/
namespace K86
open PySem L2 ML
theorem cut_last (xs : List D) : cutD xs none (some (-1)) = xs.dropLast := by
  unfold cutD
  rw [HT.sIx_none]
  show (xs.drop 0).take ((if (-1 : Int) < 0 then ((-1 : Int) + (xs.length : Int)).toNat else min (-1 : Int).toNat xs.length) - 0) = _
  rw [if_pos (by decide), List.drop_zero, List.dropLast_eq_take]
  congr 1
  omega
section
variable {P : Program} {w : World} {K : PySem.W.Frag} {mg : Str → Option Value} {base : Heap}
abbrev nCl : List Str := ["piece", "size", "roads", "taken", "tree", "i", "told", "back"]
theorem scCl : FnScope nCl ["piece"] (defScope (top 51)) := ⟨rfl, rfl, rfl, by decide +kernel, rfl, by decide +kernel, by decide +kernel⟩
def wsD (ws : List (List Nat)) : D := .tup (ws.map fun w => .tup (w.map nD))
abbrev clSp : List D → D → Prop := fsp (fun (p : Piece) => [pD p]) (fun p => ∃ many, p.Ok many) fun p => wsD (closedL p)
def clOne (p : Piece) (i : Nat) : List Nat := (p.roads.getD i (0, 0)).1 :: (wayBack p.size (treeOf p.roads (gr p.size p.roads)) (p.roads.getD i (0, 0)).1 (p.roads.getD i (0, 0)).2).dropLast
theorem kn_cl (D0 : Dn K mg "_law_closed" (top 51)) (B : Bi mg) (hg : Kn P w K mg base 1 "_law_greedy" grSp) (hw : Kn P w K mg base 1 "_law_way_back" wbSp) : Kn P w K mg base 2 "_law_closed" clSp :=
  kn_mk (N := nCl) (ps := ["piece"]) 1 D0 scCl (fun _ => rfl) (by decide) (fun _ _ _ _ _ _ us hl => match us, hl with | [_], _ => rfl) fun f cdv A outer s H E hr q ⟨many, o⟩ => by
    have hsz := o.sz
    have hrl := o.rl
    have hgl := gr_len q.size q.roads
    show Sd _ [.d (pD q), .no, .no, .no, .no, .no, .no, .no] _ { nx := fun _ => wsD (closedL q) = .non, rt := fun d' => d' = wsD (closedL q) }
    refine sd_tg (d := .tup [nD q.size, .tup (q.roads.map rD)]) (evd_tup (eva_cons (evd_ixT (d := nD q.size) (vv 0 rfl) evd_int at_0) (eva_cons (evd_ixT (d := .tup (q.roads.map rD)) (vv 0 rfl) evd_int at_1) eva_nil))) (tg_two rfl (tg_name 1 scCl.nd) (tg_name 2 scCl.nd)) ?_
    refine sd_set 3 (evd_f hg hr (q.size, q.roads) (eva_cons (vv 1 rfl) (eva_cons (vv 2 rfl) eva_nil)) ⟨by show q.size ≤ 1000; omega, by show q.roads.length ≤ 1000; omega, o.roads⟩) scCl.nd ?_
    refine sd_setMap 4 [("i", 5)] nD (gr q.size q.roads) (fun i => rD (q.roads.getD i (0, 0))) _ [5] (src_lst (vv 3 rfl)) rfl scCl.nd (blkOk_by (N := nCl) (sc := defScope (top 51)) (by decide +kernel)) (by decide) (fun _ _ _ _ _ d hd => tg_name 5 scCl.nd) (fun _ _ _ _ _ i hi => evd_ixT (vv 2 rfl) (vv 5 rfl) (at_mapD (0, 0) (gr_lt hi))) (by omega) ?_
    refine sd_setO 6 (evo_lst eva_nil) scCl.nd ?_
    have et : (gr q.size q.roads).map (fun i => rD (q.roads.getD i (0, 0))) = (treeOf q.roads (gr q.size q.roads)).map rD := by unfold treeOf; rw [List.map_map]; rfl
    have htl : (treeOf q.roads (gr q.size q.roads)).length ≤ 20 := by unfold treeOf; rw [List.length_map]; omega
    have hti : RIn q.size (treeOf q.roads (gr q.size q.roads)) := fun r hr => by
      obtain ⟨i, hi, rfl⟩ := List.mem_map.mp hr
      have hl := gr_lt hi
      exact o.roads _ (by simp [List.getD, hl])
    simp only [et]
    have hcl : closedL q = ((List.range q.roads.length).filter fun i => decide (i ∉ gr q.size q.roads)).map (clOne q) := rfl
    refine sd_for (α := Nat) (S := List (List Nat)) (enc := fun i => D.int (i : Int)) (xs := List.range q.roads.length) (fun pre s => s = (pre.filter fun i => decide (i ∉ gr q.size q.roads)).map (clOne q))
      (fun s => [.d (pD q), .d (nD q.size), .d (.tup (q.roads.map rD)), .d (.lst ((gr q.size q.roads).map nD)), .d (.lst ((treeOf q.roads (gr q.size q.roads)).map rD)), .no, .o (s.map fun w => .tup (w.map nD)), .no])
      (fun s i => [.d (pD q), .d (nD q.size), .d (.tup (q.roads.map rD)), .d (.lst ((gr q.size q.roads).map nD)), .d (.lst ((treeOf q.roads (gr q.size q.roads)).map rD)), .d (nD i), .o (s.map fun w => .tup (w.map nD)), .no]) (js := fun _ _ => [5]) (fun _ => False)
      (src_rng1 (n := (q.roads.length : Int)) (EvD.to (evd_bi (eva_cons (vv 2 rfl) eva_nil) c_lenT B.len (by decide +kernel)) (by rw [List.length_map])) (by omega) (by omega) B.range) rfl [] rfl (Le.refl _) (fun pre x post s e _ => tg_name 5 scCl.nd) ?_ ?_ (fun _ h => h.elim)
    · rintro pre i post s e es
      have hi : i < q.roads.length := by have : i ∈ List.range q.roads.length := by rw [e]; simp
                                         simpa using this
      have hpl : pre.length < q.roads.length := by have := congrArg List.length e; simp at this; omega
      have hsl : s.length ≤ pre.length := by rw [es, List.length_map]; exact List.length_filter_le _ _
      have hrr := o.roads (q.roads.getD i (0, 0)) (by simp [List.getD, hi])
      have hre := gr_reach o hrr
      have hone : clOne q i = (q.roads.getD i (0, 0)).1 :: (wayBack q.size (treeOf q.roads (gr q.size q.roads)) (q.roads.getD i (0, 0)).1 (q.roads.getD i (0, 0)).2).dropLast := rfl
      have hat : atI (q.roads.map rD) (i : Int) = some (rD (q.roads.getD i (0, 0))) := at_mapD (0, 0) hi
      generalize hr0 : q.roads.getD i (0, 0) = r at *
      obtain ⟨x, y⟩ := r
      simp only at hrr hre hone
      show Sd _ [.d (pD q), .d (nD q.size), .d (.tup (q.roads.map rD)), .d (.lst ((gr q.size q.roads).map nD)), .d (.lst ((treeOf q.roads (gr q.size q.roads)).map rD)), .d (nD i), .o (s.map fun w => .tup (w.map nD)), .no] _ _
      refine sd_if (evt_cmp (vv 5 rfl) (vv 3 rfl) o_ninLn) (fun h => ?_) (fun h => ?_)
      · have hn : i ∉ gr q.size q.roads := by simpa using h
        refine sd_set 7 (evd_f hw hr (⟨q.size, treeOf q.roads (gr q.size q.roads), x, y⟩ : WbG) (eva_cons (vv 1 rfl) (eva_cons (vv 4 rfl) (eva_cons (evd_ixT (evd_ixT (vv 2 rfl) (vv 5 rfl) hat) evd_int at2_0) (eva_cons (evd_ixT (evd_ixT (vv 2 rfl) (vv 5 rfl) hat) evd_int at2_1) eva_nil)))) ⟨by show q.size ≤ 100; omega, by show (treeOf q.roads (gr q.size q.roads)).length ≤ 100; omega, hti, hre⟩) scCl.nd ?_
        have hbl : (wayBack q.size (treeOf q.roads (gr q.size q.roads)) x y).length ≤ q.size + 1 := wbWay_len _ _ _ _
        generalize hbk : wayBack q.size (treeOf q.roads (gr q.size q.roads)) x y = back at hbl hone
        refine sd_append 6 rfl (d := .tup ((clOne q i).map nD)) (lend (EvD.to (evd_ty (eva_cons (evo_op (evo_lst (eva_cons (evd_ixT (evd_ixT (vv 2 rfl) (vv 5 rfl) hat) evd_int at2_0) eva_nil)).toD (evo_slL (vv 7 rfl) evp_none (evp_some (evd_neg evd_int))).toD (o_addL ?_)).toD eva_nil) c_tupL B.tuple (by decide +kernel)) ?_) (wD_noL _)) (by rw [List.length_map]; omega) (sd_nil (sd_nil ⟨s ++ [clOne q i], ?_, ?_⟩))
        · rw [cut_last]; simp; omega
        · rw [cut_last, hone, ← List.map_dropLast]; rfl
        · rw [es, List.filter_append, List.map_append]
          simp [hn]
        · refine .eq rfl (.eq rfl (.eq rfl (.eq rfl (.eq rfl (.no (.eq ?_ (.no .nil)))))))
          rw [List.map_append]; rfl
      · have hn : i ∈ gr q.size q.roads := by simpa using h
        refine sd_nil (sd_nil ⟨s, ?_, .eq rfl (.eq rfl (.eq rfl (.eq rfl (.eq rfl (.no (.eq rfl (.no .nil)))))))⟩)
        rw [es, List.filter_append, List.map_append]
        simp [hn]
    · rintro s es
      refine sd_ret (lend (evd_ty (eva_cons (vv 6 rfl) eva_nil) c_tupL B.tuple (by decide +kernel)) ?_) ?_
      · exact noL_map (enc := fun w : List Nat => D.tup (w.map nD)) wD_noL s
      · unfold wsD
        rw [hcl, es]
end
end K86

set_option linter.all false
set_option maxRecDepth 100000
set_option maxHeartbeats 8000000
/-! k86: what stays, the ways follow. -/
namespace K86
open PySem L2 ML
theorem pl_map_int {most : Nat} (ns : List Int) : plAll most (ns.map D.int) = true := plAll_map fun i _ => by simp [pl]
theorem kiN {ps : List Piece} (ok : Ok ps) : ∀ p ∈ ps, (kindsOf p).length ≤ 28 := fun p hp => by
  have o := ok.ok p hp
  have h1 := o.rl
  have h2 := o.gl
  simp [kindsOf]; omega
theorem nodes_kiD {ps : List Piece} (ok : Ok ps) : nodes (kiD (ps.map kindsOf)) < 1000 := by
  have h := ok.len
  have hp : ∀ p ∈ ps, nodes (D.tup ((kindsOf p).map D.int)) ≤ 29 := fun p hp => by
    have := kiN ok p hp
    have := nodesAll_map (enc := D.int) (xs := kindsOf p) (n := 1) fun r _ => by simp [nodes]
    simp only [nodes]
    omega
  have := nodesAll_map hp
  unfold kiD
  rw [List.map_map]
  simp only [nodes]
  simp only [Function.comp_def]
  omega
theorem pl_kiD {ps : List Piece} (ok : Ok ps) : pl 1000 (kiD (ps.map kindsOf)) = true := by
  have h := ok.len
  unfold kiD
  simp only [pl, List.length_map, Bool.and_eq_true, decide_eq_true_eq]
  refine ⟨by omega, plAll_map fun k hk => ?_⟩
  obtain ⟨p, hp, rfl⟩ := List.mem_map.mp hk
  have := kiN ok p hp
  simp only [pl, List.length_map, pl_map_int, Bool.and_true, decide_eq_true_eq]
  omega
theorem clean_kiD (ks : List (List Int)) : clean (kiD ks) = true := by
  unfold kiD
  simp only [clean]
  exact cleanAll_map (fun k => by simp only [clean]; exact cleanAll_map (fun i => by simp [clean]) k) ks
theorem dpt_kiD (ks : List (List Int)) : dpt (kiD ks) ≤ 4 := by
  have e : ∀ k : List Int, dpt (D.tup (k.map D.int)) ≤ 1 := fun k => by
    have := dptAll_map (enc := D.int) (n := 0) (fun a => by simp [dpt]) k
    simp only [dpt]
    omega
  have := dptAll_map e ks
  unfold kiD
  simp only [dpt]
  omega
theorem clean_wsD (ws : List (List Nat)) : clean (wsD ws) = true := by
  unfold wsD
  simp only [clean]
  exact cleanAll_map (fun k => by simp only [clean]; exact cleanAll_map (fun i => by simp [clean]) k) ws
theorem dpt_wsD (ws : List (List Nat)) : dpt (wsD ws) ≤ 4 := by
  have e : ∀ k : List Nat, dpt (D.tup (k.map nD)) ≤ 1 := fun k => by
    have := dptAll_map (enc := nD) (n := 0) (fun a => by simp [dpt]) k
    simp only [dpt]
    omega
  have := dptAll_map e ws
  unfold wsD
  simp only [dpt]
  omega
section
variable {P : Program} {w : World} {K : PySem.W.Frag} {mg : Str → Option Value} {base : Heap}
abbrev nSt : List Str := ["net", "k", "pieces", "count", "told"]
theorem scSt : FnScope nSt ["net", "k", "pieces"] (defScope (top 49)) := ⟨rfl, rfl, rfl, by decide +kernel, rfl, by decide +kernel, by decide +kernel⟩
abbrev stSp (C : Addr) : List D → D → Prop := fsp (fun (g : List Piece × Nat) => [netD C g.1, nD g.2, psD g.1]) (fun g => Ok g.1 ∧ g.2 < g.1.length) fun _ => .bl true
theorem kn_st {C CB : Addr} (D0 : Dn K mg "_law_stays" (top 49)) (B : Bi mg) (TB : BookT K mg CB) (hin : Kn P w K mg base 3 "_law_is_net" (inSp C)) (hsh : Kn P w K mg base 9 "shrunk" (shrunkSp C)) (hsm : Kn P w K mg base 1 "_law_small" smSp) (hl : Kn P w K mg base 4 "loops" (loopsSp C))
    (hw : Kn P w K mg base 1 "_law_whole" whSp) (hnb : Kn P w K mg base 9 "net_book" (nbSp C CB)) (hp : Kn P w K mg base 2 "_law_plain" plSp) (hki : Kn P w K mg base 1 "_law_kinds" kiSp) : Kn P w K mg base 10 "_law_stays" (stSp C) :=
  kn_mk (N := nSt) (ps := ["net", "k", "pieces"]) 9 D0 scSt (fun _ => rfl) (by decide) (fun _ _ _ _ _ _ us hl => match us, hl with | [_, _, _], _ => rfl) fun f cdv A outer s H E hr ⟨ps, k⟩ ⟨ok, hk⟩ => by
    simp only at ok hk
    have o := ok.at hk
    have hu := hr.units
    show Sd _ [.d (netD C ps), .d (nD k), .d (psD ps), .no, .no] _ { nx := fun _ => D.bl true = .non, rt := fun d' => d' = D.bl true }
    refine sd_if (k := false) (evt_not (evt_d (evd_f hin (hr.mono (by decide)) (ps.map small) (eva_cons (evd_f hsh hr ps (eva_cons (vv 0 rfl) eva_nil) ok) (eva_cons (evd_f hsm (hr.mono (by decide)) ps (eva_cons (vv 2 rfl) eva_nil) ok) eva_nil)) ok.small))) (fun h => by cases h) fun _ => sd_nil ?_
    refine sd_set 3 (evd_f hl (hr.mono (by decide)) (ps, k) (eva_cons (vv 0 rfl) (eva_cons (vv 1 rfl) eva_nil)) ⟨ok, hk⟩) scSt.nd ?_
    simp only
    have hat : atI (ps.map pD) (k : Int) = some (pD (ps.getD k default)) := at_mapD default hk
    generalize hq : ps.getD k default = q at o hat
    refine sd_if (k := false || false) (evt_w (evw_or (evt_not (evt_d (evd_f hw (hr.mono (by decide)) ((q.roads.length : Int) - (q.size - 1 : Nat)) (eva_cons (vv 3 rfl) eva_nil) trivial))) fun _ => evw_or1 ((evt_cmp (vv 3 rfl) (EvD.to (d' := .int ((q.roads.length : Int) - (q.size - 1 : Nat))) (evd_op (evd_op (evd_bi (eva_cons (evd_ixT (d := .tup (q.roads.map rD)) (evd_ixT (d := pD q) (vv 2 rfl) (vv 1 rfl) hat) evd_int at_1) eva_nil) c_lenT B.len (by decide +kernel)) (evd_ixT (d := nD q.size) (evd_ixT (d := pD q) (vv 2 rfl) (vv 1 rfl) hat) evd_int at_0) o_sub) evd_int o_add) (by rw [List.length_map]; exact congrArg D.int (lpN_int o))) o_ne).to (by simp)))) (fun h => by cases h) fun _ => sd_nil ?_
    have hpos : 0 < ps.length := by omega
    refine sd_set 4 (d := kiD (ps.map kindsOf)) (evd_fld TB.ob.cl TB.nA (C := CB) (ns := ["kinds"]) (ds := [kiD (ps.map kindsOf)]) (evd_f hnb hr ps (eva_cons (vv 0 rfl) eva_nil) ⟨ok, hpos⟩) (by simp)) scSt.nd ?_
    refine sd_ret (d := .bl (true && true)) (evd_and (evd_f hp (hr.mono (by decide)) (kiD (ps.map kindsOf), 1000) (eva_cons (vv 4 rfl) (eva_cons evd_int eva_nil)) ⟨pl_kiD ok, nodes_kiD ok, by show 1000 ≤ 10000; omega⟩) fun _ => evd_and1 (evd_cmp (vv 4 rfl) (evd_f hki (hr.mono (by decide)) ps (eva_cons (vv 2 rfl) eva_nil) ok) (o_eqD hu (clean_kiD _) (by have := dpt_kiD (ps.map kindsOf); omega)))) rfl
abbrev nWf : List Str := ["after", "k", "piece", "road", "names", "told", "way"]
theorem scWf : FnScope nWf ["after", "k", "piece", "road"] (defScope (top 52)) := ⟨rfl, rfl, rfl, by decide +kernel, rfl, by decide +kernel, by decide +kernel⟩
structure WfG where
  ps : List Piece
  k : Nat
  q : Piece
  road : Nat
abbrev wfSp (C : Addr) : List D → D → Prop := fsp (fun (g : WfG) => [netD C g.ps, nD g.k, pD g.q, nD g.road]) (fun g => Ok g.ps ∧ g.k < g.ps.length ∧ g.ps.getD g.k default = sq g.q g.road ∧ (∃ many, g.q.Ok many) ∧ g.road < g.q.roads.length ∧ (g.q.roads.getD g.road (0, 0)).1 ≠ (g.q.roads.getD g.road (0, 0)).2) fun _ => .bl true
theorem cway_len (size : Nat) (tree : List (Nat × Nat)) (r : Nat × Nat) : (cway size tree r).length ≤ size + 1 := by
  have := follow_len (nextP size tree r.1) r.1 size r.2
  unfold cway
  rw [List.length_cons]; omega
theorem cways_n (p : Piece) : (cways p).length ≤ p.roads.length ∧ ∀ w ∈ cways p, w.length ≤ p.size + 1 := by
  unfold cways
  refine ⟨?_, fun w hw => ?_⟩
  · rw [List.length_map]
    exact Nat.le_trans (List.length_filter_le _ _) (by simp)
  · obtain ⟨r, -, rfl⟩ := List.mem_map.mp hw
    exact cway_len _ _ _
theorem nodes_wsD {ws : List (List Nat)} (h1 : ws.length ≤ 20) (h2 : ∀ w ∈ ws, w.length ≤ 13) : nodes (wsD ws) < 600 ∧ pl 600 (wsD ws) = true := by
  have hp : ∀ p ∈ ws, nodes (D.tup (p.map nD)) ≤ 14 := fun p hp => by
    have := h2 p hp
    have := nodesAll_map (enc := nD) (xs := p) (n := 1) fun r _ => by simp [nodes]
    simp only [nodes]
    omega
  have := nodesAll_map hp
  unfold wsD
  refine ⟨by simp only [nodes]; omega, ?_⟩
  simp only [pl, List.length_map, Bool.and_eq_true, decide_eq_true_eq]
  refine ⟨by omega, plAll_map fun k hk => ?_⟩
  have := h2 k hk
  simp only [pl, List.length_map, plAll_map (enc := nD) (most := 600) (xs := k) (fun i _ => by simp [pl]), Bool.and_true, decide_eq_true_eq]
  omega
theorem closedL_n (p : Piece) : (closedL p).length ≤ p.roads.length ∧ ∀ w ∈ closedL p, w.length ≤ p.size + 1 := by
  unfold closedL
  refine ⟨?_, fun w hw => ?_⟩
  · rw [List.length_map]
    exact Nat.le_trans (List.length_filter_le _ _) (by simp)
  · obtain ⟨r, -, rfl⟩ := List.mem_map.mp hw
    have := wbWay_len (wbRun (treeOf p.roads (gr p.size p.roads)) p.size 0 (List.replicate p.size none, [(p.roads.getD r (0, 0)).1])).1 (p.roads.getD r (0, 0)).1 p.size (p.roads.getD r (0, 0)).2
    rw [List.length_cons, List.length_dropLast]
    unfold wayBack
    omega
theorem kn_wf {C : Addr} (D0 : Dn K mg "_law_ways_follow" (top 52)) (B : Bi mg) (hg : Kn P w K mg base 1 "_law_greedy" grSp) (hn : Kn P w K mg base 1 "_law_names" nmSp) (hcw : Kn P w K mg base 4 "closed_ways" (waysSp C)) (hp : Kn P w K mg base 2 "_law_plain" plSp) (hwa : Kn P w K mg base 1 "_law_way_after" waSp) (hcl : Kn P w K mg base 2 "_law_closed" clSp) : Kn P w K mg base 5 "_law_ways_follow" (wfSp C) :=
  kn_mk (N := nWf) (ps := ["after", "k", "piece", "road"]) 4 D0 scWf (fun _ => rfl) (by decide) (fun _ _ _ _ _ _ us hl => match us, hl with | [_, _, _, _], _ => rfl) fun f cdv A outer s H E hr ⟨ps, k, q, road⟩ ⟨ok, hk, hsq, ⟨many, o⟩, hrl, hne⟩ => by
    simp only at ok hk hsq o hrl hne
    have hu := hr.units
    have hsz := o.sz
    have hl := o.rl
    have hin := o.roads (q.roads.getD road (0, 0)) (by simp [List.getD, hrl])
    show Sd _ [.d (netD C ps), .d (nD k), .d (pD q), .d (nD road), .no, .no, .no] _ { nx := fun _ => D.bl true = .non, rt := fun d' => d' = D.bl true }
    refine sd_if (evt_cmp (vv 3 rfl) (evd_f hg (hr.mono (by decide)) (q.size, q.roads) (eva_cons (evd_ixT (d := nD q.size) (vv 2 rfl) evd_int at_0) (eva_cons (evd_ixT (d := .tup (q.roads.map rD)) (vv 2 rfl) evd_int at_1) eva_nil)) ⟨by show q.size ≤ 1000; omega, by show q.roads.length ≤ 1000; omega, o.roads⟩) o_ninLn) (fun _ => sd_ret evd_bl rfl) fun h => sd_nil ?_
    have hm : road ∈ gr q.size q.roads := by simpa using h
    have hw := ways_ok o hrl hne hm
    refine sd_set 4 (evd_f hn (hr.mono (by decide)) (q.size, q.roads.getD road (0, 0)) (eva_cons (evd_ixT (d := nD q.size) (vv 2 rfl) evd_int at_0) (eva_cons (evd_ixT (evd_ixT (d := .tup (q.roads.map rD)) (vv 2 rfl) evd_int at_1) (vv 3 rfl) (at_mapD (0, 0) hrl)) eva_nil)) ⟨by show q.size ≤ 1000; omega, hin.1, hin.2, hne⟩) scWf.nd ?_
    refine sd_set 5 (d := wsD (cways (sq q road))) (EvD.to (evd_f hcw hr (ps, k) (eva_cons (vv 0 rfl) (eva_cons (vv 1 rfl) eva_nil)) ⟨ok, hk⟩) (by simp only [hsq]; rfl)) scWf.nd ?_
    have hok := ok.at hk
    rw [hsq] at hok
    have c1 := cways_n (sq q road)
    have hn := nodes_wsD (ws := cways (sq q road)) (by have := hok.rl; omega) (fun w hw => by have := c1.2 w hw; have := hok.sz; omega)
    have c2 := closedL_n q
    refine sd_ret (d := .bl (true && true)) (evd_and (evd_f hp (hr.mono (by decide)) (wsD (cways (sq q road)), 600) (eva_cons (vv 5 rfl) (eva_cons evd_int eva_nil)) ⟨hn.2, hn.1, by show 600 ≤ 10000; omega⟩) fun _ => evd_and1 (evd_cmp (vv 5 rfl) (EvD.to (evd_ty (eva_cons (evo_map [("way", 6)] (fun w : List Nat => D.tup (w.map nD)) (closedL q) (fun w => D.tup ((wayAfter w (nms q.size (q.roads.getD road (0, 0)))).map nD)) _ [6] (src_tup (evd_f hcl (hr.mono (by decide)) q (eva_cons (vv 2 rfl) eva_nil) ⟨many, o⟩)) rfl scWf.nd (blkOk_by (N := nWf) (sc := defScope (top 52)) (by decide +kernel)) (by decide) (fun _ _ _ _ _ d hd => tg_name 6 scWf.nd) (fun _ _ _ _ _ w hw => ?_) (by omega)).toD eva_nil) c_tupL B.tuple (by decide +kernel)) ?_) (o_eqD hu (clean_wsD _) (by have := dpt_wsD (cways (sq q road)); omega)))) rfl
    · exact evd_fB hwa (hr.mono (by decide)) (w, nms q.size (q.roads.getD road (0, 0))) (eva_cons (vv 6 rfl) (eva_cons (vv 4 rfl) eva_nil)) ⟨by have := c2.2 w hw; show w.length ≤ 1000; omega, fun x hx => by show x < (nms _ _).length; rw [nms_len]; exact closedL_lt o w hw x hx⟩ rfl rfl (by decide) rfl rfl
    · rw [hw]
      unfold wsD
      rw [List.map_map]
      rfl
end
end K86

set_option linter.all false
set_option maxRecDepth 100000
set_option maxHeartbeats 8000000
/-! k86: IsLoop raised and caught. -/
namespace K86
open PySem L2 ML
structure LoopT (K : PySem.W.Frag) (mg : Str → Option Value) (CL : Addr) : Prop where
  g : mg "IsLoop" = some (.ref CL)
  er : ErrT K CL
  nk : PySem.W.findIn K (.ref CL) "kind" = some none
  nr : PySem.W.findIn K (.ref CL) "road" = some none
  ini : ∃ f fd, Fun K "__init__" "IsLoop.__init__" (inClass (top 7) 0) f fd ∧ PySem.W.findIn K (.ref CL) "__init__" = some (some (.ref f)) ∧ PySem.W.typeIn K (.ref f) = some (.type "function")
  ends : ∃ C, mg "EndsError" = some (.ref C) ∧ PySem.W.kitOne K (.ref CL) (.ref C) = some true
  val : mg "ValueError" = none ∧ PySem.W.kitOne K (.ref CL) (.type "ValueError") = some true
  net : ∃ C, mg "BadNet" = some (.ref C) ∧ PySem.W.kitOne K (.ref CL) (.ref C) = some false
  book : ∃ C, mg "BadBook" = some (.ref C) ∧ PySem.W.kitOne K (.ref CL) (.ref C) = some false
  move : ∃ C, mg "BadMove" = some (.ref C) ∧ PySem.W.kitOne K (.ref CL) (.ref C) = some false
section
variable {P : Program} {w : World} {K : PySem.W.Frag} {mg : Str → Option Value} {base : Heap}
abbrev nLpI : List Str := ["self", "kind", "road"]
theorem scLpI : FnScope nLpI ["self", "kind", "road"] (defScope (inClass (top 7) 0)) := ⟨rfl, rfl, rfl, by decide +kernel, rfl, by decide +kernel, by decide +kernel⟩
theorem ok_lpI {CL f : Addr} {fd : FuncData} (F : Fun K "__init__" "IsLoop.__init__" (inClass (top 7) 0) f fd) (T : LoopT K mg CL) : FnOk P w K mg base CX0 1 f fd ["self", "kind", "road"] (Ini2Sp CL "kind" "road") := by
  refine F.ok scLpI (fun vs H Q E h => ?_) fun cdv A outer s H vs Q E hr h => ⟨tSeq (tOst K "kind" (tVar 0) (tVar 1)) (tOst K "road" (tVar 0) (tVar 2)), ?_, ?_⟩
  · obtain ⟨a, y1, y2, rfl, _⟩ := h
    rfl
  · exact pss_cons (ps_ost (pv 0) (pv 1)) (pss_one (ps_ost (pv 0) (pv 2)))
  · obtain ⟨a, y1, y2, rfl, ha, q⟩ := h
    refine ⟨_, rfl, _, rfl, a, CL, rfl, T.er.ox, T.nk, .inl ⟨ha, fun dx hn hne => ?_⟩⟩
    exact ⟨_, rfl, _, rfl, a, CL, rfl, T.er.ox, T.nr, .inr ⟨dx, _, upd_same, (upd_ne hne).trans upd_same, by show 1 ≤ 900; decide, q dx hn hne⟩⟩
def IsLp (ps : List Piece) (k road : Nat) : Prop := Ok ps ∧ k < ps.length ∧ road < (ps.getD k default).roads.length ∧ ((ps.getD k default).roads.getD road (0, 0)).1 = ((ps.getD k default).roads.getD road (0, 0)).2
/-- contracted, where the road is a loop -/
def conXSp (K : PySem.W.Frag) (C CL : Addr) : Sp := fun vs H _ E => ∃ (G : Hp) (ps : List Piece) (k road : Nat), Same G H ∧ RpAll K G vs [netD C ps, nD k, nD road] ∧ IsLp ps k road ∧
  ∀ G1 H1 dx H', Up G H G1 H1 → H1 dx = none → (∀ b, b ≠ dx → H' b = H1 b) → H' dx = some (.xd [("road", .int (road : Int)), ("kind", .int (k : Int))]) → E (.ref CL) (some dx) H'
theorem ok_conX {C CL f : Addr} {fd : FuncData} (F : Fun K "contracted" "contracted" (top 22) f fd) (B : Bi mg) (N : NetT K mg C) (T : LoopT K mg CL) : FnOk P w K mg base (L2N.CX P w) 3 f fd ["net", "kind", "road"] (conXSp K C CL) := by
  obtain ⟨fI, fdI, FI, iC, tI⟩ := T.ini
  refine okXN F scCon (fun vs H Q E h => ?_) fun cdv A outer s H vs Q E hr h => ⟨_, pSs, ?_⟩
  · obtain ⟨G, ps, k, road, _, r, _⟩ := h
    rw [r.len]; rfl
  · obtain ⟨G, ps, k, road, e, r, ⟨ok, hk, hrd, heq⟩, q⟩ := h
    have hu := hr.units
    have key : Sd (cxOf (L2N.CX P w) P w K mg base nCon "contracted" (defScope (top 22)) f cdv A outer s H E) (startM nCon.length [netD C ps, nD k, nD road]) (defBody (top 22))
      { nx := fun _ => False, rt := fun _ => False, bs := fun G0 H0 => ∀ G1 H1 dx H', Up G0 H0 G1 H1 → H1 dx = none → (∀ b, b ≠ dx → H' b = H1 b) → H' dx = some (.xd [("road", .int (road : Int)), ("kind", .int (k : Int))]) → E (.ref CL) (some dx) H' } := by
      have o := ok.at hk
      generalize hq : ps.getD k default = p at o hrd heq
      have hrr := o.roads (p.roads.getD road (0, 0)) (by simp [List.getD, hrd])
      generalize hr0 : p.roads.getD road (0, 0) = r0 at heq hrr
      obtain ⟨x, y⟩ := r0
      simp only at heq
      subst heq
      have er : atI (p.roads.map rD) (road : Int) = some (.tup [.int (x : Int), .int (x : Int)]) := by rw [at_mapD (0, 0) hrd, hr0]
      show Sd _ [.d (netD C ps), .d (nD k), .d (nD road), .no, .no, .no, .no, .no, .no, .no, .no, .no, .no, .no, .no, .no, .no] _ _
      refine sd_tg (d := pD p) ((evd_piece N (vv 0 rfl) (vv 1 rfl) hk).to (by rw [hq])) (tg_three rfl (tg_name 3 scCon.nd) (tg_name 4 scCon.nd) (tg_name 5 scCon.nd)) ?_
      refine sd_set 6 (evd_bi (eva_cons (evd_ixT (vv 4 rfl) (vv 2 rfl) er) eva_nil) (c_minT rfl hu) B.min (by decide +kernel)) scCon.nd ?_
      refine sd_set 7 (evd_bi (eva_cons (evd_ixT (vv 4 rfl) (vv 2 rfl) er) eva_nil) (c_maxT rfl hu) B.max (by decide +kernel)) scCon.nd ?_
      refine sd_ifB ((evt_cmp (vv 6 rfl) (vv 7 rfl) o_eq).to (decide_eq_true (by omega))) ?_
      refine sd_raise2 (W := fun cls d _ H => E cls d H) (f1 := "kind") (f2 := "road") rfl (L2N.takes_of rfl rfl rfl rfl) T.er.ox iC tI (ok_lpI FI T) (hr.mono (by decide)) (FI.binds fun _ _ _ _ _ _ us hl => match us, hl with | [_, _, _], _ => rfl) T.g (eva_cons (vv 1 rfl) (eva_cons (vv 2 rfl) eva_nil)) ?_
      intro G0 H0 G1 H1 σ dx y1 y2 H' hb u r1 r2 hn hs hx
      cases r1; cases r2
      exact hb G1 H1 dx H' u hn hs hx
    exact key G H G (L2.start nCon vs) H _ (start_im e r (by show 3 ≤ 17; decide)) ⟨fun _ _ _ _ z => z.elim, fun _ _ _ _ z => z.elim, fun _ _ _ _ z => z.elim, fun _ _ _ _ z => z.elim, fun _ _ _ z => z.elim, q⟩
theorem fnH_lw {f : Addr} {fd : FuncData} (F : Fun K "_law_whole" "_law_whole" (top 32) f fd) (B : Bi mg) : L2H.FnH P w K mg base CX0 1 f fd ["value"] (PureSp K whSp) :=
  fnH_pure (N := nWhole) (k := 0) F scLWhole (fun ds d ⟨a, e, _⟩ => by rw [e]; rfl) (by decide) fun cdv A outer s H E p ds d ⟨i, e, _, ed⟩ => by
    subst e ed
    show Sd _ [.d (.int i)] _ _
    refine sd_ret (d := .bl (true && (!false))) (evd_and (evd_isi (vv 0 rfl) ty_int kit_ii B.isi B.int (by decide +kernel)) fun _ => evd_and1 (evd_not (evd_isi (vv 0 rfl) ty_int kit_ib B.isi B.bool (by decide +kernel)))) rfl
def hdl : List Stmt → List Stmt
  | (.Try _ [.ExceptHandler _ _ b _] _ _ _) :: _ => b
  | _ => []
theorem xv_at {X : Cx} {σ : L2.St} {Gs Hs : Hp} {e : Expr} {d : D} (h : XvD X σ Gs Hs e d) (G H : Hp) (u : Up Gs Hs G H) (Q : VK) (q : ∀ v G' H', Up G H G' H' → Rp X.K G' v d → Q v H') : wE X e σ H Q := h G H u Q q
abbrev nRf : List Str := ["net", "k", "road", "e"]
theorem scRf : FnScope nRf ["net", "k", "road"] (defScope (top 48)) := ⟨rfl, rfl, rfl, by decide +kernel, rfl, by decide +kernel, by decide +kernel⟩
abbrev rfSp (C : Addr) : List D → D → Prop := fsp (fun (g : List Piece × Nat × Nat) => [netD C g.1, nD g.2.1, nD g.2.2]) (fun g => IsLp g.1 g.2.1 g.2.2) fun g => .tup [nD g.2.1, nD g.2.2]
def rfSuite (K : PySem.W.Frag) (CL : Addr) (k road : Nat) : Addr → Value → Option Addr → TS := fun a cls d D σ H => cls = .ref CL ∧ ∃ (dd : Addr) (Gs : Hp), d = some dd ∧ σ[3]? = some (some (.ref a)) ∧ Same Gs H ∧ Gs dd = some (.xd [("road", .int (road : Int)), ("kind", .int (k : Int))]) ∧
  ∀ G' H' v, Up Gs H G' H' → Rp K G' v (.tup [nD k, nD road]) → D.rt v H'
theorem kn_rf {C CL : Addr} (D0 : Dn K mg "_law_refusal" (top 48)) (D1 : ∃ f fd, Fun K "contracted" "contracted" (top 22) f fd ∧ mg "contracted" = some (.ref f)) (B : Bi mg) (N : NetT K mg C) (T : LoopT K mg CL) (D2 : Dn K mg "_law_whole" (top 32)) : Kn P w K mg base 4 "_law_refusal" (rfSp C) :=
  kn_mk (N := nRf) (ps := ["net", "k", "road"]) 3 D0 scRf (fun _ => rfl) (by decide) (fun _ _ _ _ _ _ us hl => match us, hl with | [_, _, _], _ => rfl) fun f cdv A outer s0 Hh E hr ⟨ps, k, road⟩ hl => by
    obtain ⟨fc, fdc, Fc, hmc⟩ := D1
    obtain ⟨fw, fdw, Fw, hmw⟩ := D2
    have FW : L2H.FnH P w K mg base CX0 1 fw fdw ["value"] (PureSp K whSp) := fnH_lw Fw B
    have bW : Binds K fdw ["value"] [] := Fw.binds fun _ _ _ _ _ _ us hl => match us, hl with | [_], _ => rfl
    simp only at hl
    show Sd _ [.d (netD C ps), .d (nD k), .d (nD road), .no] _ { nx := fun _ => D.tup [nD k, nD road] = .non, rt := fun d' => d' = D.tup [nD k, nD road] }
    intro G0 H0 G σ H1 En I F
    have FX : FnOk P w K mg base (L2N.CX P w) 3 fc fdc ["net", "kind", "road"] (conXSp K C CL) := ok_conX Fc B N T
    obtain ⟨CE, gE, kE⟩ := T.ends
    obtain ⟨CN, gN, kN⟩ := T.net
    obtain ⟨CB, gB, kB⟩ := T.book
    obtain ⟨CM, gM, kM⟩ := T.move
    refine wSs_of (pss_cons (L2N.ps_try_as (i := 3) (tb := fun W => tDrop (tCallS (conXSp K C CL) (WE W) (tCons (tVar 0) (tCons (tVar 1) (tCons (tVar 2) tNil))))) (ts := rfSuite K CL k road) (Wout := fun _ _ _ _ => False) rfl rfl scRf.nd rfl rfl ⟨rfl, by decide, .inl T.g⟩ (fun _ _ x => by obtain ⟨_, _, _, _, _, _, _, _, _, _, _, _, _, _, _, _, z⟩ := x; exact z.elim)
      (fun W pn xe tk _ => pss_one (ps_expr (pe_callS FX hr rfl hmc Fc.kp (Fc.binds fun _ _ _ _ _ _ us hl => match us, hl with | [_, _, _], _ => rfl) (fun σ => L2N.passAt tk σ) (by exact (pa_cons (pv 0) (pa_cons (pv 1) (pa_cons (pv 2) pa_nil)))))))
      (fun a oe cls d pn hz hf => ?_)) pSs) ?_
    · refine ⟨fun pins s σ H D I' h => ?_⟩
      obtain ⟨rfl, dd, Gs, rfl, hσ, sm, hdd, q⟩ := h
      have hr1 : L2H.RoomH 1 ((CXf P w K mg base nRf "_law_refusal" (top 48) f cdv A outer s0 Hh E).suite a ((a, oe) :: pn)).A := ⟨(L2H.roomH_of (hr.mono (show 1 ≤ 3 by decide))).dp, (L2H.roomH_of (hr.mono (show 1 ≤ 3 by decide))).un⟩
      have hot : L2H.HotC ((CXf P w K mg base nRf "_law_refusal" (top 48) f cdv A outer s0 Hh E).suite a ((a, oe) :: pn)) := ⟨(a, oe), ⟨rfl, hf.choose, hf.choose_spec, hz.2.2 _ hf.choose_spec⟩, List.mem_cons_self⟩
      have lk : List.lookup ("kind" : Str) ([("road", V.int (road : Int)), ("kind", V.int (k : Int))] : List (Str × V)) = some (V.int (k : Int)) := rfl
      have lr : List.lookup ("road" : Str) ([("road", V.int (road : Int)), ("kind", V.int (k : Int))] : List (Str × V)) = some (V.int (road : Int)) := rfl
      have z : wSs ((CXf P w K mg base nRf "_law_refusal" (top 48) f cdv A outer s0 Hh E).suite a ((a, oe) :: pn)) (hdl (defBody (top 48))) D σ H := wSs_of (pss_cons (ps_if pT pSs pSs) (pss_cons (ps_if pT pSs pSs) (pss_one (ps_ret pE))))
        (xv_w (xv_or (xv_not (k := true) (xv_t (xv_isC (T := T.er) hz.zc hf hdd (xv_var 3 hσ) kE B.isi gE))) (xv_or (xv_not (k := true) (xv_t (xv_isT (T := T.er) hz.zc hf hdd (xv_var 3 hσ) T.val.2 B.isi T.val.1 (by decide +kernel)))) (xv_or1 (k := false) (xv_t (xv_isC (T := T.er) hz.zc hf hdd (xv_var 3 hσ) kN B.isi gN))))) Gs H (.refl sm) _ fun G1 H1 u1 => by
          show (if false = true then _ else _)
          rw [if_neg Bool.false_ne_true]
          refine wSs_of pss_nil ?_
          exact xv_w (xv_or (xv_t (xv_isC (T := T.er) hz.zc hf hdd (xv_var 3 hσ) kB B.isi gB)) (xv_or (xv_t (xv_isC (T := T.er) hz.zc hf hdd (xv_var 3 hσ) kM B.isi gM)) (xv_or (xv_not (k := true) (xv_t (xv_fnH FW hr1 hot hmw Fw.kp bW (xv_fld (T := T.er) T.nk hz.zc hf hdd lk (xv_var 3 hσ)) ⟨(k : Int), rfl, trivial, rfl⟩))) (xv_or1 (k := false) (xv_not (k := true) (xv_t (xv_fnH FW hr1 hot hmw Fw.kp bW (xv_fld (T := T.er) T.nr hz.zc hf hdd lr (xv_var 3 hσ)) ⟨(road : Int), rfl, trivial, rfl⟩))))))) G1 H1 u1 _ fun G2 H2 u2 => by
            show (if false = true then _ else _)
            rw [if_neg Bool.false_ne_true]
            refine wSs_of pss_nil ?_
            exact xv_at (xv_pair (xv_fld (T := T.er) T.nk hz.zc hf hdd lk (xv_var 3 hσ)) (xv_fld (T := T.er) T.nr hz.zc hf hdd lr (xv_var 3 hσ))) G2 H2 (u1.trans u2) _ fun v G3 H3 u3 r => q G3 H3 v ((u1.trans u2).trans u3) r)
      exact z pins s I'
    · obtain ⟨v0, e0, r0⟩ := I.sd 0 _ rfl
      obtain ⟨v1, e1, r1⟩ := I.sd 1 _ rfl
      obtain ⟨v2, e2, r2⟩ := I.sd 2 _ rfl
      refine ⟨v0, e0, v1, e1, v2, e2, G, ps, k, road, I.gh, .cons r0 (.cons r1 (.cons r2 .nil)), hl, fun G1 H2 dx H' u hn hs hx => ?_⟩
      have hg1 : G1 dx = none := Up.gn u.i hn
      have ne : ∀ {b : Addr} {o : HO}, H2 b = some o → b ≠ dx := fun {b o} z w => by rw [w, hn] at z; cases z
      have ne1 : ∀ {b : Addr} {o : HO}, G1 b = some o → b ≠ dx := fun {b o} z => ne (u.i _ _ z)
      have sm : Same (upd G1 dx (.xd [("road", .int (road : Int)), ("kind", .int (k : Int))])) H' := fun b o z => by
        by_cases hb : b = dx
        · subst hb; rw [upd_same] at z; rw [hx]; exact z
        · rw [upd_ne hb] at z; rw [hs b hb]; exact u.i _ _ z
      have u3 : Up G1 H2 (upd G1 dx (.xd [("road", .int (road : Int)), ("kind", .int (k : Int))])) H' := ⟨Same.new hg1, fun b o z => by rw [hs b (ne z)]; exact z, sm, fun b o z n => by rw [upd_ne (ne z)]; exact n⟩
      refine ⟨true, T.er.te, fun _ a ha => ⟨rfl, dx, _, rfl, ?_, sm, upd_same, fun G' H'' v u' r => ?_⟩, fun q => Bool.noConfusion q⟩
      · have hlen : σ.length = 4 := I.len
        simp [hlen]
      · exact F.rt _ v G' H'' rfl (((I.up.trans u).trans u3).trans u') r
end
end K86

set_option linter.all false
set_option maxRecDepth 100000
set_option maxHeartbeats 16000000
/-! k86: a row of points. -/
namespace K86
open PySem L2 ML
theorem getD_mem {l : List Nat} {i : Nat} (h : i < l.length) : l.getD i 0 ∈ l := by
  have : l.getD i 0 = l[i] := by simp [List.getD, h]
  rw [this]
  exact List.getElem_mem h
/-- a[:k] + (c,) + a[k + 1:] -/
theorem evd_put {X : Cx} {M : List Slot} {a b c a' b' : Expr} {n m1 : Nat} {p1 p2 p3 p4 p5 p6 p7 p8 p9 : Pos} {ps : List Piece} {k : Nat} {q : Piece} (h1 : EvD X M a (psD ps)) (hk : EvD X M b (nD k)) (hq : EvD X M c (pD q)) (h1' : EvD X M a' (psD ps)) (hk' : EvD X M b' (nD k)) (hl : k < ps.length) (hlen : ps.length ≤ 20)
    (hs : starEach [c] X.env = (false, eval c X.env) :: starEach [] X.env := by rfl) :
    EvD X M (.BinOp (.BinOp (.Subscript a (.Slice none (some b) none p1) p2) .Add (.Tuple [c] n p3) p4) .Add (.Subscript a' (.Slice (some (.BinOp b' .Add (.Constant (.int 1) m1 p5) p6)) none none p7) p8) p9) (psD (putP ps k q)) := by
  refine EvD.to (evd_op (evd_op (evd_slT h1 evp_none (evp_some hk)) (evd_tup (eva_cons hq eva_nil hs) (by show 1 ≤ 100000; decide)) (o_addT ?_)) (evd_slT h1' (evp_some (EvD.to (evd_op hk' evd_int o_add) (congrArg D.int (show ((k : Int) + 1) = ((k + 1 : Nat) : Int) by omega)))) evp_none) (o_addT ?_)) ?_
  · rw [cut_take (by rw [List.length_map]; omega)]
    simp
    omega
  · rw [cut_take (by rw [List.length_map]; omega), cut_drop (by rw [List.length_map]; omega)]
    simp
    omega
  · rw [cut_take (by rw [List.length_map]; omega), cut_drop (by rw [List.length_map]; omega)]
    unfold psD putP
    simp [List.map_take, List.map_drop]
section
variable {P : Program} {w : World} {K : PySem.W.Frag} {mg : Str → Option Value} {base : Heap}
abbrev nRo : List Str := ["net", "k", "pieces", "row", "here", "mine", "turn", "roads", "rounds", "i", "road", "value", "others", "after", "squeezed"]
theorem scRo : FnScope nRo ["net", "k", "pieces", "row"] (defScope (top 53)) := ⟨rfl, rfl, rfl, by decide +kernel, rfl, by decide +kernel, by decide +kernel⟩
structure RoG where
  ps : List Piece
  k : Nat
  row : List Nat
def RoG.fin (g : RoG) : List Piece := putP g.ps g.k (small (g.ps.getD g.k default))
abbrev roSp (C : Addr) : List D → D → Prop := fsp (fun (g : RoG) => [netD C g.ps, nD g.k, psD g.ps, .lst (g.row.map nD)]) (fun g => Ok g.ps ∧ g.k < g.ps.length ∧ g.row.length = 24) fun g => .tup [netD C g.fin, psD g.fin]
structure RoK (P : Program) (w : World) (K : PySem.W.Frag) (mg : Str → Option Value) (base : Heap) (C : Addr) : Prop where
  rf : Kn P w K mg base 4 "_law_refusal" (rfSp C)
  inn : Kn P w K mg base 3 "_law_is_net" (inSp C)
  con : Kn P w K mg base 9 "contracted" (conSp C)
  sq : Kn P w K mg base 2 "_law_squeezed" sqSp
  st : Kn P w K mg base 10 "_law_stays" (stSp C)
  wf : Kn P w K mg base 5 "_law_ways_follow" (wfSp C)
theorem kn_ro {C : Addr} (D0 : Dn K mg "_law_row_of_points" (top 53)) (B : Bi mg) (R : RoK P w K mg base C) : Kn P w K mg base 11 "_law_row_of_points" (roSp C) :=
  kn_mk (N := nRo) (ps := ["net", "k", "pieces", "row"]) 10 D0 scRo (fun _ => rfl) (by decide) (fun _ _ _ _ _ _ us hl => match us, hl with | [_, _, _, _], _ => rfl) fun f cdv A outer s H E hr ⟨ps, k, row⟩ ⟨ok, hk, hrow⟩ => by
    simp only at ok hk hrow
    have hu := hr.units
    have hps := ok.len
    have op := ok.at hk
    have hfin : RoG.fin ⟨ps, k, row⟩ = putP ps k (small (ps.getD k default)) := rfl
    show Sd _ [.d (netD C ps), .d (nD k), .d (psD ps), .d (.lst (row.map nD)), .no, .no, .no, .no, .no, .no, .no, .no, .no, .no, .no] _ { nx := fun _ => D.tup [netD C (RoG.fin ⟨ps, k, row⟩), psD (RoG.fin ⟨ps, k, row⟩)] = .non, rt := fun d' => d' = D.tup [netD C (RoG.fin ⟨ps, k, row⟩), psD (RoG.fin ⟨ps, k, row⟩)] }
    rw [hfin]
    generalize hp : ps.getD k default = p at op
    generalize hfp : putP ps k (small p) = fin
    refine sd_set 4 (vv 0 rfl) scRo.nd ?_
    refine sd_set 5 (vv 2 rfl) scRo.nd ?_
    refine sd_for (α := Nat) (S := Piece) (enc := fun i => D.int (i : Int)) (xs := List.range 12) (fun pre q => q.Ok ps.length ∧ small q = small p ∧ q.size + pre.length = p.size)
      (fun q => [.d (netD C ps), .d (nD k), .d (psD ps), .d (.lst (row.map nD)), .d (netD C (putP ps k q)), .d (psD (putP ps k q)), .no, .no, .no, .no, .no, .no, .no, .no, .no])
      (fun q i => [.d (netD C ps), .d (nD k), .d (psD ps), .d (.lst (row.map nD)), .d (netD C (putP ps k q)), .d (psD (putP ps k q)), .d (nD i), .no, .no, .no, .no, .no, .no, .no, .no]) (js := fun _ _ => [6])
      (fun M' => Le M' [.no, .no, .no, .no, .d (netD C fin), .d (psD fin), .no, .no, .no, .no, .no, .no, .no, .no, .no])
      (src_rng1 (n := 12) evd_int (by decide) (by decide) B.range) rfl p ⟨op, rfl, rfl⟩ ?_ (fun pre x post q e _ => tg_name 6 scRo.nd) ?_ ?_ ?_
    · rw [← hp, putP_self hk]
      exact Le.refl _
    · rintro pre turn post q e ⟨oq, hsm, hsize⟩
      obtain ⟨rfl, hlt⟩ := range_at e
      have okq := ok.put hk oq
      have hkq : k < (putP ps k q).length := by rw [putP_length hk]; exact hk
      have hql : (putP ps k q).length ≤ 20 := okq.len
      have hget : (putP ps k q).getD k default = q := putP_get hk
      have hat : atI ((putP ps k q).map pD) (k : Int) = some (pD q) := by rw [at_mapD default hkq, hget]
      have hrl := oq.rl
      generalize hqs : putP ps k q = qs at okq hkq hql hget hat
      generalize hturn : pre.length = t at hlt hsize
      show Sd _ [.d (netD C ps), .d (nD k), .d (psD ps), .d (.lst (row.map nD)), .d (netD C qs), .d (psD qs), .d (nD t), .no, .no, .no, .no, .no, .no, .no, .no] _ _
      refine sd_set 7 (d := .tup (q.roads.map rD)) (evd_ixT (d := .tup (q.roads.map rD)) (evd_ixT (d := pD q) (vv 5 rfl) (vv 1 rfl) hat) evd_int at_1) scRo.nd ?_
      refine sd_setLc 8 (enc := fun (i : Nat) => D.int (i : Int)) (items := List.range q.roads.length) (f := nD) (pr := fun i => decide ((q.roads.getD i (0, 0)).1 = (q.roads.getD i (0, 0)).2)) (js := [9]) [("i", 9)]
        (srcTo (src_rng1 (n := (q.roads.length : Int)) (EvD.to (evd_bi (eva_cons (vv 7 rfl) eva_nil) c_lenT B.len (by decide +kernel)) (by rw [List.length_map])) (by omega) (by omega) B.range) (by rw [Int.toNat_natCast])) rfl scRo.nd (blkOk_by (N := nRo) (sc := defScope (top 53)) (by decide +kernel)) (by decide)
        (fun _ _ _ _ _ d hd => tg_name 9 scRo.nd) (fun _ _ _ _ _ d hd => evts_one (EvT.to (evt_cmp (evd_ixT (d := nD (q.roads.getD d (0, 0)).1) (evd_ixT (d := rD (q.roads.getD d (0, 0))) (vv 7 rfl) (vv 9 rfl) (at_mapD (0, 0) (by simpa using hd))) evd_int at2_0) (evd_ixT (d := nD (q.roads.getD d (0, 0)).2) (evd_ixT (d := rD (q.roads.getD d (0, 0))) (vv 7 rfl) (vv 9 rfl) (at_mapD (0, 0) (by simpa using hd))) evd_int at2_1) o_eq) (decide_eq_decide.mpr (by omega)))) (fun _ _ _ _ _ d hd _ => vv 9 rfl) (by simp; omega) ?_
      have hrd : ((List.range q.roads.length).filter fun i => decide ((q.roads.getD i (0, 0)).1 = (q.roads.getD i (0, 0)).2)) = rds q := rfl
      rw [hrd]
      have hrdl : (rds q).length ≤ 20 := by
        have := List.length_filter_le (fun i => decide ((q.roads.getD i (0, 0)).1 = (q.roads.getD i (0, 0)).2)) (List.range q.roads.length)
        rw [hrd, List.length_range] at this
        omega
      have hothl : (oths q).length ≤ 20 := by
        have := List.length_filter_le (fun i => !decide ((q.roads.getD i (0, 0)).1 = (q.roads.getD i (0, 0)).2)) (List.range q.roads.length)
        rw [show ((List.range q.roads.length).filter fun i => !decide ((q.roads.getD i (0, 0)).1 = (q.roads.getD i (0, 0)).2)) = oths q from rfl, List.length_range] at this
        omega
      show Sd _ [.d (netD C ps), .d (nD k), .d (psD ps), .d (.lst (row.map nD)), .d (netD C qs), .d (psD qs), .d (nD t), .d (.tup (q.roads.map rD)), .d (.lst ((rds q).map nD)), .no, .no, .no, .no, .no, .no] _ _
      refine sd_ifJ [.d (netD C ps), .d (nD k), .d (psD ps), .d (.lst (row.map nD)), .d (netD C qs), .d (psD qs), .d (nD t), .d (.tup (q.roads.map rD)), .no, .no, .no, .no, .no, .no, .no] (evt_cmp (evd_bi (eva_cons (vv 8 rfl) eva_nil) c_lenL B.len (by decide +kernel)) evd_int o_gt) (fun h => ?_) (fun h => ?_) ?_
      · rw [List.length_map] at h
        have hpos : 0 < (rds q).length := by have := of_decide_eq_true h; omega
        have hm := Nat.mod_lt (row.getD (12 + t) 0) hpos
        have hr0 := mem_rds (show (rds q).getD (row.getD (12 + t) 0 % (rds q).length) 0 ∈ rds q from getD_mem hm)
        generalize hroad : (rds q).getD (row.getD (12 + t) 0 % (rds q).length) 0 = road at hr0
        refine sd_set 10 (d := nD road) (EvD.to (evd_ixL (vv 8 rfl) (EvD.to (d' := nD (row.getD (12 + t) 0 % (rds q).length)) (evd_op (evd_int1 (evd_row (12 + t) (vv 3 rfl) (evd_op evd_int (vv 6 rfl) o_add) (by omega) (by omega)) B.int) (evd_bi (eva_cons (vv 8 rfl) eva_nil) c_lenL B.len (by decide +kernel)) (o_mod (by rw [List.length_map]; omega))) (by rw [List.length_map, nmod])) (at_mapD 0 hm)) (by rw [hroad])) scRo.nd ?_
        refine sd_set 11 (evd_f R.rf (hr.mono (by decide)) (qs, k, road) (eva_cons (vv 4 rfl) (eva_cons (vv 1 rfl) (eva_cons (vv 10 rfl) eva_nil))) ⟨okq, hkq, by rw [hget]; exact hr0.1, by rw [hget]; exact hr0.2⟩) scRo.nd ?_
        refine sd_if (k := false || false) (evt_w (evw_or (evt_cmp (vv 11 rfl) evd_non o_isN) (fun _ => evw_or1 (evt_cmp (vv 11 rfl) (evd_tup (eva_cons (vv 1 rfl) (eva_cons (vv 10 rfl) eva_nil))) (o_neD hu rfl (by simp [dpt, dptAll])))))) (fun h => by cases h) fun _ => sd_nil (sd_nil ?_)
        exact .eq rfl (.eq rfl (.eq rfl (.eq rfl (.eq rfl (.eq rfl (.eq rfl (.eq rfl (.no (.no (.no (.no (.no (.no (.no .nil))))))))))))))
      · exact sd_nil (.eq rfl (.eq rfl (.eq rfl (.eq rfl (.eq rfl (.eq rfl (.eq rfl (.eq rfl (.no (.no (.no (.no (.no (.no (.no .nil)))))))))))))))
      refine sd_setLc 12 (enc := fun (i : Nat) => D.int (i : Int)) (items := List.range q.roads.length) (f := nD) (pr := fun i => !decide ((q.roads.getD i (0, 0)).1 = (q.roads.getD i (0, 0)).2)) (js := [9]) [("i", 9)]
        (srcTo (src_rng1 (n := (q.roads.length : Int)) (EvD.to (evd_bi (eva_cons (vv 7 rfl) eva_nil) c_lenT B.len (by decide +kernel)) (by rw [List.length_map])) (by omega) (by omega) B.range) (by rw [Int.toNat_natCast])) rfl scRo.nd (blkOk_by (N := nRo) (sc := defScope (top 53)) (by decide +kernel)) (by decide)
        (fun _ _ _ _ _ d hd => tg_name 9 scRo.nd) (fun _ _ _ _ _ d hd => evts_one (EvT.to (evt_cmp (evd_ixT (d := nD (q.roads.getD d (0, 0)).1) (evd_ixT (d := rD (q.roads.getD d (0, 0))) (vv 7 rfl) (vv 9 rfl) (at_mapD (0, 0) (by simpa using hd))) evd_int at2_0) (evd_ixT (d := nD (q.roads.getD d (0, 0)).2) (evd_ixT (d := rD (q.roads.getD d (0, 0))) (vv 7 rfl) (vv 9 rfl) (at_mapD (0, 0) (by simpa using hd))) evd_int at2_1) o_ne) (congrArg not (decide_eq_decide.mpr (by omega))))) (fun _ _ _ _ _ d hd _ => vv 9 rfl) (by simp; omega) ?_
      rw [show ((List.range q.roads.length).filter fun i => !decide ((q.roads.getD i (0, 0)).1 = (q.roads.getD i (0, 0)).2)) = oths q from rfl]
      show Sd _ [.d (netD C ps), .d (nD k), .d (psD ps), .d (.lst (row.map nD)), .d (netD C qs), .d (psD qs), .d (nD t), .d (.tup (q.roads.map rD)), .no, .no, .no, .no, .d (.lst ((oths q).map nD)), .no, .no] _ _
      refine sd_if (evt_cmp (evd_bi (eva_cons (vv 12 rfl) eva_nil) c_lenL B.len (by decide +kernel)) evd_int o_eq) (fun h => ?_) (fun h => sd_nil ?_)
      · rw [List.length_map] at h
        have hz : oths q = [] := List.eq_nil_of_length_eq_zero (by have := of_decide_eq_true h; omega)
        refine sd_break ?_
        have e1 : qs = fin := by rw [← hqs, ← hfp, ← hsm, oths_nil oq hz]
        rw [e1]
        exact .no (.no (.no (.no (.eq rfl (.eq rfl (.no (.no (.no (.no (.no (.no (.no (.no (.no .nil))))))))))))))
      rw [List.length_map] at h
      have hpos : 0 < (oths q).length := by have := of_decide_eq_false h; omega
      have pick : ∀ n : Nat, ∃ road, (oths q).getD (n % (oths q).length) 0 = road ∧ road < q.roads.length ∧ (q.roads.getD road (0, 0)).1 ≠ (q.roads.getD road (0, 0)).2 := fun n => by
        have hm := Nat.mod_lt n hpos
        exact ⟨_, rfl, mem_oths (getD_mem hm)⟩
      have hm1 := Nat.mod_lt (row.getD t 0 + 1) hpos
      have hm2 := Nat.mod_lt (row.getD t 0) hpos
      obtain ⟨r1, e1, l1, n1⟩ := pick (row.getD t 0 + 1)
      obtain ⟨r2, e2, l2, n2⟩ := pick (row.getD t 0)
      have o1 := sq_ok oq l1 n1
      have o2 := sq_ok oq l2 n2
      have ev1 : putP qs k (sq q r1) = putP ps k (sq q r1) := by rw [← hqs, putP_put hk]
      have ev2 : putP qs k (sq q r2) = putP ps k (sq q r2) := by rw [← hqs, putP_put hk]
      refine sd_set 10 (d := nD r1) (EvD.to (evd_ixL (vv 12 rfl) (EvD.to (d' := nD ((row.getD t 0 + 1) % (oths q).length)) (evd_op (evd_int1 (evd_op (evd_row t (vv 3 rfl) (vv 6 rfl) rfl (by omega)) evd_int o_add) B.int) (evd_bi (eva_cons (vv 12 rfl) eva_nil) c_lenL B.len (by decide +kernel)) (o_mod (by rw [List.length_map]; omega))) (by rw [List.length_map, show ((row.getD t 0 : Nat) : Int) + 1 = ((row.getD t 0 + 1 : Nat) : Int) from by omega, nmod])) (at_mapD 0 hm1)) (by rw [e1])) scRo.nd ?_
      have hcon : ∀ {M : List Slot} {e1 e2 e3 : Expr} {p1 p2 : Pos} {r : Nat}, r < q.roads.length → (q.roads.getD r (0, 0)).1 ≠ (q.roads.getD r (0, 0)).2 → EvA (CXf P w K mg base nRo "_law_row_of_points" (top 53) f cdv A outer s H E) M [e1, e2, e3] [netD C qs, nD k, nD r] →
          (starEach [e1, e2, e3] (CXf P w K mg base nRo "_law_row_of_points" (top 53) f cdv A outer s H E).env = (false, eval e1 (CXf P w K mg base nRo "_law_row_of_points" (top 53) f cdv A outer s H E).env) :: starEach [e2, e3] (CXf P w K mg base nRo "_law_row_of_points" (top 53) f cdv A outer s H E).env) →
          ((backTo p2 (starEach [e2, e3] (CXf P w K mg base nRo "_law_row_of_points" (top 53) f cdv A outer s H E).env)).any (·.1) = false) →
          EvD (CXf P w K mg base nRo "_law_row_of_points" (top 53) f cdv A outer s H E) M (.Call (.Name "contracted" p1) [e1, e2, e3] [] p2) (netD C (putP ps k (sq q r))) := fun hl hn ha h1 h2 => EvD.to (evd_f R.con (hr.mono (by decide)) (qs, k, _) ha ⟨okq, hkq, by rw [hget]; exact hl, by rw [hget]; exact hn⟩ rfl (by decide) h1 h2) (by simp only [hget]; rw [← hqs, putP_put hk])
      have hsqf : ∀ {r : Nat}, r < q.roads.length → (q.roads.getD r (0, 0)).1 ≠ (q.roads.getD r (0, 0)).2 → (∃ many, q.Ok many) ∧ r < q.roads.length ∧ (q.roads.getD r (0, 0)).1 ≠ (q.roads.getD r (0, 0)).2 := fun a b => ⟨⟨_, oq⟩, a, b⟩
      refine sd_if (k := false) (evt_not (evt_d (evd_f R.inn (hr.mono (by decide)) (putP ps k (sq q r1)) (eva_cons (hcon l1 n1 (eva_cons (vv 4 rfl) (eva_cons (vv 1 rfl) (eva_cons (vv 10 rfl) eva_nil))) rfl rfl) (eva_cons (EvD.to (evd_put (vv 5 rfl) (vv 1 rfl) (evd_f R.sq (hr.mono (by decide)) (q, r1) (eva_cons (evd_ixT (d := pD q) (vv 5 rfl) (vv 1 rfl) hat) (eva_cons (vv 10 rfl) eva_nil)) (hsqf l1 n1)) (vv 5 rfl) (vv 1 rfl) hkq hql) (by rw [ev1])) eva_nil)) (ok.put hk o1)))) (fun h => by cases h) fun _ => sd_nil ?_
      refine sd_set 10 (d := nD r2) (EvD.to (evd_ixL (vv 12 rfl) (EvD.to (d' := nD (row.getD t 0 % (oths q).length)) (evd_op (evd_int1 (evd_row t (vv 3 rfl) (vv 6 rfl) rfl (by omega)) B.int) (evd_bi (eva_cons (vv 12 rfl) eva_nil) c_lenL B.len (by decide +kernel)) (o_mod (by rw [List.length_map]; omega))) (by rw [List.length_map, nmod])) (at_mapD 0 hm2)) (by rw [e2])) scRo.nd ?_
      refine sd_set 13 (hcon l2 n2 (eva_cons (vv 4 rfl) (eva_cons (vv 1 rfl) (eva_cons (vv 10 rfl) eva_nil))) rfl rfl) scRo.nd ?_
      refine sd_set 14 (EvD.to (evd_put (vv 5 rfl) (vv 1 rfl) (evd_f R.sq (hr.mono (by decide)) (q, r2) (eva_cons (evd_ixT (d := pD q) (vv 5 rfl) (vv 1 rfl) hat) (eva_cons (vv 10 rfl) eva_nil)) (hsqf l2 n2)) (vv 5 rfl) (vv 1 rfl) hkq hql) (by rw [ev2])) scRo.nd ?_
      have ok2 := ok.put hk o2
      have hk2 : k < (putP ps k (sq q r2)).length := by rw [putP_length hk]; exact hk
      refine sd_if (k := false || (false || false)) (evt_w (evw_or (evt_not (evt_d (evd_f R.inn (hr.mono (by decide)) (putP ps k (sq q r2)) (eva_cons (vv 13 rfl) (eva_cons (vv 14 rfl) eva_nil)) ok2))) fun _ => evw_or (evt_not (evt_d (evd_f R.inn (hr.mono (by decide)) qs (eva_cons (vv 4 rfl) (eva_cons (vv 5 rfl) eva_nil)) okq))) fun _ => evw_or1 (evt_not (evt_d (evd_f R.st hr (putP ps k (sq q r2), k) (eva_cons (vv 13 rfl) (eva_cons (vv 1 rfl) (eva_cons (vv 14 rfl) eva_nil))) ⟨ok2, hk2⟩))))) (fun h => by cases h) fun _ => sd_nil ?_
      refine sd_if (k := false) (evt_not (evt_d (evd_f R.wf (hr.mono (by decide)) (⟨putP ps k (sq q r2), k, q, r2⟩ : WfG) (eva_cons (vv 13 rfl) (eva_cons (vv 1 rfl) (eva_cons (evd_ixT (d := pD q) (vv 5 rfl) (vv 1 rfl) hat) (eva_cons (vv 10 rfl) eva_nil)))) ⟨ok2, hk2, putP_get hk, ⟨_, oq⟩, l2, n2⟩))) (fun h => by cases h) fun _ => sd_nil ?_
      refine sd_set 4 (vv 13 rfl) scRo.nd ?_
      refine sd_set 5 (vv 14 rfl) scRo.nd ?_
      refine sd_nil ⟨sq q r2, ⟨o2, by rw [small_sq oq l2 n2]; exact hsm, ?_⟩, ?_⟩
      · have hb := oq.roads (q.roads.getD r2 (0, 0)) (by simp [List.getD, l2])
        rw [List.length_append]
        show q.size - 1 + (pre.length + 1) = p.size
        rw [hturn]
        omega
      · exact .eq rfl (.eq rfl (.eq rfl (.eq rfl (.eq rfl (.eq rfl (.no (.no (.no (.no (.no (.no (.no (.no (.no .nil))))))))))))))
    · rintro q ⟨oq, -, hsize⟩
      rw [List.length_range] at hsize
      have := oq.pos
      have := op.sz
      omega
    · intro M' h
      exact sd_le h (sd_ret (evd_tup (eva_cons (vv 4 rfl) (eva_cons (vv 5 rfl) eva_nil))) rfl)
end
end K86

set_option linter.all false
set_option maxRecDepth 100000
set_option maxHeartbeats 16000000
/-! k86: the law. -/
namespace K86
open PySem L2 ML
section
variable {P : Program} {w : World} {K : PySem.W.Frag} {mg : Str → Option Value} {base : Heap}
abbrev nLaw : List Str := ["script", "first", "many", "drawn", "nets", "side", "net", "pieces", "i", "k", "row", "told", "roads", "ways", "road", "due"]
theorem scLaw : FnScope nLaw ["script"] (defScope (top 54)) := ⟨rfl, rfl, rfl, by decide +kernel, rfl, by decide +kernel, by decide +kernel⟩
abbrev lawSp : List D → D → Prop := fsp (fun (ns : List Int) => [.scr ns]) (fun ns => ns.length ≤ 63) fun _ => .bl true
structure LawK (P : Program) (w : World) (K : PySem.W.Frag) (mg : Str → Option Value) (base : Heap) (C : Addr) : Prop where
  net : NetK P w K mg base C
  cell : Kn P w K mg base 1 "_law_cell" cellSp
  dig : Kn P w K mg base 1 "_law_digits" digSp
  pcs : Kn P w K mg base 3 "_law_pieces" pcsSp
  li : Kn P w K mg base 1 "_law_listed" liSp
  inn : Kn P w K mg base 3 "_law_is_net" (inSp C)
  con : Kn P w K mg base 9 "contracted" (conSp C)
  sq : Kn P w K mg base 2 "_law_squeezed" sqSp
  sm : Kn P w K mg base 1 "_law_small" smSp
  st : Kn P w K mg base 10 "_law_stays" (stSp C)
  ro : Kn P w K mg base 11 "_law_row_of_points" (roSp C)
def pz (p1 p2 : List Piece) (side : Nat) : List Piece := if side = 0 then p1 else p2
theorem at_side {p1 p2 : List Piece} {enc : List Piece → D} {side : Nat} (h : side < 2) : atI [enc p1, enc p2] (side : Int) = some (enc (pz p1 p2 side)) := by
  match side, h with
  | 0, _ => rfl
  | 1, _ => rfl
theorem szF : SzOk [8, 20, 2, 20, 20] := ⟨by decide, by decide⟩
theorem szR : SzOk (List.replicate 24 27720) := ⟨by decide, by decide⟩
theorem firstOk (c : Int) : (digs c [8, 20, 2, 20, 20]).length = 5 ∧ (digs c [8, 20, 2, 20, 20]).getD 1 0 < 20 ∧ (digs c [8, 20, 2, 20, 20]).getD 2 0 < 2 := by
  have hp : ∀ s ∈ ([8, 20, 2, 20, 20] : List Nat), 0 < s := by decide
  exact ⟨digs_len c _, digs_lt c hp (i := 1) (by decide), digs_lt c hp (i := 2) (by decide)⟩
theorem lawMany_le {f : List Nat} (h : f.getD 1 0 < 20) : 0 < lawMany f ∧ lawMany f ≤ 20 := by
  unfold lawMany
  split <;> omega
theorem sd_law {C : Addr} {f : Addr} {cdv : Value} {A : Around} {outer : List Env} {s : Shared} {H : Hp} {E : XK} (B : Bi mg) (L : LawK P w K mg base C) (hr : Room 11 (CXf P w K mg base nLaw "law" (top 54) f cdv A outer s H E).A) {ns : List Int} (hns : ns.length ≤ 63) :
    Sd (CXf P w K mg base nLaw "law" (top 54) f cdv A outer s H E) (startM nLaw.length [.scr ns]) (defBody (top 54)) { nx := fun _ => D.bl true = .non, rt := fun d' => d' = D.bl true } := by
    have hu := hr.units
    show Sd _ [.d (.scr ns), .no, .no, .no, .no, .no, .no, .no, .no, .no, .no, .no, .no, .no, .no, .no] _ { nx := fun _ => D.bl true = .non, rt := fun d' => d' = D.bl true }
    refine sd_set 1 (evd_f L.dig (hr.mono (by decide)) (cellL ns 0, [8, 20, 2, 20, 20]) (eva_cons (evd_f L.cell (hr.mono (by decide)) (ns, 0) (eva_cons (vv 0 rfl) (eva_cons evd_int eva_nil)) ⟨by show ns.length ≤ 1000; omega, by show 0 ≤ 1000; omega⟩) (eva_cons (evo_lst (eva_cons evd_int (eva_cons evd_int (eva_cons evd_int (eva_cons evd_int (eva_cons evd_int eva_nil)))))).toD eva_nil)) szF) scLaw.nd ?_
    try simp only
    obtain ⟨f0, f1, f2⟩ := firstOk (cellL ns 0)
    generalize hfst : digs (cellL ns 0) [8, 20, 2, 20, 20] = fst at f0 f1 f2
    have hm := lawMany_le f1
    refine sd_set 2 (d := nD (1 + fst.getD 1 0 % 3)) (EvD.to (evd_op evd_int (evd_op (evd_int1 (evd_row 1 (vv 1 rfl) evd_int rfl (by omega)) B.int) evd_int (o_mod (by decide))) o_add) (congrArg D.int (by omega))) scLaw.nd ?_
    refine sd_ifJ [.d (.scr ns), .d (.lst (fst.map nD)), .d (nD (lawMany fst)), .no, .no, .no, .no, .no, .no, .no, .no, .no, .no, .no, .no, .no] (evt_cmp (evd_row 0 (vv 1 rfl) evd_int rfl (by omega)) evd_int o_eq) (fun h => ?_) (fun h => ?_) ?_
    · have := of_decide_eq_true h
      refine sd_set 2 (d := nD (lawMany fst)) (EvD.to (evd_op evd_int (evd_row 1 (vv 1 rfl) evd_int rfl (by omega)) o_add) ?_) scLaw.nd (sd_nil (Le.refl _))
      unfold lawMany
      rw [if_pos (by omega)]
      exact congrArg D.int (by omega)
    · have := of_decide_eq_false h
      refine sd_nil (.eq rfl (.eq rfl (.eq ?_ (.no (.no (.no (.no (.no (.no (.no (.no (.no (.no (.no (.no (.no .nil))))))))))))))))
      unfold lawMany
      rw [if_neg (by omega)]
    generalize hmany : lawMany fst = many at hm
    have ok1 := piecesL_ok ns 1 hm.2
    have ok2 := piecesL_ok ns 21 (many := 1 + fst.getD 2 0) (by omega)
    have len1 := piecesL_len ns 1 many
    have len2 := piecesL_len ns 21 (1 + fst.getD 2 0)
    refine sd_set 3 (evo_lst (eva_cons (evd_f L.pcs (hr.mono (by decide)) (ns, 1, many) (eva_cons (vv 0 rfl) (eva_cons evd_int (eva_cons (vv 2 rfl) eva_nil))) ⟨by show ns.length ≤ 1000; omega, by show 1 ≤ 100; omega, by show many ≤ 100; omega⟩)
      (eva_cons (evd_f L.pcs (hr.mono (by decide)) (ns, 21, 1 + fst.getD 2 0) (eva_cons (vv 0 rfl) (eva_cons evd_int (eva_cons (EvD.to (d' := nD (1 + fst.getD 2 0)) (evd_op evd_int (evd_row 2 (vv 1 rfl) evd_int rfl (by omega)) o_add) (congrArg D.int (by omega))) eva_nil))) ⟨by show ns.length ≤ 1000; omega, by show 21 ≤ 100; omega, by show 1 + fst.getD 2 0 ≤ 100; omega⟩) eva_nil))).toD scLaw.nd ?_
    try simp only
    generalize hp1 : piecesL ns 1 many = p1 at ok1 len1
    generalize hp2 : piecesL ns 21 (1 + fst.getD 2 0) = p2 at ok2 len2
    have okz : ∀ side, Ok (pz p1 p2 side) ∧ 0 < (pz p1 p2 side).length := fun side => by
      unfold pz
      split
      · exact ⟨ok1, by omega⟩
      · exact ⟨ok2, by omega⟩
    refine sd_set 4 (d := .lst [netD C p1, netD C p2]) (evo_lst (eva_cons (evd_net L.net (hr.mono (by decide)) (evd_f L.li (hr.mono (by decide)) p1 (eva_cons (evd_ixL (d := psD p1) (vv 3 rfl) evd_int rfl) eva_nil) ok1) (li_in ok1))
      (eva_cons (evd_net L.net (hr.mono (by decide)) (evd_f L.li (hr.mono (by decide)) p2 (eva_cons (evd_ixL (d := psD p2) (vv 3 rfl) evd_int rfl) eva_nil) ok2) (li_in ok2)) eva_nil))).toD scLaw.nd ?_
    refine sd_for (α := Nat) (S := Unit) (enc := fun i => D.int (i : Int)) (xs := List.range 2) (fun pre _ => True)
      (fun _ => [.d (.scr ns), .d (.lst (fst.map nD)), .no, .d (.lst [psD p1, psD p2]), .d (.lst [netD C p1, netD C p2]), .no, .no, .no, .no, .no, .no, .no, .no, .no, .no, .no])
      (fun _ side => [.d (.scr ns), .d (.lst (fst.map nD)), .no, .d (.lst [psD p1, psD p2]), .d (.lst [netD C p1, netD C p2]), .d (nD side), .no, .no, .no, .no, .no, .no, .no, .no, .no, .no]) (js := fun _ _ => [5])
      (fun _ => False) (src_rng1 (n := 2) evd_int (by decide) (by decide) B.range) rfl () trivial ?_ (fun pre x post q e _ => tg_name 5 scLaw.nd) ?_ ?_ (fun _ h => h.elim)
    · exact .eq rfl (.eq rfl (.no (.eq rfl (.eq rfl (.no (.no (.no (.no (.no (.no (.no (.no (.no (.no (.no .nil)))))))))))))))
    · rintro pre side post _ e -
      have hside : side < 2 := by have : side ∈ List.range 2 := by rw [e]; simp
                                  simpa using this
      obtain ⟨okp, hpos⟩ := okz side
      have hatD : atI [psD p1, psD p2] (side : Int) = some (psD (pz p1 p2 side)) := at_side hside
      have hatN : atI [netD C p1, netD C p2] (side : Int) = some (netD C (pz p1 p2 side)) := at_side (enc := netD C) hside
      generalize hpz : pz p1 p2 side = ps at okp hpos hatD hatN
      have hlen := okp.len
      show Sd _ [.d (.scr ns), .d (.lst (fst.map nD)), .no, .d (.lst [psD p1, psD p2]), .d (.lst [netD C p1, netD C p2]), .d (nD side), .no, .no, .no, .no, .no, .no, .no, .no, .no, .no] _ _
      refine sd_set 6 (evd_ixL (vv 4 rfl) (vv 5 rfl) hatN) scLaw.nd ?_
      refine sd_set 7 (evd_ixL (vv 3 rfl) (vv 5 rfl) hatD) scLaw.nd ?_
      refine sd_for (α := Nat) (S := List Piece) (enc := fun i => D.int (i : Int)) (xs := List.range (min 3 ps.length)) (fun pre s => s = ptsL (fst.getD 3 0) ps pre)
        (fun s => [.d (.scr ns), .d (.lst (fst.map nD)), .no, .d (.lst [psD p1, psD p2]), .d (.lst [netD C p1, netD C p2]), .d (nD side), .d (netD C s), .d (psD s), .no, .no, .no, .no, .no, .no, .no, .no])
        (fun s i => [.d (.scr ns), .d (.lst (fst.map nD)), .no, .d (.lst [psD p1, psD p2]), .d (.lst [netD C p1, netD C p2]), .d (nD side), .d (netD C s), .d (psD s), .d (nD i), .no, .no, .no, .no, .no, .no, .no]) (js := fun _ _ => [8])
        (fun _ => False) (srcTo (src_rng1 (n := ((min 3 ps.length : Nat) : Int)) (EvD.to (evd_bi (eva_cons evd_int (eva_cons (evd_bi (eva_cons (vv 7 rfl) eva_nil) c_lenT B.len (by decide +kernel)) eva_nil)) (c_min2 rfl) B.min (by decide +kernel)) (by rw [List.length_map]; exact congrArg D.int (by omega))) (by omega) (by omega) B.range) (by rw [Int.toNat_natCast])) rfl ps rfl (Le.refl _) (fun pre x post q e _ => tg_name 8 scLaw.nd) ?_ ?_ (fun _ h => h.elim)
      · rintro pre i post s' e es
        have hi : i < min 3 ps.length := by have : i ∈ List.range (min 3 ps.length) := by rw [e]; simp
                                            simpa using this
        obtain ⟨oks, lens⟩ := ptsL_ok (a := fst.getD 3 0) okp hpos pre
        rw [← es] at oks lens
        have hk := Nat.mod_lt (fst.getD 3 0 + i) hpos
        show Sd _ [.d (.scr ns), .d (.lst (fst.map nD)), .no, .d (.lst [psD p1, psD p2]), .d (.lst [netD C p1, netD C p2]), .d (nD side), .d (netD C s'), .d (psD s'), .d (nD i), .no, .no, .no, .no, .no, .no, .no] _ _
        refine sd_set 9 (d := nD ((fst.getD 3 0 + i) % ps.length)) (EvD.to (evd_op (evd_int1 (evd_op (evd_row 3 (vv 1 rfl) evd_int rfl (by omega)) (vv 8 rfl) o_add) B.int) (evd_bi (eva_cons (vv 7 rfl) eva_nil) c_lenT B.len (by decide +kernel)) (o_mod (by rw [List.length_map]; omega))) (by rw [List.length_map, lens, show ((fst.getD 3 0 : Nat) : Int) + (i : Int) = ((fst.getD 3 0 + i : Nat) : Int) from by omega, nmod])) scLaw.nd ?_
        generalize hkk : (fst.getD 3 0 + i) % ps.length = k at hk
        refine sd_set 10 (evd_f L.dig (hr.mono (by decide)) (cellL ns (24 + 3 * side + i), List.replicate 24 27720) (eva_cons (evd_f L.cell (hr.mono (by decide)) (ns, 24 + 3 * side + i) (eva_cons (vv 0 rfl) (eva_cons (EvD.to (d' := nD (24 + 3 * side + i)) (evd_op (evd_op evd_int (evd_op evd_int (vv 5 rfl) (o_mul (.inl (by decide)))) o_add) (vv 8 rfl) o_add) (congrArg D.int (by omega))) eva_nil)) ⟨by show ns.length ≤ 1000; omega, by show 24 + 3 * side + i ≤ 1000; omega⟩) (eva_cons (EvD.to (evo_op (evo_lst (eva_cons evd_int eva_nil)).toD evd_int (o_mulL (by decide) (by decide) (by decide))).toD rfl) eva_nil)) szR) scLaw.nd ?_
        try simp only
        have hrl := digs_len (cellL ns (24 + 3 * side + i)) (List.replicate 24 27720)
        rw [List.length_replicate] at hrl
        generalize digs (cellL ns (24 + 3 * side + i)) (List.replicate 24 27720) = row at hrl
        have hks : k < s'.length := by rw [lens]; exact hk
        refine sd_if (k := false) (evt_not (evt_d (evd_f L.st (hr.mono (by decide)) (s', k) (eva_cons (vv 6 rfl) (eva_cons (vv 9 rfl) (eva_cons (vv 7 rfl) eva_nil))) ⟨oks, hks⟩))) (fun h => by cases h) fun _ => sd_nil ?_
        refine sd_set 11 (evd_f L.ro hr (⟨s', k, row⟩ : RoG) (eva_cons (vv 6 rfl) (eva_cons (vv 9 rfl) (eva_cons (vv 7 rfl) (eva_cons (vv 10 rfl) eva_nil)))) ⟨oks, hks, hrl⟩) scLaw.nd ?_
        refine sd_if (k := false) (evt_cmp (vv 11 rfl) evd_non o_isN) (fun h => by cases h) fun _ => sd_nil ?_
        refine sd_set 6 (evd_ixT (vv 11 rfl) evd_int at2_0) scLaw.nd ?_
        refine sd_set 7 (evd_ixT (vv 11 rfl) evd_int at2_1) scLaw.nd ?_
        refine sd_nil ⟨RoG.fin ⟨s', k, row⟩, ?_, ?_⟩
        · unfold ptsL at es ⊢
          rw [List.foldl_append, ← es, List.foldl_cons, List.foldl_nil]
          unfold ptsStep
          rw [hkk]
          rfl
        · exact .eq rfl (.eq rfl (.no (.eq rfl (.eq rfl (.eq rfl (.eq rfl (.eq rfl (.no (.no (.no (.no (.no (.no (.no (.no .nil)))))))))))))))
      · rintro s' es
        obtain ⟨oks, lens⟩ := ptsL_ok (a := fst.getD 3 0) okp hpos (List.range (min 3 ps.length))
        rw [← es] at oks lens
        show Sd _ [.d (.scr ns), .d (.lst (fst.map nD)), .no, .d (.lst [psD p1, psD p2]), .d (.lst [netD C p1, netD C p2]), .d (nD side), .d (netD C s'), .d (psD s'), .no, .no, .no, .no, .no, .no, .no, .no] _ _
        refine sd_if (evt_w (evw_and (y := false) (evt_cmp (evd_bi (eva_cons (vv 7 rfl) eva_nil) c_lenT B.len (by decide +kernel)) evd_int o_lt) fun h => ?_)) (fun h => by rw [Bool.and_false] at h; cases h) fun _ => sd_nil ?_
        · rw [List.length_map] at h
          have hl4 : ps.length < 4 := by have := of_decide_eq_true h; omega
          have e1 : s' = ps.map small := by rw [es, ptsL_all hpos hl4]
          exact evw_and1 (evt_not (evt_d (evd_f L.inn (hr.mono (by decide)) (ps.map small) (eva_cons (EvD.to (vv 6 rfl) (by rw [e1])) (eva_cons (evd_f L.sm (hr.mono (by decide)) ps (eva_cons (evd_ixL (vv 3 rfl) (vv 5 rfl) hatD) eva_nil) okp) eva_nil)) okp.small)))
        refine sd_if (k := !decide (true = true)) (evt_cmp (evd_neteq L.net (hr.mono (by decide)) (vv 6 rfl) (evd_net L.net (hr.mono (by decide)) (evd_f L.li (hr.mono (by decide)) s' (eva_cons (vv 7 rfl) eva_nil) oks) (li_in oks))) evd_bl o_isNotB) (fun h => by simp at h) fun _ => sd_nil ?_
        refine sd_for (α := Nat) (S := Unit) (enc := fun i => D.int (i : Int)) (xs := List.range ps.length) (fun pre _ => True)
          (fun _ => [.d (.scr ns), .d (.lst (fst.map nD)), .no, .d (.lst [psD p1, psD p2]), .d (.lst [netD C p1, netD C p2]), .d (nD side), .no, .no, .no, .no, .no, .no, .no, .no, .no, .no])
          (fun _ k => [.d (.scr ns), .d (.lst (fst.map nD)), .no, .d (.lst [psD p1, psD p2]), .d (.lst [netD C p1, netD C p2]), .d (nD side), .no, .no, .no, .d (nD k), .no, .no, .no, .no, .no, .no]) (js := fun _ _ => [9])
          (fun _ => False) (srcTo (src_rng1 (n := (ps.length : Int)) (EvD.to (evd_bi (eva_cons (vv 7 rfl) eva_nil) c_lenT B.len (by decide +kernel)) (by rw [List.length_map, lens])) (by omega) (by omega) B.range) (by rw [Int.toNat_natCast])) rfl () trivial ?_ (fun pre x post q e _ => tg_name 9 scLaw.nd) ?_ ?_ (fun _ h => h.elim)
        · exact .eq rfl (.eq rfl (.no (.eq rfl (.eq rfl (.eq rfl (.no (.no (.no (.no (.no (.no (.no (.no (.no (.no .nil)))))))))))))))
        · rintro pre k post _ e -
          have hk : k < ps.length := by have : k ∈ List.range ps.length := by rw [e]; simp
                                        simpa using this
          have oq := okp.at hk
          have hatk : atI (ps.map pD) (k : Int) = some (pD (ps.getD k default)) := at_mapD default hk
          generalize hq : ps.getD k default = q at oq hatk
          have hql := oq.rl
          show Sd _ [.d (.scr ns), .d (.lst (fst.map nD)), .no, .d (.lst [psD p1, psD p2]), .d (.lst [netD C p1, netD C p2]), .d (nD side), .no, .no, .no, .d (nD k), .no, .no, .no, .no, .no, .no] _ _
          refine sd_set 12 (d := .tup (q.roads.map rD)) (evd_ixT (d := .tup (q.roads.map rD)) (evd_ixT (d := pD q) (evd_ixL (d := psD ps) (vv 3 rfl) (vv 5 rfl) hatD) (vv 9 rfl) hatk) evd_int at_1) scLaw.nd ?_
          refine sd_setLc 13 (enc := fun (i : Nat) => D.int (i : Int)) (items := List.range q.roads.length) (f := nD) (pr := fun i => !decide ((q.roads.getD i (0, 0)).1 = (q.roads.getD i (0, 0)).2)) (js := [8]) [("i", 8)]
            (srcTo (src_rng1 (n := (q.roads.length : Int)) (EvD.to (evd_bi (eva_cons (vv 12 rfl) eva_nil) c_lenT B.len (by decide +kernel)) (by rw [List.length_map])) (by omega) (by omega) B.range) (by rw [Int.toNat_natCast])) rfl scLaw.nd (blkOk_by (N := nLaw) (sc := defScope (top 54)) (by decide +kernel)) (by decide)
            (fun _ _ _ _ _ d hd => tg_name 8 scLaw.nd) (fun _ _ _ _ _ d hd => evts_one (EvT.to (evt_cmp (evd_ixT (d := nD (q.roads.getD d (0, 0)).1) (evd_ixT (d := rD (q.roads.getD d (0, 0))) (vv 12 rfl) (vv 8 rfl) (at_mapD (0, 0) (by simpa using hd))) evd_int at2_0) (evd_ixT (d := nD (q.roads.getD d (0, 0)).2) (evd_ixT (d := rD (q.roads.getD d (0, 0))) (vv 12 rfl) (vv 8 rfl) (at_mapD (0, 0) (by simpa using hd))) evd_int at2_1) o_ne) (congrArg not (decide_eq_decide.mpr (by omega))))) (fun _ _ _ _ _ d hd _ => vv 8 rfl) (by simp; omega) ?_
          rw [show ((List.range q.roads.length).filter fun i => !decide ((q.roads.getD i (0, 0)).1 = (q.roads.getD i (0, 0)).2)) = oths q from rfl]
          show Sd _ [.d (.scr ns), .d (.lst (fst.map nD)), .no, .d (.lst [psD p1, psD p2]), .d (.lst [netD C p1, netD C p2]), .d (nD side), .no, .no, .no, .d (nD k), .no, .no, .d (.tup (q.roads.map rD)), .d (.lst ((oths q).map nD)), .no, .no] _ _
          have leave : Le [.d (.scr ns), .d (.lst (fst.map nD)), .no, .d (.lst [psD p1, psD p2]), .d (.lst [netD C p1, netD C p2]), .d (nD side), .no, .no, .no, .d (nD k), .no, .no, .d (.tup (q.roads.map rD)), .d (.lst ((oths q).map nD)), .no, .no] [.d (.scr ns), .d (.lst (fst.map nD)), .no, .d (.lst [psD p1, psD p2]), .d (.lst [netD C p1, netD C p2]), .d (nD side), .no, .no, .no, .no, .no, .no, .no, .no, .no, .no] :=
            .eq rfl (.eq rfl (.no (.eq rfl (.eq rfl (.eq rfl (.no (.no (.no (.no (.no (.no (.no (.no (.no (.no .nil)))))))))))))))
          refine sd_if (evt_cmp (evd_bi (eva_cons (vv 13 rfl) eva_nil) c_lenL B.len (by decide +kernel)) evd_int o_gt) (fun h => ?_) (fun _ => sd_nil (sd_nil ⟨(), trivial, leave⟩))
          rw [List.length_map] at h
          have hposr : 0 < (oths q).length := by have := of_decide_eq_true h; omega
          have hm2 := Nat.mod_lt (fst.getD 4 0) hposr
          obtain ⟨l1, n1⟩ := mem_oths (getD_mem hm2)
          generalize hroad : (oths q).getD (fst.getD 4 0 % (oths q).length) 0 = road at l1 n1
          refine sd_set 14 (d := nD road) (EvD.to (evd_ixL (vv 13 rfl) (EvD.to (d' := nD (fst.getD 4 0 % (oths q).length)) (evd_op (evd_int1 (evd_row 4 (vv 1 rfl) evd_int rfl (by omega)) B.int) (evd_bi (eva_cons (vv 13 rfl) eva_nil) c_lenL B.len (by decide +kernel)) (o_mod (by rw [List.length_map]; omega))) (by rw [List.length_map, nmod])) (at_mapD 0 hm2)) (by rw [hroad])) scLaw.nd ?_
          refine sd_set 15 (evd_put (evd_ixL (d := psD ps) (vv 3 rfl) (vv 5 rfl) hatD) (vv 9 rfl) (evd_f L.sq (hr.mono (by decide)) (q, road) (eva_cons (evd_ixT (d := pD q) (evd_ixL (d := psD ps) (vv 3 rfl) (vv 5 rfl) hatD) (vv 9 rfl) hatk) (eva_cons (vv 14 rfl) eva_nil)) ⟨⟨_, oq⟩, l1, n1⟩) (evd_ixL (d := psD ps) (vv 3 rfl) (vv 5 rfl) hatD) (vv 9 rfl) hk hlen) scLaw.nd ?_
          refine sd_if (k := false) (evt_not (evt_d (evd_f L.inn (hr.mono (by decide)) (putP ps k (sq q road)) (eva_cons (EvD.to (evd_f L.con (hr.mono (by decide)) (ps, k, road) (eva_cons (evd_ixL (d := netD C ps) (vv 4 rfl) (vv 5 rfl) hatN) (eva_cons (vv 9 rfl) (eva_cons (vv 14 rfl) eva_nil))) ⟨okp, hk, by rw [hq]; exact l1, by rw [hq]; exact n1⟩) (by simp only [hq])) (eva_cons (vv 15 rfl) eva_nil)) (okp.put hk (sq_ok oq l1 n1))))) (fun h => by cases h) fun _ => sd_nil (sd_nil (sd_nil ⟨(), trivial, ?_⟩))
          exact .eq rfl (.eq rfl (.no (.eq rfl (.eq rfl (.eq rfl (.no (.no (.no (.no (.no (.no (.no (.no (.no (.no .nil)))))))))))))))
        · rintro _ -
          refine sd_if (k := false || false) (evt_w (evw_or (evt_not (evt_d (evd_f L.inn (hr.mono (by decide)) ps (eva_cons (evd_ixL (vv 4 rfl) (vv 5 rfl) hatN) (eva_cons (evd_ixL (vv 3 rfl) (vv 5 rfl) hatD) eva_nil)) okp))) fun _ => evw_or1 (evt_not (evt_d (evd_f L.st (hr.mono (by decide)) (ps, 0) (eva_cons (evd_ixL (vv 4 rfl) (vv 5 rfl) hatN) (eva_cons evd_int (eva_cons (evd_ixL (vv 3 rfl) (vv 5 rfl) hatD) eva_nil))) ⟨okp, hpos⟩))))) (fun h => by cases h) fun _ => sd_nil (sd_nil ⟨(), trivial, ?_⟩)
          exact .eq rfl (.eq rfl (.no (.eq rfl (.eq rfl (.no (.no (.no (.no (.no (.no (.no (.no (.no (.no (.no .nil)))))))))))))))
    · rintro _ -
      exact sd_ret evd_bl rfl
end
end K86
namespace K86
open PySem L2 ML
section
variable {P : Program} {w : World} {K : PySem.W.Frag} {mg : Str → Option Value} {base : Heap}
/-- law, as the end wants it -/
theorem law_end {C f : Addr} {fd : FuncData} (D0 : Dn K mg "law" (top 54)) (B : Bi mg) (L : LawK P w K mg base C) (F : Fun K "law" "law" (top 54) f fd) :
    FnOk P w K mg base CX0 12 f fd ["script"] (fun vs H Q _ => ∃ (a : Addr) (ns : List Int), vs = [.ref a] ∧ SqL K H a (ns.map V.int) ∧ ns.length ≤ 63 ∧ ∀ H', Q (.bl true) H') := by
  have h : FnOk P w K mg base CX0 12 f fd ["script"] (PureSp K lawSp) := fn_pure F scLaw (fun ds d ⟨a, e, _⟩ => by rw [e]; rfl) (by decide) (fun cdv A outer s H E hr ds d ⟨ns, e, hns, ed⟩ => by subst e ed; exact sd_law B L hr hns)
  exact h.imp fun vs H Q E ⟨a, ns, e, hS, hl, q⟩ => ⟨H, [.scr ns], .bl true, fun _ _ z => z, by rw [e]; exact .cons (.scr hS) .nil, ⟨ns, rfl, hl, rfl⟩, fun v G' H' u r => by cases r; exact q H'⟩
end
end K86

set_option linter.all false
/-! k86: the end. -/
namespace K86
open PySem L2 ML
set_option maxRecDepth 100000
set_option maxHeartbeats 4000000
def spLaw (K : PySem.W.Frag) : Sp := fun vs H Q _ => ∃ (a : Addr) (ns : List Int), vs = [.ref a] ∧ SqL K H a (ns.map V.int) ∧ ns.length ≤ 63 ∧ ∀ H', Q (.bl true) H'
theorem exm_self {K : PySem.W.Frag} {S : Addr} (h1 : PySem.W.subIn K (.ref S) (.type "BaseException") = some true) (h2 : PySem.W.isClsIn K S = true) (h3 : PySem.W.typeIn K (.ref S) = some (.type "type")) (h4 : PySem.W.subIn K (.ref S) (.ref S) = some true) :
    PySem.W.exmOne K (.ref S) (.ref S) = some true := by
  have e1 : (PySem.W.subIn K (.ref S) (.type "BaseException") == some true) = true := by rw [h1] <;> rfl
  have e2 : ((PySem.W.clsIn K S).isSome && PySem.W.typeIn K (.ref S) == some (.type "type")) = true := by
    have h2' : (PySem.W.clsIn K S).isSome = true := h2
    rw [h2', h3] <;> rfl
  show (if (PySem.W.subIn K (.ref S) (.type "BaseException") == some true) = true then (if ((PySem.W.clsIn K S).isSome && PySem.W.typeIn K (.ref S) == some (.type "type")) = true then PySem.W.subIn K (.ref S) (.ref S) else none) else none) = some true
  rw [if_pos e1, if_pos e2]
  exact h4
section
variable {P : Program} {w : World} {K : PySem.W.Frag} {mg : Str → Option Value} {base : Heap}
theorem law_ok {CN CB CL f54 : Addr} {fd : FuncData} (F54 : Fun K "law" "law" (top 54) f54 fd) (B : Bi mg) (TN : NetT K mg CN) (TB : BookT K mg CB) (TL : LoopT K mg CL) (hH : ∃ t, mg "HANDLE" = some (.int (-2) t))
    (D1 : Dn K mg "frozen" (top 1))
    (D2 : Dn K mg "is_whole" (top 2))
    (D10 : Dn K mg "merged" (top 10))
    (D11 : Dn K mg "joining_roads" (top 11))
    (D12 : Dn K mg "is_below" (top 12))
    (D13 : Dn K mg "is_piece" (top 13))
    (D16 : Dn K mg "spanning" (top 16))
    (D17 : Dn K mg "loops" (top 17))
    (D18 : Dn K mg "next_places" (top 18))
    (D19 : Dn K mg "closed_way" (top 19))
    (D20 : Dn K mg "closed_ways" (top 20))
    (D21 : Dn K mg "place_after" (top 21))
    (D22 : Dn K mg "contracted" (top 22))
    (D23 : Dn K mg "shrunk" (top 23))
    (D25 : Dn K mg "is_target" (top 25))
    (D30 : Dn K mg "net_book" (top 30))
    (D32 : Dn K mg "_law_whole" (top 32))
    (D33 : Dn K mg "_law_cell" (top 33))
    (D34 : Dn K mg "_law_digits" (top 34))
    (D35 : Dn K mg "_law_piece_sizes" (top 35))
    (D36 : Dn K mg "_law_gate_kind" (top 36))
    (D37 : Dn K mg "_law_piece" (top 37))
    (D38 : Dn K mg "_law_pieces" (top 38))
    (D39 : Dn K mg "_law_listed" (top 39))
    (D40 : Dn K mg "_law_plain" (top 40))
    (D41 : Dn K mg "_law_greedy" (top 41))
    (D42 : Dn K mg "_law_names" (top 42))
    (D43 : Dn K mg "_law_squeezed" (top 43))
    (D44 : Dn K mg "_law_small" (top 44))
    (D45 : Dn K mg "_law_kinds" (top 45))
    (D46 : Dn K mg "_law_way_after" (top 46))
    (D47 : Dn K mg "_law_is_net" (top 47))
    (D48 : Dn K mg "_law_refusal" (top 48))
    (D49 : Dn K mg "_law_stays" (top 49))
    (D50 : Dn K mg "_law_way_back" (top 50))
    (D51 : Dn K mg "_law_closed" (top 51))
    (D52 : Dn K mg "_law_ways_follow" (top 52))
    (D53 : Dn K mg "_law_row_of_points" (top 53))
    (D54 : Dn K mg "law" (top 54))
    : FnOk P w K mg base CX0 12 f54 fd ["script"] (spLaw K) := by
  have whole : Kn P w K mg base 1 "is_whole" whSp := kn_whole D2 B
  have merged : Kn P w K mg base 1 "merged" mergedSp := kn_merged D10 B
  have join : Kn P w K mg base 2 "joining_roads" joinSp := kn_join D11 B merged
  have below : Kn P w K mg base 2 "is_below" belowSp := kn_below D12 B whole
  have piece : Kn P w K mg base 3 "is_piece" pieceSp := kn_piece D13 B below join
  have frozen : Kn P w K mg base 6 "frozen" (frozenSp 5) := kn_frozen D1 B 5
  have net : NetK P w K mg base CN := netK TN B frozen piece
  have target : Kn P w K mg base 2 "is_target" targetSp := kn_target D25 B whole
  have book : BookK P w K mg base CB := bookK TB B frozen target
  have span := kn_span (P := P) (w := w) (base := base) D16 TN join
  have lps := kn_loops D17 TN B span
  have next : Kn P w K mg base 1 "next_places" nextSp := kn_next D18 B
  have way := kn_way D19 B next
  have ways := kn_ways D20 TN B span way
  have after : Kn P w K mg base 1 "place_after" afterSp := kn_after D21
  have con := kn_con D22 B net after
  have shr := kn_shrunk D23 B net lps
  have nb := kn_nb D30 B hH TN book lps
  have lw : Kn P w K mg base 1 "_law_whole" whSp := kn_lwhole D32 B
  have cell : Kn P w K mg base 1 "_law_cell" cellSp := kn_cell D33 B
  have dig : Kn P w K mg base 1 "_law_digits" digSp := kn_dig D34 B
  have sizes : Kn P w K mg base 1 "_law_piece_sizes" sizesSp := kn_sizes D35
  have gk : Kn P w K mg base 1 "_law_gate_kind" gkSp := kn_gk D36 B
  have pc := kn_pc D37 B gk
  have pcs := kn_pcs D38 B sizes cell dig pc
  have li : Kn P w K mg base 1 "_law_listed" liSp := kn_li D39 B
  have pln := kn_pl D40 B lw
  have grd : Kn P w K mg base 1 "_law_greedy" grSp := kn_gr D41 B
  have nm : Kn P w K mg base 1 "_law_names" nmSp := kn_nm D42 B
  have sqz := kn_sq D43 B nm
  have sm : Kn P w K mg base 1 "_law_small" smSp := kn_sm D44 B
  have ki : Kn P w K mg base 1 "_law_kinds" kiSp := kn_ki D45 B
  have wa : Kn P w K mg base 1 "_law_way_after" waSp := kn_wa D46 B
  have inn := kn_in D47 B TN pln
  have rf : Kn P w K mg base 4 "_law_refusal" (rfSp CN) := kn_rf D48 D22 B TN TL D32
  have st := kn_st D49 B TB inn shr sm lps lw nb pln ki
  have wb : Kn P w K mg base 1 "_law_way_back" wbSp := kn_wb D50 B
  have cl := kn_cl D51 B grd wb
  have wf := kn_wf D52 B grd nm ways pln wa cl
  have ro := kn_ro D53 B ⟨rf, inn, con, sqz, st, wf⟩
  exact law_end D54 B ⟨net, cell, dig, pcs, li, inn, con, sqz, sm, st, ro⟩ F54
end

theorem all_mk {l : PySem.W.OpenLaw} {w : World} {K : PySem.W.Frag} {h : Heap} {mg : Str → Option Value} {fa : Addr} (X : K.In h) (G : h.Ns mainGlobals mg) (hfa : mg "law" = some (.ref fa))
    {CN : Addr}
    {CB : Addr}
    {CE : Addr}
    {CL : Addr}
    {CX : Addr}
    {CY : Addr}
    {CZ : Addr}
    {f1 : Addr} {od1 an1 : Option Addr} {sl1 : Array (Option Value)} {oc1 kV1 dc1 pm1 cd1 ct1 : Value}
    {f2 : Addr} {od2 an2 : Option Addr} {sl2 : Array (Option Value)} {oc2 kV2 dc2 pm2 cd2 ct2 : Value}
    {f10 : Addr} {od10 an10 : Option Addr} {sl10 : Array (Option Value)} {oc10 kV10 dc10 pm10 cd10 ct10 : Value}
    {f11 : Addr} {od11 an11 : Option Addr} {sl11 : Array (Option Value)} {oc11 kV11 dc11 pm11 cd11 ct11 : Value}
    {f12 : Addr} {od12 an12 : Option Addr} {sl12 : Array (Option Value)} {oc12 kV12 dc12 pm12 cd12 ct12 : Value}
    {f13 : Addr} {od13 an13 : Option Addr} {sl13 : Array (Option Value)} {oc13 kV13 dc13 pm13 cd13 ct13 : Value}
    {f16 : Addr} {od16 an16 : Option Addr} {sl16 : Array (Option Value)} {oc16 kV16 dc16 pm16 cd16 ct16 : Value}
    {f17 : Addr} {od17 an17 : Option Addr} {sl17 : Array (Option Value)} {oc17 kV17 dc17 pm17 cd17 ct17 : Value}
    {f18 : Addr} {od18 an18 : Option Addr} {sl18 : Array (Option Value)} {oc18 kV18 dc18 pm18 cd18 ct18 : Value}
    {f19 : Addr} {od19 an19 : Option Addr} {sl19 : Array (Option Value)} {oc19 kV19 dc19 pm19 cd19 ct19 : Value}
    {f20 : Addr} {od20 an20 : Option Addr} {sl20 : Array (Option Value)} {oc20 kV20 dc20 pm20 cd20 ct20 : Value}
    {f21 : Addr} {od21 an21 : Option Addr} {sl21 : Array (Option Value)} {oc21 kV21 dc21 pm21 cd21 ct21 : Value}
    {f22 : Addr} {od22 an22 : Option Addr} {sl22 : Array (Option Value)} {oc22 kV22 dc22 pm22 cd22 ct22 : Value}
    {f23 : Addr} {od23 an23 : Option Addr} {sl23 : Array (Option Value)} {oc23 kV23 dc23 pm23 cd23 ct23 : Value}
    {f25 : Addr} {od25 an25 : Option Addr} {sl25 : Array (Option Value)} {oc25 kV25 dc25 pm25 cd25 ct25 : Value}
    {f30 : Addr} {od30 an30 : Option Addr} {sl30 : Array (Option Value)} {oc30 kV30 dc30 pm30 cd30 ct30 : Value}
    {f32 : Addr} {od32 an32 : Option Addr} {sl32 : Array (Option Value)} {oc32 kV32 dc32 pm32 cd32 ct32 : Value}
    {f33 : Addr} {od33 an33 : Option Addr} {sl33 : Array (Option Value)} {oc33 kV33 dc33 pm33 cd33 ct33 : Value}
    {f34 : Addr} {od34 an34 : Option Addr} {sl34 : Array (Option Value)} {oc34 kV34 dc34 pm34 cd34 ct34 : Value}
    {f35 : Addr} {od35 an35 : Option Addr} {sl35 : Array (Option Value)} {oc35 kV35 dc35 pm35 cd35 ct35 : Value}
    {f36 : Addr} {od36 an36 : Option Addr} {sl36 : Array (Option Value)} {oc36 kV36 dc36 pm36 cd36 ct36 : Value}
    {f37 : Addr} {od37 an37 : Option Addr} {sl37 : Array (Option Value)} {oc37 kV37 dc37 pm37 cd37 ct37 : Value}
    {f38 : Addr} {od38 an38 : Option Addr} {sl38 : Array (Option Value)} {oc38 kV38 dc38 pm38 cd38 ct38 : Value}
    {f39 : Addr} {od39 an39 : Option Addr} {sl39 : Array (Option Value)} {oc39 kV39 dc39 pm39 cd39 ct39 : Value}
    {f40 : Addr} {od40 an40 : Option Addr} {sl40 : Array (Option Value)} {oc40 kV40 dc40 pm40 cd40 ct40 : Value}
    {f41 : Addr} {od41 an41 : Option Addr} {sl41 : Array (Option Value)} {oc41 kV41 dc41 pm41 cd41 ct41 : Value}
    {f42 : Addr} {od42 an42 : Option Addr} {sl42 : Array (Option Value)} {oc42 kV42 dc42 pm42 cd42 ct42 : Value}
    {f43 : Addr} {od43 an43 : Option Addr} {sl43 : Array (Option Value)} {oc43 kV43 dc43 pm43 cd43 ct43 : Value}
    {f44 : Addr} {od44 an44 : Option Addr} {sl44 : Array (Option Value)} {oc44 kV44 dc44 pm44 cd44 ct44 : Value}
    {f45 : Addr} {od45 an45 : Option Addr} {sl45 : Array (Option Value)} {oc45 kV45 dc45 pm45 cd45 ct45 : Value}
    {f46 : Addr} {od46 an46 : Option Addr} {sl46 : Array (Option Value)} {oc46 kV46 dc46 pm46 cd46 ct46 : Value}
    {f47 : Addr} {od47 an47 : Option Addr} {sl47 : Array (Option Value)} {oc47 kV47 dc47 pm47 cd47 ct47 : Value}
    {f48 : Addr} {od48 an48 : Option Addr} {sl48 : Array (Option Value)} {oc48 kV48 dc48 pm48 cd48 ct48 : Value}
    {f49 : Addr} {od49 an49 : Option Addr} {sl49 : Array (Option Value)} {oc49 kV49 dc49 pm49 cd49 ct49 : Value}
    {f50 : Addr} {od50 an50 : Option Addr} {sl50 : Array (Option Value)} {oc50 kV50 dc50 pm50 cd50 ct50 : Value}
    {f51 : Addr} {od51 an51 : Option Addr} {sl51 : Array (Option Value)} {oc51 kV51 dc51 pm51 cd51 ct51 : Value}
    {f52 : Addr} {od52 an52 : Option Addr} {sl52 : Array (Option Value)} {oc52 kV52 dc52 pm52 cd52 ct52 : Value}
    {f53 : Addr} {od53 an53 : Option Addr} {sl53 : Array (Option Value)} {oc53 kV53 dc53 pm53 cd53 ct53 : Value}
    {f54 : Addr} {od54 an54 : Option Addr} {sl54 : Array (Option Value)} {oc54 kV54 dc54 pm54 cd54 ct54 : Value}
    {fCNi : Addr} {odCNi anCNi : Option Addr} {slCNi : Array (Option Value)} {ocCNi kVCNi dcCNi pmCNi cdCNi ctCNi : Value}
    {fCNe : Addr} {odCNe anCNe : Option Addr} {slCNe : Array (Option Value)} {ocCNe kVCNe dcCNe pmCNe cdCNe ctCNe : Value}
    {fCBi : Addr} {odCBi anCBi : Option Addr} {slCBi : Array (Option Value)} {ocCBi kVCBi dcCBi pmCBi cdCBi ctCBi : Value}
    {fCBe : Addr} {odCBe anCBe : Option Addr} {slCBe : Array (Option Value)} {ocCBe kVCBe dcCBe pmCBe cdCBe ctCBe : Value}
    {tH : Tok}
    {fCLi : Addr} {odCLi anCLi : Option Addr} {slCLi : Array (Option Value)} {ocCLi kVCLi dcCLi pmCLi cdCLi ctCLi : Value}
    {nm q : Str} {N : Addr} {bs : List Value} {sn : List Str} {sub : List Value} {ab : Bool} {col : Option Bool} {dd : Option Addr} {m0 m1 m2 m3 m5 : Option Value}
    (gCN : PySem.W.nsIn K mainGlobals "Net" = some (some (.ref CN)))
    (gCB : PySem.W.nsIn K mainGlobals "Book" = some (some (.ref CB)))
    (gCE : PySem.W.nsIn K mainGlobals "EndsError" = some (some (.ref CE)))
    (gCL : PySem.W.nsIn K mainGlobals "IsLoop" = some (some (.ref CL)))
    (gCX : PySem.W.nsIn K mainGlobals "BadBook" = some (some (.ref CX)))
    (gCY : PySem.W.nsIn K mainGlobals "BadNet" = some (some (.ref CY)))
    (gCZ : PySem.W.nsIn K mainGlobals "BadMove" = some (some (.ref CZ)))
    (a1 : PySem.W.nsIn K mainGlobals "frozen" = some (some (.ref f1)))
    (l1 : K.lookup f1 = some ⟨oc1, od1, .func (PySem.W.fnOf "frozen" "frozen" (defArgs (top 1)) (defBody (top 1)) (defScope (top 1)) .none kV1 dc1 pm1 an1 cd1 ct1), sl1⟩)
    (c1 : PySem.W.codeIn K cd1 "frozen" = true)
    (k1 : PySem.W.keepIn K (.ref f1) = true)
    (a2 : PySem.W.nsIn K mainGlobals "is_whole" = some (some (.ref f2)))
    (l2 : K.lookup f2 = some ⟨oc2, od2, .func (PySem.W.fnOf "is_whole" "is_whole" (defArgs (top 2)) (defBody (top 2)) (defScope (top 2)) .none kV2 dc2 pm2 an2 cd2 ct2), sl2⟩)
    (c2 : PySem.W.codeIn K cd2 "is_whole" = true)
    (k2 : PySem.W.keepIn K (.ref f2) = true)
    (a10 : PySem.W.nsIn K mainGlobals "merged" = some (some (.ref f10)))
    (l10 : K.lookup f10 = some ⟨oc10, od10, .func (PySem.W.fnOf "merged" "merged" (defArgs (top 10)) (defBody (top 10)) (defScope (top 10)) .none kV10 dc10 pm10 an10 cd10 ct10), sl10⟩)
    (c10 : PySem.W.codeIn K cd10 "merged" = true)
    (k10 : PySem.W.keepIn K (.ref f10) = true)
    (a11 : PySem.W.nsIn K mainGlobals "joining_roads" = some (some (.ref f11)))
    (l11 : K.lookup f11 = some ⟨oc11, od11, .func (PySem.W.fnOf "joining_roads" "joining_roads" (defArgs (top 11)) (defBody (top 11)) (defScope (top 11)) .none kV11 dc11 pm11 an11 cd11 ct11), sl11⟩)
    (c11 : PySem.W.codeIn K cd11 "joining_roads" = true)
    (k11 : PySem.W.keepIn K (.ref f11) = true)
    (a12 : PySem.W.nsIn K mainGlobals "is_below" = some (some (.ref f12)))
    (l12 : K.lookup f12 = some ⟨oc12, od12, .func (PySem.W.fnOf "is_below" "is_below" (defArgs (top 12)) (defBody (top 12)) (defScope (top 12)) .none kV12 dc12 pm12 an12 cd12 ct12), sl12⟩)
    (c12 : PySem.W.codeIn K cd12 "is_below" = true)
    (k12 : PySem.W.keepIn K (.ref f12) = true)
    (a13 : PySem.W.nsIn K mainGlobals "is_piece" = some (some (.ref f13)))
    (l13 : K.lookup f13 = some ⟨oc13, od13, .func (PySem.W.fnOf "is_piece" "is_piece" (defArgs (top 13)) (defBody (top 13)) (defScope (top 13)) .none kV13 dc13 pm13 an13 cd13 ct13), sl13⟩)
    (c13 : PySem.W.codeIn K cd13 "is_piece" = true)
    (k13 : PySem.W.keepIn K (.ref f13) = true)
    (a16 : PySem.W.nsIn K mainGlobals "spanning" = some (some (.ref f16)))
    (l16 : K.lookup f16 = some ⟨oc16, od16, .func (PySem.W.fnOf "spanning" "spanning" (defArgs (top 16)) (defBody (top 16)) (defScope (top 16)) .none kV16 dc16 pm16 an16 cd16 ct16), sl16⟩)
    (c16 : PySem.W.codeIn K cd16 "spanning" = true)
    (k16 : PySem.W.keepIn K (.ref f16) = true)
    (a17 : PySem.W.nsIn K mainGlobals "loops" = some (some (.ref f17)))
    (l17 : K.lookup f17 = some ⟨oc17, od17, .func (PySem.W.fnOf "loops" "loops" (defArgs (top 17)) (defBody (top 17)) (defScope (top 17)) .none kV17 dc17 pm17 an17 cd17 ct17), sl17⟩)
    (c17 : PySem.W.codeIn K cd17 "loops" = true)
    (k17 : PySem.W.keepIn K (.ref f17) = true)
    (a18 : PySem.W.nsIn K mainGlobals "next_places" = some (some (.ref f18)))
    (l18 : K.lookup f18 = some ⟨oc18, od18, .func (PySem.W.fnOf "next_places" "next_places" (defArgs (top 18)) (defBody (top 18)) (defScope (top 18)) .none kV18 dc18 pm18 an18 cd18 ct18), sl18⟩)
    (c18 : PySem.W.codeIn K cd18 "next_places" = true)
    (k18 : PySem.W.keepIn K (.ref f18) = true)
    (a19 : PySem.W.nsIn K mainGlobals "closed_way" = some (some (.ref f19)))
    (l19 : K.lookup f19 = some ⟨oc19, od19, .func (PySem.W.fnOf "closed_way" "closed_way" (defArgs (top 19)) (defBody (top 19)) (defScope (top 19)) .none kV19 dc19 pm19 an19 cd19 ct19), sl19⟩)
    (c19 : PySem.W.codeIn K cd19 "closed_way" = true)
    (k19 : PySem.W.keepIn K (.ref f19) = true)
    (a20 : PySem.W.nsIn K mainGlobals "closed_ways" = some (some (.ref f20)))
    (l20 : K.lookup f20 = some ⟨oc20, od20, .func (PySem.W.fnOf "closed_ways" "closed_ways" (defArgs (top 20)) (defBody (top 20)) (defScope (top 20)) .none kV20 dc20 pm20 an20 cd20 ct20), sl20⟩)
    (c20 : PySem.W.codeIn K cd20 "closed_ways" = true)
    (k20 : PySem.W.keepIn K (.ref f20) = true)
    (a21 : PySem.W.nsIn K mainGlobals "place_after" = some (some (.ref f21)))
    (l21 : K.lookup f21 = some ⟨oc21, od21, .func (PySem.W.fnOf "place_after" "place_after" (defArgs (top 21)) (defBody (top 21)) (defScope (top 21)) .none kV21 dc21 pm21 an21 cd21 ct21), sl21⟩)
    (c21 : PySem.W.codeIn K cd21 "place_after" = true)
    (k21 : PySem.W.keepIn K (.ref f21) = true)
    (a22 : PySem.W.nsIn K mainGlobals "contracted" = some (some (.ref f22)))
    (l22 : K.lookup f22 = some ⟨oc22, od22, .func (PySem.W.fnOf "contracted" "contracted" (defArgs (top 22)) (defBody (top 22)) (defScope (top 22)) .none kV22 dc22 pm22 an22 cd22 ct22), sl22⟩)
    (c22 : PySem.W.codeIn K cd22 "contracted" = true)
    (k22 : PySem.W.keepIn K (.ref f22) = true)
    (a23 : PySem.W.nsIn K mainGlobals "shrunk" = some (some (.ref f23)))
    (l23 : K.lookup f23 = some ⟨oc23, od23, .func (PySem.W.fnOf "shrunk" "shrunk" (defArgs (top 23)) (defBody (top 23)) (defScope (top 23)) .none kV23 dc23 pm23 an23 cd23 ct23), sl23⟩)
    (c23 : PySem.W.codeIn K cd23 "shrunk" = true)
    (k23 : PySem.W.keepIn K (.ref f23) = true)
    (a25 : PySem.W.nsIn K mainGlobals "is_target" = some (some (.ref f25)))
    (l25 : K.lookup f25 = some ⟨oc25, od25, .func (PySem.W.fnOf "is_target" "is_target" (defArgs (top 25)) (defBody (top 25)) (defScope (top 25)) .none kV25 dc25 pm25 an25 cd25 ct25), sl25⟩)
    (c25 : PySem.W.codeIn K cd25 "is_target" = true)
    (k25 : PySem.W.keepIn K (.ref f25) = true)
    (a30 : PySem.W.nsIn K mainGlobals "net_book" = some (some (.ref f30)))
    (l30 : K.lookup f30 = some ⟨oc30, od30, .func (PySem.W.fnOf "net_book" "net_book" (defArgs (top 30)) (defBody (top 30)) (defScope (top 30)) .none kV30 dc30 pm30 an30 cd30 ct30), sl30⟩)
    (c30 : PySem.W.codeIn K cd30 "net_book" = true)
    (k30 : PySem.W.keepIn K (.ref f30) = true)
    (a32 : PySem.W.nsIn K mainGlobals "_law_whole" = some (some (.ref f32)))
    (l32 : K.lookup f32 = some ⟨oc32, od32, .func (PySem.W.fnOf "_law_whole" "_law_whole" (defArgs (top 32)) (defBody (top 32)) (defScope (top 32)) .none kV32 dc32 pm32 an32 cd32 ct32), sl32⟩)
    (c32 : PySem.W.codeIn K cd32 "_law_whole" = true)
    (k32 : PySem.W.keepIn K (.ref f32) = true)
    (a33 : PySem.W.nsIn K mainGlobals "_law_cell" = some (some (.ref f33)))
    (l33 : K.lookup f33 = some ⟨oc33, od33, .func (PySem.W.fnOf "_law_cell" "_law_cell" (defArgs (top 33)) (defBody (top 33)) (defScope (top 33)) .none kV33 dc33 pm33 an33 cd33 ct33), sl33⟩)
    (c33 : PySem.W.codeIn K cd33 "_law_cell" = true)
    (k33 : PySem.W.keepIn K (.ref f33) = true)
    (a34 : PySem.W.nsIn K mainGlobals "_law_digits" = some (some (.ref f34)))
    (l34 : K.lookup f34 = some ⟨oc34, od34, .func (PySem.W.fnOf "_law_digits" "_law_digits" (defArgs (top 34)) (defBody (top 34)) (defScope (top 34)) .none kV34 dc34 pm34 an34 cd34 ct34), sl34⟩)
    (c34 : PySem.W.codeIn K cd34 "_law_digits" = true)
    (k34 : PySem.W.keepIn K (.ref f34) = true)
    (a35 : PySem.W.nsIn K mainGlobals "_law_piece_sizes" = some (some (.ref f35)))
    (l35 : K.lookup f35 = some ⟨oc35, od35, .func (PySem.W.fnOf "_law_piece_sizes" "_law_piece_sizes" (defArgs (top 35)) (defBody (top 35)) (defScope (top 35)) .none kV35 dc35 pm35 an35 cd35 ct35), sl35⟩)
    (c35 : PySem.W.codeIn K cd35 "_law_piece_sizes" = true)
    (k35 : PySem.W.keepIn K (.ref f35) = true)
    (a36 : PySem.W.nsIn K mainGlobals "_law_gate_kind" = some (some (.ref f36)))
    (l36 : K.lookup f36 = some ⟨oc36, od36, .func (PySem.W.fnOf "_law_gate_kind" "_law_gate_kind" (defArgs (top 36)) (defBody (top 36)) (defScope (top 36)) .none kV36 dc36 pm36 an36 cd36 ct36), sl36⟩)
    (c36 : PySem.W.codeIn K cd36 "_law_gate_kind" = true)
    (k36 : PySem.W.keepIn K (.ref f36) = true)
    (a37 : PySem.W.nsIn K mainGlobals "_law_piece" = some (some (.ref f37)))
    (l37 : K.lookup f37 = some ⟨oc37, od37, .func (PySem.W.fnOf "_law_piece" "_law_piece" (defArgs (top 37)) (defBody (top 37)) (defScope (top 37)) .none kV37 dc37 pm37 an37 cd37 ct37), sl37⟩)
    (c37 : PySem.W.codeIn K cd37 "_law_piece" = true)
    (k37 : PySem.W.keepIn K (.ref f37) = true)
    (a38 : PySem.W.nsIn K mainGlobals "_law_pieces" = some (some (.ref f38)))
    (l38 : K.lookup f38 = some ⟨oc38, od38, .func (PySem.W.fnOf "_law_pieces" "_law_pieces" (defArgs (top 38)) (defBody (top 38)) (defScope (top 38)) .none kV38 dc38 pm38 an38 cd38 ct38), sl38⟩)
    (c38 : PySem.W.codeIn K cd38 "_law_pieces" = true)
    (k38 : PySem.W.keepIn K (.ref f38) = true)
    (a39 : PySem.W.nsIn K mainGlobals "_law_listed" = some (some (.ref f39)))
    (l39 : K.lookup f39 = some ⟨oc39, od39, .func (PySem.W.fnOf "_law_listed" "_law_listed" (defArgs (top 39)) (defBody (top 39)) (defScope (top 39)) .none kV39 dc39 pm39 an39 cd39 ct39), sl39⟩)
    (c39 : PySem.W.codeIn K cd39 "_law_listed" = true)
    (k39 : PySem.W.keepIn K (.ref f39) = true)
    (a40 : PySem.W.nsIn K mainGlobals "_law_plain" = some (some (.ref f40)))
    (l40 : K.lookup f40 = some ⟨oc40, od40, .func (PySem.W.fnOf "_law_plain" "_law_plain" (defArgs (top 40)) (defBody (top 40)) (defScope (top 40)) .none kV40 dc40 pm40 an40 cd40 ct40), sl40⟩)
    (c40 : PySem.W.codeIn K cd40 "_law_plain" = true)
    (k40 : PySem.W.keepIn K (.ref f40) = true)
    (a41 : PySem.W.nsIn K mainGlobals "_law_greedy" = some (some (.ref f41)))
    (l41 : K.lookup f41 = some ⟨oc41, od41, .func (PySem.W.fnOf "_law_greedy" "_law_greedy" (defArgs (top 41)) (defBody (top 41)) (defScope (top 41)) .none kV41 dc41 pm41 an41 cd41 ct41), sl41⟩)
    (c41 : PySem.W.codeIn K cd41 "_law_greedy" = true)
    (k41 : PySem.W.keepIn K (.ref f41) = true)
    (a42 : PySem.W.nsIn K mainGlobals "_law_names" = some (some (.ref f42)))
    (l42 : K.lookup f42 = some ⟨oc42, od42, .func (PySem.W.fnOf "_law_names" "_law_names" (defArgs (top 42)) (defBody (top 42)) (defScope (top 42)) .none kV42 dc42 pm42 an42 cd42 ct42), sl42⟩)
    (c42 : PySem.W.codeIn K cd42 "_law_names" = true)
    (k42 : PySem.W.keepIn K (.ref f42) = true)
    (a43 : PySem.W.nsIn K mainGlobals "_law_squeezed" = some (some (.ref f43)))
    (l43 : K.lookup f43 = some ⟨oc43, od43, .func (PySem.W.fnOf "_law_squeezed" "_law_squeezed" (defArgs (top 43)) (defBody (top 43)) (defScope (top 43)) .none kV43 dc43 pm43 an43 cd43 ct43), sl43⟩)
    (c43 : PySem.W.codeIn K cd43 "_law_squeezed" = true)
    (k43 : PySem.W.keepIn K (.ref f43) = true)
    (a44 : PySem.W.nsIn K mainGlobals "_law_small" = some (some (.ref f44)))
    (l44 : K.lookup f44 = some ⟨oc44, od44, .func (PySem.W.fnOf "_law_small" "_law_small" (defArgs (top 44)) (defBody (top 44)) (defScope (top 44)) .none kV44 dc44 pm44 an44 cd44 ct44), sl44⟩)
    (c44 : PySem.W.codeIn K cd44 "_law_small" = true)
    (k44 : PySem.W.keepIn K (.ref f44) = true)
    (a45 : PySem.W.nsIn K mainGlobals "_law_kinds" = some (some (.ref f45)))
    (l45 : K.lookup f45 = some ⟨oc45, od45, .func (PySem.W.fnOf "_law_kinds" "_law_kinds" (defArgs (top 45)) (defBody (top 45)) (defScope (top 45)) .none kV45 dc45 pm45 an45 cd45 ct45), sl45⟩)
    (c45 : PySem.W.codeIn K cd45 "_law_kinds" = true)
    (k45 : PySem.W.keepIn K (.ref f45) = true)
    (a46 : PySem.W.nsIn K mainGlobals "_law_way_after" = some (some (.ref f46)))
    (l46 : K.lookup f46 = some ⟨oc46, od46, .func (PySem.W.fnOf "_law_way_after" "_law_way_after" (defArgs (top 46)) (defBody (top 46)) (defScope (top 46)) .none kV46 dc46 pm46 an46 cd46 ct46), sl46⟩)
    (c46 : PySem.W.codeIn K cd46 "_law_way_after" = true)
    (k46 : PySem.W.keepIn K (.ref f46) = true)
    (a47 : PySem.W.nsIn K mainGlobals "_law_is_net" = some (some (.ref f47)))
    (l47 : K.lookup f47 = some ⟨oc47, od47, .func (PySem.W.fnOf "_law_is_net" "_law_is_net" (defArgs (top 47)) (defBody (top 47)) (defScope (top 47)) .none kV47 dc47 pm47 an47 cd47 ct47), sl47⟩)
    (c47 : PySem.W.codeIn K cd47 "_law_is_net" = true)
    (k47 : PySem.W.keepIn K (.ref f47) = true)
    (a48 : PySem.W.nsIn K mainGlobals "_law_refusal" = some (some (.ref f48)))
    (l48 : K.lookup f48 = some ⟨oc48, od48, .func (PySem.W.fnOf "_law_refusal" "_law_refusal" (defArgs (top 48)) (defBody (top 48)) (defScope (top 48)) .none kV48 dc48 pm48 an48 cd48 ct48), sl48⟩)
    (c48 : PySem.W.codeIn K cd48 "_law_refusal" = true)
    (k48 : PySem.W.keepIn K (.ref f48) = true)
    (a49 : PySem.W.nsIn K mainGlobals "_law_stays" = some (some (.ref f49)))
    (l49 : K.lookup f49 = some ⟨oc49, od49, .func (PySem.W.fnOf "_law_stays" "_law_stays" (defArgs (top 49)) (defBody (top 49)) (defScope (top 49)) .none kV49 dc49 pm49 an49 cd49 ct49), sl49⟩)
    (c49 : PySem.W.codeIn K cd49 "_law_stays" = true)
    (k49 : PySem.W.keepIn K (.ref f49) = true)
    (a50 : PySem.W.nsIn K mainGlobals "_law_way_back" = some (some (.ref f50)))
    (l50 : K.lookup f50 = some ⟨oc50, od50, .func (PySem.W.fnOf "_law_way_back" "_law_way_back" (defArgs (top 50)) (defBody (top 50)) (defScope (top 50)) .none kV50 dc50 pm50 an50 cd50 ct50), sl50⟩)
    (c50 : PySem.W.codeIn K cd50 "_law_way_back" = true)
    (k50 : PySem.W.keepIn K (.ref f50) = true)
    (a51 : PySem.W.nsIn K mainGlobals "_law_closed" = some (some (.ref f51)))
    (l51 : K.lookup f51 = some ⟨oc51, od51, .func (PySem.W.fnOf "_law_closed" "_law_closed" (defArgs (top 51)) (defBody (top 51)) (defScope (top 51)) .none kV51 dc51 pm51 an51 cd51 ct51), sl51⟩)
    (c51 : PySem.W.codeIn K cd51 "_law_closed" = true)
    (k51 : PySem.W.keepIn K (.ref f51) = true)
    (a52 : PySem.W.nsIn K mainGlobals "_law_ways_follow" = some (some (.ref f52)))
    (l52 : K.lookup f52 = some ⟨oc52, od52, .func (PySem.W.fnOf "_law_ways_follow" "_law_ways_follow" (defArgs (top 52)) (defBody (top 52)) (defScope (top 52)) .none kV52 dc52 pm52 an52 cd52 ct52), sl52⟩)
    (c52 : PySem.W.codeIn K cd52 "_law_ways_follow" = true)
    (k52 : PySem.W.keepIn K (.ref f52) = true)
    (a53 : PySem.W.nsIn K mainGlobals "_law_row_of_points" = some (some (.ref f53)))
    (l53 : K.lookup f53 = some ⟨oc53, od53, .func (PySem.W.fnOf "_law_row_of_points" "_law_row_of_points" (defArgs (top 53)) (defBody (top 53)) (defScope (top 53)) .none kV53 dc53 pm53 an53 cd53 ct53), sl53⟩)
    (c53 : PySem.W.codeIn K cd53 "_law_row_of_points" = true)
    (k53 : PySem.W.keepIn K (.ref f53) = true)
    (a54 : PySem.W.nsIn K mainGlobals "law" = some (some (.ref f54)))
    (l54 : K.lookup f54 = some ⟨oc54, od54, .func (PySem.W.fnOf "law" "law" (defArgs (top 54)) (defBody (top 54)) (defScope (top 54)) .none kV54 dc54 pm54 an54 cd54 ct54), sl54⟩)
    (c54 : PySem.W.codeIn K cd54 "law" = true)
    (k54 : PySem.W.keepIn K (.ref f54) = true)
    (aCNi : PySem.W.findIn K (.ref CN) "__init__" = some (some (.ref fCNi)))
    (lCNi : K.lookup fCNi = some ⟨ocCNi, odCNi, .func (PySem.W.fnOf "__init__" "Net.__init__" (defArgs (inClass (top 14) 0)) (defBody (inClass (top 14) 0)) (defScope (inClass (top 14) 0)) .none kVCNi dcCNi pmCNi anCNi cdCNi ctCNi), slCNi⟩)
    (cCNi : PySem.W.codeIn K cdCNi "Net.__init__" = true)
    (kCNi : PySem.W.keepIn K (.ref fCNi) = true)
    (iCNi : PySem.W.isFn K (.ref fCNi) = true)
    (aCNe : PySem.W.findIn K (.ref CN) "__eq__" = some (some (.ref fCNe)))
    (lCNe : K.lookup fCNe = some ⟨ocCNe, odCNe, .func (PySem.W.fnOf "__eq__" "Net.__eq__" (defArgs (inClass (top 14) 1)) (defBody (inClass (top 14) 1)) (defScope (inClass (top 14) 1)) .none kVCNe dcCNe pmCNe anCNe cdCNe ctCNe), slCNe⟩)
    (cCNe : PySem.W.codeIn K cdCNe "Net.__eq__" = true)
    (kCNe : PySem.W.keepIn K (.ref fCNe) = true)
    (iCNe : PySem.W.isFn K (.ref fCNe) = true)
    (pgCN : PySem.W.plainGet K CN Str.empty = true)
    (hdCN : PySem.W.hasDictIn K CN = true)
    (poCN : PySem.W.plainOver K CN = true)
    (saCN : PySem.W.findIn K (.ref CN) "__setattr__" = some (some (.builtin "object.__setattr__")))
    (haCN : PySem.W.findIn K (.ref CN) "__class__" = some (some (.builtin "object.__class__")))
    (hmCN : PySem.W.mroIn K CN (.type "object") = some true)
    (naCN : PySem.W.findIn K (.ref CN) "pieces" = some none)
    (mkCN : PySem.W.makesIn K CN = true)
    (kcCN : PySem.W.keepIn K (.ref CN) = true)
    (aCBi : PySem.W.findIn K (.ref CB) "__init__" = some (some (.ref fCBi)))
    (lCBi : K.lookup fCBi = some ⟨ocCBi, odCBi, .func (PySem.W.fnOf "__init__" "Book.__init__" (defArgs (inClass (top 27) 0)) (defBody (inClass (top 27) 0)) (defScope (inClass (top 27) 0)) .none kVCBi dcCBi pmCBi anCBi cdCBi ctCBi), slCBi⟩)
    (cCBi : PySem.W.codeIn K cdCBi "Book.__init__" = true)
    (kCBi : PySem.W.keepIn K (.ref fCBi) = true)
    (iCBi : PySem.W.isFn K (.ref fCBi) = true)
    (aCBe : PySem.W.findIn K (.ref CB) "__eq__" = some (some (.ref fCBe)))
    (lCBe : K.lookup fCBe = some ⟨ocCBe, odCBe, .func (PySem.W.fnOf "__eq__" "Book.__eq__" (defArgs (inClass (top 27) 1)) (defBody (inClass (top 27) 1)) (defScope (inClass (top 27) 1)) .none kVCBe dcCBe pmCBe anCBe cdCBe ctCBe), slCBe⟩)
    (cCBe : PySem.W.codeIn K cdCBe "Book.__eq__" = true)
    (kCBe : PySem.W.keepIn K (.ref fCBe) = true)
    (iCBe : PySem.W.isFn K (.ref fCBe) = true)
    (pgCB : PySem.W.plainGet K CB Str.empty = true)
    (hdCB : PySem.W.hasDictIn K CB = true)
    (poCB : PySem.W.plainOver K CB = true)
    (saCB : PySem.W.findIn K (.ref CB) "__setattr__" = some (some (.builtin "object.__setattr__")))
    (haCB : PySem.W.findIn K (.ref CB) "__class__" = some (some (.builtin "object.__class__")))
    (hmCB : PySem.W.mroIn K CB (.type "object") = some true)
    (naCB : PySem.W.findIn K (.ref CB) "kinds" = some none)
    (mkCB : PySem.W.makesIn K CB = true)
    (kcCB : PySem.W.keepIn K (.ref CB) = true)
    (hn : PySem.W.specialIn K (.builtin "object.__class__") "__get__" = some (some (.builtin "getset_descriptor.__get__")))
    (ht : PySem.W.takesIn K (.builtin "object.__class__") = some true)
    (zlen : PySem.W.nsIn K mainGlobals "len" = some none)
    (zrange : PySem.W.nsIn K mainGlobals "range" = some none)
    (zlist : PySem.W.nsIn K mainGlobals "list" = some none)
    (ztuple : PySem.W.nsIn K mainGlobals "tuple" = some none)
    (zint : PySem.W.nsIn K mainGlobals "int" = some none)
    (zbool : PySem.W.nsIn K mainGlobals "bool" = some none)
    (zmin : PySem.W.nsIn K mainGlobals "min" = some none)
    (zmax : PySem.W.nsIn K mainGlobals "max" = some none)
    (zisinstance : PySem.W.nsIn K mainGlobals "isinstance" = some none)
    (zenumerate : PySem.W.nsIn K mainGlobals "enumerate" = some none)
    (zValueError : PySem.W.nsIn K mainGlobals "ValueError" = some none)
    (aH : PySem.W.nsIn K mainGlobals "HANDLE" = some (some (.int (-2) tH)))
    (aCLi : PySem.W.findIn K (.ref CL) "__init__" = some (some (.ref fCLi)))
    (lCLi : K.lookup fCLi = some ⟨ocCLi, odCLi, .func (PySem.W.fnOf "__init__" "IsLoop.__init__" (defArgs (inClass (top 7) 0)) (defBody (inClass (top 7) 0)) (defScope (inClass (top 7) 0)) .none kVCLi dcCLi pmCLi anCLi cdCLi ctCLi), slCLi⟩)
    (cCLi : PySem.W.codeIn K cdCLi "IsLoop.__init__" = true)
    (kCLi : PySem.W.keepIn K (.ref fCLi) = true)
    (tCLi : PySem.W.typeIn K (.ref fCLi) = some (.type "function"))
    (xL : K.lookup CL = some (excClassObj nm q CL N bs [.ref CE, .type "ValueError", .type "Exception", .type "BaseException", .type "object"] true sn sub ab col dd m0 m1 m2 m3 m5 "ValueError.__new__"))
    (saCL : PySem.W.findIn K (.ref CL) "__setattr__" = some (some (.builtin "object.__setattr__")))
    (gaCL : PySem.W.findIn K (.ref CL) "__getattribute__" = some (some (.builtin "BaseException.__getattribute__")))
    (ggCL : PySem.W.findIn K (.ref CL) "__getattr__" = some none)
    (exCL : PySem.W.subIn K (.ref CL) (.type "BaseException") = some true)
    (tyCL : PySem.W.typeIn K (.ref CL) = some (.type "type"))
    (kcCL : PySem.W.keepIn K (.ref CL) = true)
    (hdCL : PySem.W.hasDictIn K CL = true)
    (icCL : PySem.W.isClsIn K CL = true)
    (ssCL : PySem.W.subIn K (.ref CL) (.ref CL) = some true)
    (haCL : PySem.W.findIn K (.ref CL) "__class__" = some (some (.builtin "object.__class__")))
    (hmCL : PySem.W.mroIn K CL (.type "object") = some true)
    (nkCL : PySem.W.findIn K (.ref CL) "kind" = some none)
    (nrCL : PySem.W.findIn K (.ref CL) "road" = some none)
    (kECL : PySem.W.kitOne K (.ref CL) (.ref CE) = some true)
    (kVCL : PySem.W.kitOne K (.ref CL) (.type "ValueError") = some true)
    (kXCL : PySem.W.kitOne K (.ref CL) (.ref CX) = some false)
    (kYCL : PySem.W.kitOne K (.ref CL) (.ref CY) = some false)
    (kZCL : PySem.W.kitOne K (.ref CL) (.ref CZ) = some false)
    : ∃ fd : FuncData, (∀ (s : Shared) (v : Value), BindsTo s fd ⟨[v], []⟩ [("script", v)]) ∧ ∀ base : Heap, K.In base → base.Ns mainGlobals mg → FnOk l.prog w K mg base CX0 12 fa fd ["script"] (spLaw K) := by
  have e := hfa.symm.trans (PySem.W.mg_of X G a54)
  cases e
  have B : Bi mg := ⟨PySem.W.mg_none_of X G zlen, PySem.W.mg_none_of X G zrange, PySem.W.mg_none_of X G zlist, PySem.W.mg_none_of X G ztuple, PySem.W.mg_none_of X G zint, PySem.W.mg_none_of X G zbool, PySem.W.mg_none_of X G zmin, PySem.W.mg_none_of X G zmax, PySem.W.mg_none_of X G zisinstance, PySem.W.mg_none_of X G zenumerate⟩
  have F1 : Fun K "frozen" "frozen" (top 1) _ _ := fun_mk l1 c1 k1
  have D1 : Dn K mg "frozen" (top 1) := ⟨_, _, F1, PySem.W.mg_of X G a1⟩
  have F2 : Fun K "is_whole" "is_whole" (top 2) _ _ := fun_mk l2 c2 k2
  have D2 : Dn K mg "is_whole" (top 2) := ⟨_, _, F2, PySem.W.mg_of X G a2⟩
  have F10 : Fun K "merged" "merged" (top 10) _ _ := fun_mk l10 c10 k10
  have D10 : Dn K mg "merged" (top 10) := ⟨_, _, F10, PySem.W.mg_of X G a10⟩
  have F11 : Fun K "joining_roads" "joining_roads" (top 11) _ _ := fun_mk l11 c11 k11
  have D11 : Dn K mg "joining_roads" (top 11) := ⟨_, _, F11, PySem.W.mg_of X G a11⟩
  have F12 : Fun K "is_below" "is_below" (top 12) _ _ := fun_mk l12 c12 k12
  have D12 : Dn K mg "is_below" (top 12) := ⟨_, _, F12, PySem.W.mg_of X G a12⟩
  have F13 : Fun K "is_piece" "is_piece" (top 13) _ _ := fun_mk l13 c13 k13
  have D13 : Dn K mg "is_piece" (top 13) := ⟨_, _, F13, PySem.W.mg_of X G a13⟩
  have F16 : Fun K "spanning" "spanning" (top 16) _ _ := fun_mk l16 c16 k16
  have D16 : Dn K mg "spanning" (top 16) := ⟨_, _, F16, PySem.W.mg_of X G a16⟩
  have F17 : Fun K "loops" "loops" (top 17) _ _ := fun_mk l17 c17 k17
  have D17 : Dn K mg "loops" (top 17) := ⟨_, _, F17, PySem.W.mg_of X G a17⟩
  have F18 : Fun K "next_places" "next_places" (top 18) _ _ := fun_mk l18 c18 k18
  have D18 : Dn K mg "next_places" (top 18) := ⟨_, _, F18, PySem.W.mg_of X G a18⟩
  have F19 : Fun K "closed_way" "closed_way" (top 19) _ _ := fun_mk l19 c19 k19
  have D19 : Dn K mg "closed_way" (top 19) := ⟨_, _, F19, PySem.W.mg_of X G a19⟩
  have F20 : Fun K "closed_ways" "closed_ways" (top 20) _ _ := fun_mk l20 c20 k20
  have D20 : Dn K mg "closed_ways" (top 20) := ⟨_, _, F20, PySem.W.mg_of X G a20⟩
  have F21 : Fun K "place_after" "place_after" (top 21) _ _ := fun_mk l21 c21 k21
  have D21 : Dn K mg "place_after" (top 21) := ⟨_, _, F21, PySem.W.mg_of X G a21⟩
  have F22 : Fun K "contracted" "contracted" (top 22) _ _ := fun_mk l22 c22 k22
  have D22 : Dn K mg "contracted" (top 22) := ⟨_, _, F22, PySem.W.mg_of X G a22⟩
  have F23 : Fun K "shrunk" "shrunk" (top 23) _ _ := fun_mk l23 c23 k23
  have D23 : Dn K mg "shrunk" (top 23) := ⟨_, _, F23, PySem.W.mg_of X G a23⟩
  have F25 : Fun K "is_target" "is_target" (top 25) _ _ := fun_mk l25 c25 k25
  have D25 : Dn K mg "is_target" (top 25) := ⟨_, _, F25, PySem.W.mg_of X G a25⟩
  have F30 : Fun K "net_book" "net_book" (top 30) _ _ := fun_mk l30 c30 k30
  have D30 : Dn K mg "net_book" (top 30) := ⟨_, _, F30, PySem.W.mg_of X G a30⟩
  have F32 : Fun K "_law_whole" "_law_whole" (top 32) _ _ := fun_mk l32 c32 k32
  have D32 : Dn K mg "_law_whole" (top 32) := ⟨_, _, F32, PySem.W.mg_of X G a32⟩
  have F33 : Fun K "_law_cell" "_law_cell" (top 33) _ _ := fun_mk l33 c33 k33
  have D33 : Dn K mg "_law_cell" (top 33) := ⟨_, _, F33, PySem.W.mg_of X G a33⟩
  have F34 : Fun K "_law_digits" "_law_digits" (top 34) _ _ := fun_mk l34 c34 k34
  have D34 : Dn K mg "_law_digits" (top 34) := ⟨_, _, F34, PySem.W.mg_of X G a34⟩
  have F35 : Fun K "_law_piece_sizes" "_law_piece_sizes" (top 35) _ _ := fun_mk l35 c35 k35
  have D35 : Dn K mg "_law_piece_sizes" (top 35) := ⟨_, _, F35, PySem.W.mg_of X G a35⟩
  have F36 : Fun K "_law_gate_kind" "_law_gate_kind" (top 36) _ _ := fun_mk l36 c36 k36
  have D36 : Dn K mg "_law_gate_kind" (top 36) := ⟨_, _, F36, PySem.W.mg_of X G a36⟩
  have F37 : Fun K "_law_piece" "_law_piece" (top 37) _ _ := fun_mk l37 c37 k37
  have D37 : Dn K mg "_law_piece" (top 37) := ⟨_, _, F37, PySem.W.mg_of X G a37⟩
  have F38 : Fun K "_law_pieces" "_law_pieces" (top 38) _ _ := fun_mk l38 c38 k38
  have D38 : Dn K mg "_law_pieces" (top 38) := ⟨_, _, F38, PySem.W.mg_of X G a38⟩
  have F39 : Fun K "_law_listed" "_law_listed" (top 39) _ _ := fun_mk l39 c39 k39
  have D39 : Dn K mg "_law_listed" (top 39) := ⟨_, _, F39, PySem.W.mg_of X G a39⟩
  have F40 : Fun K "_law_plain" "_law_plain" (top 40) _ _ := fun_mk l40 c40 k40
  have D40 : Dn K mg "_law_plain" (top 40) := ⟨_, _, F40, PySem.W.mg_of X G a40⟩
  have F41 : Fun K "_law_greedy" "_law_greedy" (top 41) _ _ := fun_mk l41 c41 k41
  have D41 : Dn K mg "_law_greedy" (top 41) := ⟨_, _, F41, PySem.W.mg_of X G a41⟩
  have F42 : Fun K "_law_names" "_law_names" (top 42) _ _ := fun_mk l42 c42 k42
  have D42 : Dn K mg "_law_names" (top 42) := ⟨_, _, F42, PySem.W.mg_of X G a42⟩
  have F43 : Fun K "_law_squeezed" "_law_squeezed" (top 43) _ _ := fun_mk l43 c43 k43
  have D43 : Dn K mg "_law_squeezed" (top 43) := ⟨_, _, F43, PySem.W.mg_of X G a43⟩
  have F44 : Fun K "_law_small" "_law_small" (top 44) _ _ := fun_mk l44 c44 k44
  have D44 : Dn K mg "_law_small" (top 44) := ⟨_, _, F44, PySem.W.mg_of X G a44⟩
  have F45 : Fun K "_law_kinds" "_law_kinds" (top 45) _ _ := fun_mk l45 c45 k45
  have D45 : Dn K mg "_law_kinds" (top 45) := ⟨_, _, F45, PySem.W.mg_of X G a45⟩
  have F46 : Fun K "_law_way_after" "_law_way_after" (top 46) _ _ := fun_mk l46 c46 k46
  have D46 : Dn K mg "_law_way_after" (top 46) := ⟨_, _, F46, PySem.W.mg_of X G a46⟩
  have F47 : Fun K "_law_is_net" "_law_is_net" (top 47) _ _ := fun_mk l47 c47 k47
  have D47 : Dn K mg "_law_is_net" (top 47) := ⟨_, _, F47, PySem.W.mg_of X G a47⟩
  have F48 : Fun K "_law_refusal" "_law_refusal" (top 48) _ _ := fun_mk l48 c48 k48
  have D48 : Dn K mg "_law_refusal" (top 48) := ⟨_, _, F48, PySem.W.mg_of X G a48⟩
  have F49 : Fun K "_law_stays" "_law_stays" (top 49) _ _ := fun_mk l49 c49 k49
  have D49 : Dn K mg "_law_stays" (top 49) := ⟨_, _, F49, PySem.W.mg_of X G a49⟩
  have F50 : Fun K "_law_way_back" "_law_way_back" (top 50) _ _ := fun_mk l50 c50 k50
  have D50 : Dn K mg "_law_way_back" (top 50) := ⟨_, _, F50, PySem.W.mg_of X G a50⟩
  have F51 : Fun K "_law_closed" "_law_closed" (top 51) _ _ := fun_mk l51 c51 k51
  have D51 : Dn K mg "_law_closed" (top 51) := ⟨_, _, F51, PySem.W.mg_of X G a51⟩
  have F52 : Fun K "_law_ways_follow" "_law_ways_follow" (top 52) _ _ := fun_mk l52 c52 k52
  have D52 : Dn K mg "_law_ways_follow" (top 52) := ⟨_, _, F52, PySem.W.mg_of X G a52⟩
  have F53 : Fun K "_law_row_of_points" "_law_row_of_points" (top 53) _ _ := fun_mk l53 c53 k53
  have D53 : Dn K mg "_law_row_of_points" (top 53) := ⟨_, _, F53, PySem.W.mg_of X G a53⟩
  have F54 : Fun K "law" "law" (top 54) _ _ := fun_mk l54 c54 k54
  have D54 : Dn K mg "law" (top 54) := ⟨_, _, F54, PySem.W.mg_of X G a54⟩
  have TN : NetT K mg CN := ⟨PySem.W.mg_of X G gCN, ⟨⟨pgCN, hdCN, poCN, saCN⟩, haCN, hn, ht, hmCN⟩, naCN, mkCN, kcCN, ⟨fCNi, _, fun_mk lCNi cCNi kCNi, aCNi, iCNi⟩, ⟨fCNe, _, fun_mk lCNe cCNe kCNe, aCNe, iCNe⟩⟩
  have TB : BookT K mg CB := ⟨PySem.W.mg_of X G gCB, ⟨⟨pgCB, hdCB, poCB, saCB⟩, haCB, hn, ht, hmCB⟩, naCB, mkCB, kcCB, ⟨fCBi, _, fun_mk lCBi cCBi kCBi, aCBi, iCBi⟩, ⟨fCBe, _, fun_mk lCBe cCBe kCBe, aCBe, iCBe⟩⟩
  have er : ErrT K CL := ⟨⟨⟨nm, q, N, bs, _, sn, sub, ab, col, dd, m0, m1, m2, m3, m5, xL, by first | rfl | decide +kernel⟩, saCL, exCL, tyCL, kcCL⟩, ⟨gaCL, ggCL, exCL, hdCL⟩, icCL, haCL, hn, ht, hmCL, exm_self exCL icCL tyCL ssCL⟩
  have TL : LoopT K mg CL := ⟨PySem.W.mg_of X G gCL, er, nkCL, nrCL, ⟨fCLi, _, fun_mk lCLi cCLi kCLi, aCLi, tCLi⟩, ⟨CE, PySem.W.mg_of X G gCE, kECL⟩, ⟨PySem.W.mg_none_of X G zValueError, kVCL⟩, ⟨CY, PySem.W.mg_of X G gCY, kYCL⟩, ⟨CX, PySem.W.mg_of X G gCX, kXCL⟩, ⟨CZ, PySem.W.mg_of X G gCZ, kZCL⟩⟩
  have hb : ∀ (s : Shared) (v : Value), BindsTo s (PySem.W.fnOf "law" "law" (defArgs (top 54)) (defBody (top 54)) (defScope (top 54)) .none kV54 dc54 pm54 an54 cd54 ct54) ⟨[v], []⟩ [("script", v)] := fun s v => .of_eq rfl
  refine ⟨PySem.W.fnOf "law" "law" (defArgs (top 54)) (defBody (top 54)) (defScope (top 54)) .none kV54 dc54 pm54 an54 cd54 ct54, hb, fun base _ _ => ?_⟩
  have hH : ∃ t, mg "HANDLE" = some (.int (-2) t) := ⟨tH, PySem.W.mg_of X G aH⟩
  exact law_ok F54 B TN TB TL hH D1 D2 D10 D11 D12 D13 D16 D17 D18 D19 D20 D21 D22 D23 D25 D30 D32 D33 D34 D35 D36 D37 D38 D39 D40 D41 D42 D43 D44 D45 D46 D47 D48 D49 D50 D51 D52 D53 D54
theorem walk {l : PySem.W.OpenLaw} {q : Program} {loose : List Str} {XP : (Str → Option Value) → Heap → Prop} {YP : World → Heap → Prop} {d : DefRec} {K : Params → PySem.W.Frag} (hn : l.most = some 63) (hdf : d.params.defaults = [])
    (hY : ∀ (w : World) (h : Heap), YP w h → (K w.params).In h)
    (F : ∀ (w : World) (mg : Str → Option Value) (fa : Addr) (h : Heap), (K w.params).In h → h.Ns mainGlobals mg → mg d.name = some (.ref fa) →
      ∃ fd : FuncData, (∀ (s : Shared) (u : Value), BindsTo s fd ⟨[u], []⟩ [("script", u)]) ∧ ∀ base : Heap, (K w.params).In base → base.Ns mainGlobals mg → FnOk l.prog w (K w.params) mg base CX0 12 fa fd ["script"] (spLaw (K w.params))) :
    PySem.W.WalkO q loose XP YP l.row.toRowW d [] (fun f vs => PySem.call f vs) :=
  L2.walk_of (n := 63) (k := 12) (x := "script") (CX := fun _ => CX0) (sp := fun w => spLaw (K w.params)) hn (by decide) hdf ⟨rfl, by decide, by decide⟩ hY F (fun _ _ a ns hl _ hS => ⟨a, ns, rfl, hS, hl, fun _ => rfl⟩) fun _ _ _ _ _ z => z
end K86
open PySem PySem.W PyProof.Rows
set_option maxRecDepth 100000 in
set_option maxHeartbeats 0 in
theorem PySem.Challenge.cw_endsalike_k86_contracted_roads_holds : PySem.Challenge.rw_endsalike_k86_contracted_roads.Holds := by
  w_on; o_law; k_head; (case hw => w_witness2)
  k_fill
  refine K86.walk (l := PySem.Challenge.rw_endsalike_k86_contracted_roads) rfl rfl (fun w h Y => PySem.W.kIn_of Y) ?F
  case F =>
    intro w mg fa h KX G hmg
    refine' K86.all_mk KX G hmg ?gCN ?gCB ?gCE ?gCL ?gCX ?gCY ?gCZ ?a1 ?l1 ?c1 ?k1 ?a2 ?l2 ?c2 ?k2 ?a10 ?l10 ?c10 ?k10 ?a11 ?l11 ?c11 ?k11 ?a12 ?l12 ?c12 ?k12 ?a13 ?l13 ?c13 ?k13 ?a16 ?l16 ?c16 ?k16 ?a17 ?l17 ?c17 ?k17 ?a18 ?l18 ?c18 ?k18 ?a19 ?l19 ?c19 ?k19 ?a20 ?l20 ?c20 ?k20 ?a21 ?l21 ?c21 ?k21 ?a22 ?l22 ?c22 ?k22 ?a23 ?l23 ?c23 ?k23 ?a25 ?l25 ?c25 ?k25 ?a30 ?l30 ?c30 ?k30 ?a32 ?l32 ?c32 ?k32 ?a33 ?l33 ?c33 ?k33 ?a34 ?l34 ?c34 ?k34 ?a35 ?l35 ?c35 ?k35 ?a36 ?l36 ?c36 ?k36 ?a37 ?l37 ?c37 ?k37 ?a38 ?l38 ?c38 ?k38 ?a39 ?l39 ?c39 ?k39 ?a40 ?l40 ?c40 ?k40 ?a41 ?l41 ?c41 ?k41 ?a42 ?l42 ?c42 ?k42 ?a43 ?l43 ?c43 ?k43 ?a44 ?l44 ?c44 ?k44 ?a45 ?l45 ?c45 ?k45 ?a46 ?l46 ?c46 ?k46 ?a47 ?l47 ?c47 ?k47 ?a48 ?l48 ?c48 ?k48 ?a49 ?l49 ?c49 ?k49 ?a50 ?l50 ?c50 ?k50 ?a51 ?l51 ?c51 ?k51 ?a52 ?l52 ?c52 ?k52 ?a53 ?l53 ?c53 ?k53 ?a54 ?l54 ?c54 ?k54 ?aCNi ?lCNi ?cCNi ?kCNi ?iCNi ?aCNe ?lCNe ?cCNe ?kCNe ?iCNe ?pgCN ?hdCN ?poCN ?saCN ?haCN ?hmCN ?naCN ?mkCN ?kcCN ?aCBi ?lCBi ?cCBi ?kCBi ?iCBi ?aCBe ?lCBe ?cCBe ?kCBe ?iCBe ?pgCB ?hdCB ?poCB ?saCB ?haCB ?hmCB ?naCB ?mkCB ?kcCB ?hn ?ht ?zlen ?zrange ?zlist ?ztuple ?zint ?zbool ?zmin ?zmax ?zisinstance ?zenumerate ?zValueError ?aH ?aCLi ?lCLi ?cCLi ?kCLi ?tCLi ?xL ?saCL ?gaCL ?ggCL ?exCL ?tyCL ?kcCL ?hdCL ?icCL ?ssCL ?haCL ?hmCL ?nkCL ?nrCL ?kECL ?kVCL ?kXCL ?kYCL ?kZCL
    (case gCN => first | k_is | rfl)
    (case gCB => first | k_is | rfl)
    (case gCE => first | k_is | rfl)
    (case gCL => first | k_is | rfl)
    (case gCX => first | k_is | rfl)
    (case gCY => first | k_is | rfl)
    (case gCZ => first | k_is | rfl)
    (case a1 => first | k_is | rfl)
    (case l1 => first | k_is | rfl)
    (case c1 => first | k_is | rfl)
    (case k1 => first | k_is | rfl)
    (case a2 => first | k_is | rfl)
    (case l2 => first | k_is | rfl)
    (case c2 => first | k_is | rfl)
    (case k2 => first | k_is | rfl)
    (case a10 => first | k_is | rfl)
    (case l10 => first | k_is | rfl)
    (case c10 => first | k_is | rfl)
    (case k10 => first | k_is | rfl)
    (case a11 => first | k_is | rfl)
    (case l11 => first | k_is | rfl)
    (case c11 => first | k_is | rfl)
    (case k11 => first | k_is | rfl)
    (case a12 => first | k_is | rfl)
    (case l12 => first | k_is | rfl)
    (case c12 => first | k_is | rfl)
    (case k12 => first | k_is | rfl)
    (case a13 => first | k_is | rfl)
    (case l13 => first | k_is | rfl)
    (case c13 => first | k_is | rfl)
    (case k13 => first | k_is | rfl)
    (case a16 => first | k_is | rfl)
    (case l16 => first | k_is | rfl)
    (case c16 => first | k_is | rfl)
    (case k16 => first | k_is | rfl)
    (case a17 => first | k_is | rfl)
    (case l17 => first | k_is | rfl)
    (case c17 => first | k_is | rfl)
    (case k17 => first | k_is | rfl)
    (case a18 => first | k_is | rfl)
    (case l18 => first | k_is | rfl)
    (case c18 => first | k_is | rfl)
    (case k18 => first | k_is | rfl)
    (case a19 => first | k_is | rfl)
    (case l19 => first | k_is | rfl)
    (case c19 => first | k_is | rfl)
    (case k19 => first | k_is | rfl)
    (case a20 => first | k_is | rfl)
    (case l20 => first | k_is | rfl)
    (case c20 => first | k_is | rfl)
    (case k20 => first | k_is | rfl)
    (case a21 => first | k_is | rfl)
    (case l21 => first | k_is | rfl)
    (case c21 => first | k_is | rfl)
    (case k21 => first | k_is | rfl)
    (case a22 => first | k_is | rfl)
    (case l22 => first | k_is | rfl)
    (case c22 => first | k_is | rfl)
    (case k22 => first | k_is | rfl)
    (case a23 => first | k_is | rfl)
    (case l23 => first | k_is | rfl)
    (case c23 => first | k_is | rfl)
    (case k23 => first | k_is | rfl)
    (case a25 => first | k_is | rfl)
    (case l25 => first | k_is | rfl)
    (case c25 => first | k_is | rfl)
    (case k25 => first | k_is | rfl)
    (case a30 => first | k_is | rfl)
    (case l30 => first | k_is | rfl)
    (case c30 => first | k_is | rfl)
    (case k30 => first | k_is | rfl)
    (case a32 => first | k_is | rfl)
    (case l32 => first | k_is | rfl)
    (case c32 => first | k_is | rfl)
    (case k32 => first | k_is | rfl)
    (case a33 => first | k_is | rfl)
    (case l33 => first | k_is | rfl)
    (case c33 => first | k_is | rfl)
    (case k33 => first | k_is | rfl)
    (case a34 => first | k_is | rfl)
    (case l34 => first | k_is | rfl)
    (case c34 => first | k_is | rfl)
    (case k34 => first | k_is | rfl)
    (case a35 => first | k_is | rfl)
    (case l35 => first | k_is | rfl)
    (case c35 => first | k_is | rfl)
    (case k35 => first | k_is | rfl)
    (case a36 => first | k_is | rfl)
    (case l36 => first | k_is | rfl)
    (case c36 => first | k_is | rfl)
    (case k36 => first | k_is | rfl)
    (case a37 => first | k_is | rfl)
    (case l37 => first | k_is | rfl)
    (case c37 => first | k_is | rfl)
    (case k37 => first | k_is | rfl)
    (case a38 => first | k_is | rfl)
    (case l38 => first | k_is | rfl)
    (case c38 => first | k_is | rfl)
    (case k38 => first | k_is | rfl)
    (case a39 => first | k_is | rfl)
    (case l39 => first | k_is | rfl)
    (case c39 => first | k_is | rfl)
    (case k39 => first | k_is | rfl)
    (case a40 => first | k_is | rfl)
    (case l40 => first | k_is | rfl)
    (case c40 => first | k_is | rfl)
    (case k40 => first | k_is | rfl)
    (case a41 => first | k_is | rfl)
    (case l41 => first | k_is | rfl)
    (case c41 => first | k_is | rfl)
    (case k41 => first | k_is | rfl)
    (case a42 => first | k_is | rfl)
    (case l42 => first | k_is | rfl)
    (case c42 => first | k_is | rfl)
    (case k42 => first | k_is | rfl)
    (case a43 => first | k_is | rfl)
    (case l43 => first | k_is | rfl)
    (case c43 => first | k_is | rfl)
    (case k43 => first | k_is | rfl)
    (case a44 => first | k_is | rfl)
    (case l44 => first | k_is | rfl)
    (case c44 => first | k_is | rfl)
    (case k44 => first | k_is | rfl)
    (case a45 => first | k_is | rfl)
    (case l45 => first | k_is | rfl)
    (case c45 => first | k_is | rfl)
    (case k45 => first | k_is | rfl)
    (case a46 => first | k_is | rfl)
    (case l46 => first | k_is | rfl)
    (case c46 => first | k_is | rfl)
    (case k46 => first | k_is | rfl)
    (case a47 => first | k_is | rfl)
    (case l47 => first | k_is | rfl)
    (case c47 => first | k_is | rfl)
    (case k47 => first | k_is | rfl)
    (case a48 => first | k_is | rfl)
    (case l48 => first | k_is | rfl)
    (case c48 => first | k_is | rfl)
    (case k48 => first | k_is | rfl)
    (case a49 => first | k_is | rfl)
    (case l49 => first | k_is | rfl)
    (case c49 => first | k_is | rfl)
    (case k49 => first | k_is | rfl)
    (case a50 => first | k_is | rfl)
    (case l50 => first | k_is | rfl)
    (case c50 => first | k_is | rfl)
    (case k50 => first | k_is | rfl)
    (case a51 => first | k_is | rfl)
    (case l51 => first | k_is | rfl)
    (case c51 => first | k_is | rfl)
    (case k51 => first | k_is | rfl)
    (case a52 => first | k_is | rfl)
    (case l52 => first | k_is | rfl)
    (case c52 => first | k_is | rfl)
    (case k52 => first | k_is | rfl)
    (case a53 => first | k_is | rfl)
    (case l53 => first | k_is | rfl)
    (case c53 => first | k_is | rfl)
    (case k53 => first | k_is | rfl)
    (case a54 => first | k_is | rfl)
    (case l54 => first | k_is | rfl)
    (case c54 => first | k_is | rfl)
    (case k54 => first | k_is | rfl)
    (case aCNi => first | k_is | rfl)
    (case lCNi => first | k_is | rfl)
    (case cCNi => first | k_is | rfl)
    (case kCNi => first | k_is | rfl)
    (case iCNi => first | k_is | rfl)
    (case aCNe => first | k_is | rfl)
    (case lCNe => first | k_is | rfl)
    (case cCNe => first | k_is | rfl)
    (case kCNe => first | k_is | rfl)
    (case iCNe => first | k_is | rfl)
    (case pgCN => first | k_is | rfl)
    (case hdCN => first | k_is | rfl)
    (case poCN => first | k_is | rfl)
    (case saCN => first | k_is | rfl)
    (case haCN => first | k_is | rfl)
    (case hmCN => first | k_is | rfl)
    (case naCN => first | k_is | rfl)
    (case mkCN => first | k_is | rfl)
    (case kcCN => first | k_is | rfl)
    (case aCBi => first | k_is | rfl)
    (case lCBi => first | k_is | rfl)
    (case cCBi => first | k_is | rfl)
    (case kCBi => first | k_is | rfl)
    (case iCBi => first | k_is | rfl)
    (case aCBe => first | k_is | rfl)
    (case lCBe => first | k_is | rfl)
    (case cCBe => first | k_is | rfl)
    (case kCBe => first | k_is | rfl)
    (case iCBe => first | k_is | rfl)
    (case pgCB => first | k_is | rfl)
    (case hdCB => first | k_is | rfl)
    (case poCB => first | k_is | rfl)
    (case saCB => first | k_is | rfl)
    (case haCB => first | k_is | rfl)
    (case hmCB => first | k_is | rfl)
    (case naCB => first | k_is | rfl)
    (case mkCB => first | k_is | rfl)
    (case kcCB => first | k_is | rfl)
    (case hn => first | k_is | rfl)
    (case ht => first | k_is | rfl)
    (case zlen => first | k_is | rfl)
    (case zrange => first | k_is | rfl)
    (case zlist => first | k_is | rfl)
    (case ztuple => first | k_is | rfl)
    (case zint => first | k_is | rfl)
    (case zbool => first | k_is | rfl)
    (case zmin => first | k_is | rfl)
    (case zmax => first | k_is | rfl)
    (case zisinstance => first | k_is | rfl)
    (case zenumerate => first | k_is | rfl)
    (case zValueError => first | k_is | rfl)
    (case aH => first | k_is | rfl)
    (case aCLi => first | k_is | rfl)
    (case lCLi => first | k_is | rfl)
    (case cCLi => first | k_is | rfl)
    (case kCLi => first | k_is | rfl)
    (case tCLi => first | k_is | rfl)
    (case xL => first | k_is | rfl)
    (case saCL => first | k_is | rfl)
    (case gaCL => first | k_is | rfl)
    (case ggCL => first | k_is | rfl)
    (case exCL => first | k_is | rfl)
    (case tyCL => first | k_is | rfl)
    (case kcCL => first | k_is | rfl)
    (case hdCL => first | k_is | rfl)
    (case icCL => first | k_is | rfl)
    (case ssCL => first | k_is | rfl)
    (case haCL => first | k_is | rfl)
    (case hmCL => first | k_is | rfl)
    (case nkCL => first | k_is | rfl)
    (case nrCL => first | k_is | rfl)
    (case kECL => first | k_is | rfl)
    (case kVCL => first | k_is | rfl)
    (case kXCL => first | k_is | rfl)
    (case kYCL => first | k_is | rfl)
    (case kZCL => first | k_is | rfl)
