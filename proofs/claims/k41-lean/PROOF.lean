import PyProof.Rows.All
import Wide.All
import OpenK.AllK
import Wide.FinOn
import HandS.ForMost
import HandS.TupAny
import HandS.TupMul
import HandS.Style
import HandS.Deep
import HandS.IsInst
import HandS.Walk
import HandS.Exc
import HandS.ExcOwn
import HandS.ExcIs
import HandS.WordsExc
import PyProof.EqAt
import PyProof.EqKinds
import PyProof.TupleCall
import HandS.Zip
import KE.GoesMore
import KE.GoesEnum
import HandS.Set
import HandS.Strs
import HandS.More
import KE.SortData
import KE.SortKeyHeap
import KE.LtData
import HandS.Text
import HandS.Dict
import HandS.DictTup
import PyProof.Rows.StrRev
import KE.KRevSl
import HandS.TryOnly
import PyProof.StrLawsJoin
import HandS.SortKw
import KE.KDictSum
import KE.KDictList
import KE.KDictWalk
import HandS.Comp
import KE.GoesComp
import KE.GoesRaise
import KE.KAsSuite
import HandS.SetFor
import HandS.TupSets
import PySem.Challenge.RW_wordmelt_k41_whole_lean
set_option Elab.async false
set_option linter.all false
set_option maxRecDepth 100000
set_option maxHeartbeats 4000000
set_option Elab.async false
set_option linter.all false
set_option maxRecDepth 100000
set_option maxHeartbeats 4000000
/-! WmA: values without a heap (D), slots (Sl), the state (Env), what an expression gives (E), tests (T), argument lists (EA). -/
namespace Wm
open PySem PySem.Spec PyProof.Rows L2

def sx (w : List Nat) : Str := ⟨w.toArray⟩
theorem sx_len (w : List Nat) : (sx w).length = w.length := by simp [sx, Str.length]
theorem sx_inj {u w : List Nat} (h : sx u = sx w) : u = w := by
  have := congrArg (fun s : Str => s.cps.toList) h
  simpa [sx] using this
theorem sx_of (x : Str) : sx x.cps.toList = x := by cases x; simp [sx]
theorem sx_list (w : List Nat) : (sx w).cps.toList = w := by simp [sx]
theorem sx_app (u w : List Nat) : sx u ++ sx w = sx (u ++ w) := by
  show (⟨(sx u).cps ++ (sx w).cps⟩ : Str) = _
  simp [sx]

inductive D where
  | non | bl (b : Bool) | int (i : Int) | str (w : List Nat) | tup (xs : List D) | lst (xs : List D) | scr (ns : List Int)

mutual
def Dat (K : PySem.W.Frag) (H : Hp) : D → V → Prop
  | .non, v => v = .non
  | .bl b, v => v = .bl b
  | .int i, v => v = .int i
  | .str w, v => v = .str (sx w)
  | .tup xs, v => ∃ a vs, v = .ref a ∧ SqT K H a vs ∧ Dats K H xs vs
  | .lst xs, v => ∃ a vs, v = .ref a ∧ H a = some (.lst vs) ∧ Dats K H xs vs
  | .scr ns, v => ∃ a, v = .ref a ∧ SqL K H a (ns.map V.int)
def Dats (K : PySem.W.Frag) (H : Hp) : List D → List V → Prop
  | [], vs => vs = []
  | d :: ds, vs => ∃ v r, vs = v :: r ∧ Dat K H d v ∧ Dats K H ds r
end

theorem Same.rd {H H' : Hp} {a : Addr} {u : HO} (e : Same H H') (h : Rd H a u) : Rd H' a u := by
  rcases h with h | ⟨o, h⟩
  · exact Or.inl (e a _ h)
  · exact Or.inr ⟨o, e a _ h⟩
theorem Same.sqt {K : PySem.W.Frag} {H H' : Hp} {a : Addr} {xs : List V} (e : Same H H') (h : SqT K H a xs) : SqT K H' a xs := by
  rcases h with h | h
  · exact Or.inl (Same.rd e h)
  · exact Or.inr h
theorem Same.new {H : Hp} {p : Addr} {o : HO} (h : H p = none) : Same H (upd H p o) := fun a u e => by
  rw [upd_ne (ne_of_none e h)]
  exact e
/-- the same object laid in both -/
theorem Same.both {H H' : Hp} {p : Addr} {o : HO} (e : Same H H') (h : H p = none) : Same (upd H p o) (upd H' p o) := fun a u ha => by
  by_cases h1 : a = p
  · subst h1; rw [upd_same] at ha ⊢; exact ha
  · rw [upd_ne h1] at ha ⊢; exact e a u ha
/-- an object that H does not know changes -/
theorem Same.mut {H H' : Hp} {p : Addr} {o : HO} (e : Same H H') (h : H p = none) : Same H (upd H' p o) := fun a u ha => by
  rw [upd_ne (ne_of_none ha h)]
  exact e a u ha

mutual
theorem Dat.mono {K : PySem.W.Frag} {H H' : Hp} (e : Same H H') : ∀ (d : D) {v : V}, Dat K H d v → Dat K H' d v
  | .non, _, h => by simpa only [Dat] using h
  | .bl _, _, h => by simpa only [Dat] using h
  | .int _, _, h => by simpa only [Dat] using h
  | .str _, _, h => by simpa only [Dat] using h
  | .tup xs, _, h => by
    simp only [Dat] at h ⊢
    obtain ⟨a, vs, h1, h2, h3⟩ := h
    exact ⟨a, vs, h1, Same.sqt e h2, Dats.mono e xs h3⟩
  | .lst xs, _, h => by
    simp only [Dat] at h ⊢
    obtain ⟨a, vs, h1, h2, h3⟩ := h
    exact ⟨a, vs, h1, e _ _ h2, Dats.mono e xs h3⟩
  | .scr ns, _, h => by
    simp only [Dat] at h ⊢
    obtain ⟨a, h1, h2⟩ := h
    exact ⟨a, h1, Same.seq e h2⟩
theorem Dats.mono {K : PySem.W.Frag} {H H' : Hp} (e : Same H H') : ∀ (ds : List D) {vs : List V}, Dats K H ds vs → Dats K H' ds vs
  | [], _, h => by simpa only [Dats] using h
  | d :: ds, _, h => by
    simp only [Dats] at h ⊢
    obtain ⟨v, r, h1, h2, h3⟩ := h
    exact ⟨v, r, h1, Dat.mono e d h2, Dats.mono e ds h3⟩
end

section
variable {K : PySem.W.Frag} {H H' : Hp}
theorem dat_non {v : V} : Dat K H .non v ↔ v = .non := by simp only [Dat]
theorem dat_bl {b : Bool} {v : V} : Dat K H (.bl b) v ↔ v = .bl b := by simp only [Dat]
theorem dat_int {i : Int} {v : V} : Dat K H (.int i) v ↔ v = .int i := by simp only [Dat]
theorem dat_str {w : List Nat} {v : V} : Dat K H (.str w) v ↔ v = .str (sx w) := by simp only [Dat]
theorem dat_tup {xs : List D} {v : V} : Dat K H (.tup xs) v ↔ ∃ a vs, v = .ref a ∧ SqT K H a vs ∧ Dats K H xs vs := by simp only [Dat]
theorem dat_lst {xs : List D} {v : V} : Dat K H (.lst xs) v ↔ ∃ a vs, v = .ref a ∧ H a = some (.lst vs) ∧ Dats K H xs vs := by simp only [Dat]
theorem dat_scr {ns : List Int} {v : V} : Dat K H (.scr ns) v ↔ ∃ a, v = .ref a ∧ SqL K H a (ns.map V.int) := by simp only [Dat]
theorem dats_nil {vs : List V} : Dats K H [] vs ↔ vs = [] := by simp only [Dats]
theorem dats_cons {d : D} {ds : List D} {vs : List V} : Dats K H (d :: ds) vs ↔ ∃ v r, vs = v :: r ∧ Dat K H d v ∧ Dats K H ds r := by simp only [Dats]
theorem Dats.one {d : D} {v : V} (h : Dat K H d v) : Dats K H [d] [v] := dats_cons.mpr ⟨v, [], rfl, h, dats_nil.mpr rfl⟩
theorem Dats.cons {d : D} {ds : List D} {v : V} {vs : List V} (h : Dat K H d v) (t : Dats K H ds vs) : Dats K H (d :: ds) (v :: vs) := dats_cons.mpr ⟨v, vs, rfl, h, t⟩
theorem Dats.nil : Dats K H [] [] := dats_nil.mpr rfl
theorem Dats.len : ∀ {ds : List D} {vs : List V}, Dats K H ds vs → ds.length = vs.length
  | [], vs, h => by rw [dats_nil.mp h]; rfl
  | d :: ds, vs, h => by
    obtain ⟨v, r, rfl, _, t⟩ := dats_cons.mp h
    show ds.length + 1 = r.length + 1
    rw [Dats.len t]
theorem Dats.app : ∀ {ds es : List D} {vs ws : List V}, Dats K H ds vs → Dats K H es ws → Dats K H (ds ++ es) (vs ++ ws)
  | [], es, vs, ws, h, g => by rw [dats_nil.mp h]; exact g
  | d :: ds, es, vs, ws, h, g => by
    obtain ⟨v, r, rfl, h1, t⟩ := dats_cons.mp h
    exact Dats.cons h1 (Dats.app t g)
theorem Dats.get : ∀ {ds : List D} {vs : List V} {i : Nat} {v : V}, Dats K H ds vs → vs[i]? = some v → ∃ d, ds[i]? = some d ∧ Dat K H d v
  | [], vs, i, v, h, e => by rw [dats_nil.mp h] at e; simp at e
  | d :: ds, vs, i, v, h, e => by
    obtain ⟨u, r, rfl, h1, t⟩ := dats_cons.mp h
    cases i with
    | zero => simp at e; subst e; exact ⟨d, by simp, h1⟩
    | succ i =>
      obtain ⟨d', q1, q2⟩ := Dats.get t (i := i) (v := v) (by simpa using e)
      exact ⟨d', by simpa using q1, q2⟩
theorem Dats.at : ∀ {ds : List D} {vs : List V} {i : Nat} {d : D}, Dats K H ds vs → ds[i]? = some d → ∃ v, vs[i]? = some v ∧ Dat K H d v
  | [], vs, i, v, h, e => by simp at e
  | d :: ds, vs, i, d', h, e => by
    obtain ⟨u, r, rfl, h1, t⟩ := dats_cons.mp h
    cases i with
    | zero => simp at e; subst e; exact ⟨u, by simp, h1⟩
    | succ i =>
      obtain ⟨v', q1, q2⟩ := Dats.at t (i := i) (d := d') (by simpa using e)
      exact ⟨v', by simpa using q1, q2⟩
theorem Dats.drop : ∀ {ds : List D} {vs : List V} (n : Nat), Dats K H ds vs → Dats K H (ds.drop n) (vs.drop n)
  | ds, vs, 0, h => h
  | [], vs, n + 1, h => by rw [dats_nil.mp h]; exact Dats.nil
  | d :: ds, vs, n + 1, h => by
    obtain ⟨u, r, rfl, h1, t⟩ := dats_cons.mp h
    exact Dats.drop n t
theorem Dats.take : ∀ {ds : List D} {vs : List V} (n : Nat), Dats K H ds vs → Dats K H (ds.take n) (vs.take n)
  | ds, vs, 0, h => Dats.nil
  | [], vs, n + 1, h => by rw [dats_nil.mp h]; exact Dats.nil
  | d :: ds, vs, n + 1, h => by
    obtain ⟨u, r, rfl, h1, t⟩ := dats_cons.mp h
    exact Dats.cons h1 (Dats.take n t)
theorem Dats.dropLast {ds : List D} {vs : List V} (h : Dats K H ds vs) : Dats K H ds.dropLast vs.dropLast := by
  rw [List.dropLast_eq_take, List.dropLast_eq_take, h.len]
  exact Dats.take _ h
theorem Dats.rev : ∀ {ds : List D} {vs : List V}, Dats K H ds vs → Dats K H ds.reverse vs.reverse
  | [], vs, h => by rw [dats_nil.mp h]; exact Dats.nil
  | d :: ds, vs, h => by
    obtain ⟨u, r, rfl, h1, t⟩ := dats_cons.mp h
    rw [List.reverse_cons, List.reverse_cons]
    exact Dats.app (Dats.rev t) (Dats.one h1)
theorem Dats.strs : ∀ {ws : List (List Nat)} {vs : List V}, Dats K H (ws.map D.str) vs ↔ vs = ws.map fun w => V.str (sx w)
  | [], vs => dats_nil
  | w :: ws, vs => by
    rw [List.map_cons, dats_cons, List.map_cons]
    constructor
    · rintro ⟨v, r, rfl, h1, h2⟩
      rw [dat_str.mp h1, Dats.strs.mp h2]
    · rintro rfl
      exact ⟨_, _, rfl, dat_str.mpr rfl, Dats.strs.mpr rfl⟩
theorem Dats.bls : ∀ {ws : List Bool} {vs : List V}, Dats K H (ws.map D.bl) vs ↔ vs = ws.map V.bl
  | [], vs => dats_nil
  | w :: ws, vs => by
    rw [List.map_cons, dats_cons, List.map_cons]
    constructor
    · rintro ⟨v, r, rfl, h1, h2⟩
      rw [dat_bl.mp h1, Dats.bls.mp h2]
    · rintro rfl
      exact ⟨_, _, rfl, dat_bl.mpr rfl, Dats.bls.mpr rfl⟩
end

/-! ### slots -/
inductive Sl where
  | no
  /-- a value that is not changed -/
  | d (x : D)
  /-- a list, a dict of texts, a dict of pairs of texts that this def made and changes (the dicts' values True) -/
  | ol (xs : List D) | od (ks : List (List Nat)) | ot (ks : List (List Nat × List Nat))
  /-- the exception that a suite holds, at a -/
  | ex (a : Addr)
def Sl.own : Sl → Bool
  | .no => false
  | .d _ => false
  | .ex _ => false
  | _ => true
def odKv (ks : List (List Nat)) : List (Key × V) := ks.map fun w => (Sum.inr (sx w), V.bl true)
def otKv (ks : List (List Nat × List Nat)) : List (List Key × V) := ks.map fun w => ([Sum.inr (sx w.1), Sum.inr (sx w.2)], V.bl true)
/-- what a slot holds: He the heap at the entry, H0 the part that is not changed any more -/
def SlOk (K : PySem.W.Frag) (He H0 H : Hp) (o : Option (Option V)) : Sl → Prop
  | .no => True
  | .d x => ∃ v, o = some (some v) ∧ Dat K H0 x v
  | .ol xs => ∃ p vs, o = some (some (.ref p)) ∧ He p = none ∧ H0 p = none ∧ H p = some (.lst vs) ∧ Dats K H0 xs vs
  | .od ks => ∃ p, o = some (some (.ref p)) ∧ He p = none ∧ H0 p = none ∧ H p = some (.dK (odKv ks))
  | .ot ks => ∃ p, o = some (some (.ref p)) ∧ He p = none ∧ H0 p = none ∧ H p = some (.dT (otKv ks))
  | .ex a => o = some (some (.ref a))
/-- an object that is no tuple stands there -/
def NT (o : Option HO) : Prop := ∃ u, o = some u ∧ ∀ vs, u ≠ .tup vs
theorem NT.ne {o : Option HO} (h : NT o) : o ≠ none := fun e => by
  obtain ⟨u, h1, _⟩ := h
  rw [e] at h1; cases h1
theorem NT.mono {H H' : Hp} {a : Addr} (h : NT (H a)) (e : Same H H') : NT (H' a) := by
  obtain ⟨u, h1, h2⟩ := h
  exact ⟨u, e a u h1, h2⟩
structure Env (K : PySem.W.Frag) (He H0e : Hp) (ds : List Sl) (H0 : Hp) (σ : L2.St) (H : Hp) : Prop where
  ex : Same H0 H
  exE : Same He H
  ex0 : Same H0e H0
  sep : ∀ a, NT (He a) → H0e a = none → H0 a = none
  len : ds.length = σ.length
  sl : ∀ (i : Nat) (s : Sl), ds[i]? = some s → SlOk K He H0 H σ[i]? s
  own : ∀ (i j : Nat) (s t : Sl), i ≠ j → ds[i]? = some s → ds[j]? = some t → s.own = true → t.own = true → σ[i]? ≠ σ[j]?

section
variable {K : PySem.W.Frag} {He H0e H0 H H' : Hp} {ds : List Sl} {σ : L2.St}
/-- the owned part of a slot lies at p -/
theorem SlOk.addr {o : Option (Option V)} {s : Sl} (h : SlOk K He H0 H o s) (w : s.own = true) : ∃ p, o = some (some (.ref p)) ∧ He p = none ∧ H0 p = none ∧ H p ≠ none := by
  cases s with
  | no => cases w
  | d x => cases w
  | ex a => cases w
  | ol xs => obtain ⟨p, vs, h1, h2, h3, h4, _⟩ := h; exact ⟨p, h1, h2, h3, by rw [h4]; simp⟩
  | od ks => obtain ⟨p, h1, h2, h3, h4⟩ := h; exact ⟨p, h1, h2, h3, by rw [h4]; simp⟩
  | ot ks => obtain ⟨p, h1, h2, h3, h4⟩ := h; exact ⟨p, h1, h2, h3, by rw [h4]; simp⟩
theorem SlOk.nt {o : Option (Option V)} {s : Sl} {p : Addr} (h : SlOk K He H0 H o s) (w : s.own = true) (hp : o = some (some (.ref p))) : NT (H p) := by
  cases s with
  | no => cases w
  | d x => cases w
  | ex a => cases w
  | ol xs =>
    obtain ⟨q, vs, h1, h2, h3, h4, _⟩ := h
    rw [hp] at h1
    obtain rfl : p = q := by simpa using h1
    exact ⟨_, h4, fun _ z => by cases z⟩
  | od ks =>
    obtain ⟨q, h1, h2, h3, h4⟩ := h
    rw [hp] at h1
    obtain rfl : p = q := by simpa using h1
    exact ⟨_, h4, fun _ z => by cases z⟩
  | ot ks =>
    obtain ⟨q, h1, h2, h3, h4⟩ := h
    rw [hp] at h1
    obtain rfl : p = q := by simpa using h1
    exact ⟨_, h4, fun _ z => by cases z⟩
theorem SlOk.mono {o : Option (Option V)} {s : Sl} {H0' H' : Hp} (h : SlOk K He H0 H o s) (e0 : Same H0 H0') (k : ∀ p, o = some (some (.ref p)) → s.own = true → H0' p = none ∧ H' p = H p) : SlOk K He H0' H' o s := by
  cases s with
  | no => trivial
  | d x => obtain ⟨v, h1, h2⟩ := h; exact ⟨v, h1, Dat.mono e0 x h2⟩
  | ex a => exact h
  | ol xs =>
    obtain ⟨p, vs, h1, h2, h3, h4, h5⟩ := h
    obtain ⟨k1, k2⟩ := k p h1 rfl
    exact ⟨p, vs, h1, h2, k1, by rw [k2]; exact h4, Dats.mono e0 xs h5⟩
  | od ks =>
    obtain ⟨p, h1, h2, h3, h4⟩ := h
    obtain ⟨k1, k2⟩ := k p h1 rfl
    exact ⟨p, h1, h2, k1, by rw [k2]; exact h4⟩
  | ot ks =>
    obtain ⟨p, h1, h2, h3, h4⟩ := h
    obtain ⟨k1, k2⟩ := k p h1 rfl
    exact ⟨p, h1, h2, k1, by rw [k2]; exact h4⟩
theorem Env.h0none (I : Env K He H0e ds H0 σ H) {p : Addr} (h : H p = none) : H0 p = none := Same.free I.ex h
theorem Env.henone (I : Env K He H0e ds H0 σ H) {p : Addr} (h : H p = none) : He p = none := Same.free I.exE h
/-- a new object, unchanged from now on -/
theorem Env.new (I : Env K He H0e ds H0 σ H) {p : Addr} {o : HO} (h : H p = none) : Env K He H0e ds (upd H0 p o) σ (upd H p o) where
  ex := Same.both I.ex (I.h0none h)
  exE := I.exE.trans (Same.new h)
  ex0 := I.ex0.trans (Same.new (I.h0none h))
  sep := fun a h1 h2 => by
    have ne : a ≠ p := fun e => h1.ne (by rw [e]; exact I.henone h)
    rw [upd_ne ne]; exact I.sep a h1 h2
  len := I.len
  sl := fun i s hs => (I.sl i s hs).mono (Same.new (I.h0none h)) fun q hq w => by
    obtain ⟨q', e1, e2, e3, e4⟩ := (I.sl i s hs).addr w
    rw [hq] at e1
    obtain rfl : q = q' := by simpa using e1
    have ne : q ≠ p := fun e => e4 (by rw [e]; exact h)
    exact ⟨by rw [upd_ne ne]; exact e3, by rw [upd_ne ne]⟩
  own := I.own
/-- a call has run: H1 and H01 as it promises -/
theorem Env.after (I : Env K He H0e ds H0 σ H) {H01 H1 : Hp} (e0 : Same H0 H01) (e : Same H H1) (e1 : Same H01 H1) (s : ∀ a, NT (H a) → H0 a = none → H01 a = none) : Env K He H0e ds H01 σ H1 where
  ex := e1
  exE := I.exE.trans e
  ex0 := I.ex0.trans e0
  sep := fun a h1 h2 => s a (h1.mono I.exE) (I.sep a h1 h2)
  len := I.len
  sl := fun i sl hs => (I.sl i sl hs).mono e0 fun q hq w => by
    obtain ⟨q', e1, e2, e3, e4⟩ := (I.sl i sl hs).addr w
    rw [hq] at e1
    obtain rfl : q = q' := by simpa using e1
    refine ⟨s q ((I.sl i sl hs).nt w hq) e3, ?_⟩
    cases h : H q with
    | none => exact absurd h e4
    | some o => exact e q o h
  own := I.own
end

/-! ### expressions -/
def W (X : Cx) (e : Expr) : TE := fun σ H Q => ∀ (pins : List (Addr × Obj)) (s : Shared), Inv X pins σ H s → wpAny (model X.prog X.w) X.A (eval e X.env) (EP X pins σ Q) X.xe s
theorem pe_W {X : Cx} {e : Expr} : PE X e (W X e) := ⟨fun pins s _ _ _ I h => h pins s I⟩
theorem W_of {X : Cx} {e : Expr} {t : TE} (h : PE X e t) {σ : L2.St} {H : Hp} {Q : VK} (q : t σ H Q) : W X e σ H Q := fun pins s I => h.run pins s σ H Q I q
/-- the expression e gives d, over slots ds; nothing of what stood is changed -/
structure E (X : Cx) (ds : List Sl) (e : Expr) (d : D) : Prop where
  run : ∀ (He H0e H0 : Hp) (σ : L2.St) (H : Hp), Env X.K He H0e ds H0 σ H → ∀ Q : VK,
  (∀ v H0' H', Env X.K He H0e ds H0' σ H' → Same H0 H0' → Dat X.K H0' d v → Q v H') → W X e σ H Q
instance {X : Cx} {ds : List Sl} {e : Expr} {d : D} : CoeFun (E X ds e d) fun _ => ∀ (He H0e H0 : Hp) (σ : L2.St) (H : Hp), Env X.K He H0e ds H0 σ H → ∀ Q : VK,
  (∀ v H0' H', Env X.K He H0e ds H0' σ H' → Same H0 H0' → Dat X.K H0' d v → Q v H') → W X e σ H Q := ⟨E.run⟩
/-- it gives a new list that nobody else knows -/
structure EL (X : Cx) (ds : List Sl) (e : Expr) (xs : List D) : Prop where
  run : ∀ (He H0e H0 : Hp) (σ : L2.St) (H : Hp), Env X.K He H0e ds H0 σ H → ∀ Q : VK,
  (∀ p vs H0' H', Env X.K He H0e ds H0' σ H' → Same H0 H0' → H' p = none → Dats X.K H0' xs vs → Q (.ref p) (upd H' p (.lst vs))) → W X e σ H Q
instance {X : Cx} {ds : List Sl} {e : Expr} {xs : List D} : CoeFun (EL X ds e xs) fun _ => ∀ (He H0e H0 : Hp) (σ : L2.St) (H : Hp), Env X.K He H0e ds H0 σ H → ∀ Q : VK,
  (∀ p vs H0' H', Env X.K He H0e ds H0' σ H' → Same H0 H0' → H' p = none → Dats X.K H0' xs vs → Q (.ref p) (upd H' p (.lst vs))) → W X e σ H Q := ⟨EL.run⟩
theorem EL.e {X : Cx} {ds : List Sl} {e : Expr} {xs : List D} (h : EL X ds e xs) : E X ds e (.lst xs) := E.mk fun He H0e H0 σ H I Q q =>
  h He H0e H0 σ H I Q fun p vs H0' H' I' e0 hp hd => q _ (upd H0' p (.lst vs)) _ (I'.new hp) (e0.trans (Same.new (I'.h0none hp))) (dat_lst.mpr ⟨p, vs, rfl, upd_same, Dats.mono (Same.new (I'.h0none hp)) xs hd⟩)
theorem E.cast {X : Cx} {ds : List Sl} {e : Expr} {d d' : D} (h : E X ds e d) (q : d = d') : E X ds e d' := q ▸ h
theorem EL.cast {X : Cx} {ds : List Sl} {e : Expr} {d d' : List D} (h : EL X ds e d) (q : d = d') : EL X ds e d' := q ▸ h
/-- by a rule of the layer -/
theorem E.of {X : Cx} {ds : List Sl} {e : Expr} {d : D} {t : TE} (h : PE X e t) (q : ∀ (He H0e H0 : Hp) (σ : L2.St) (H : Hp), Env X.K He H0e ds H0 σ H → ∀ Q : VK,
  (∀ v H0' H', Env X.K He H0e ds H0' σ H' → Same H0 H0' → Dat X.K H0' d v → Q v H') → t σ H Q) : E X ds e d := E.mk fun He H0e H0 σ H I Q k => W_of h (q He H0e H0 σ H I Q k)
theorem EL.of {X : Cx} {ds : List Sl} {e : Expr} {d : List D} {t : TE} (h : PE X e t) (q : ∀ (He H0e H0 : Hp) (σ : L2.St) (H : Hp), Env X.K He H0e ds H0 σ H → ∀ Q : VK,
  (∀ p vs H0' H', Env X.K He H0e ds H0' σ H' → Same H0 H0' → H' p = none → Dats X.K H0' d vs → Q (.ref p) (upd H' p (.lst vs))) → t σ H Q) : EL X ds e d := EL.mk fun He H0e H0 σ H I Q k => W_of h (q He H0e H0 σ H I Q k)

/-! tests -/
def WT (X : Cx) (e : Expr) : TT := fun σ H Q => ∀ (pins : List (Addr × Obj)) (s : Shared), Inv X pins σ H s → wpAny (model X.prog X.w) X.A (isTrue e X.env (eval e X.env)) (TP X pins σ Q) X.xe s
theorem pt_WT {X : Cx} {e : Expr} : PT X e (WT X e) := ⟨fun pins s _ _ _ I h => h pins s I⟩
theorem WT_of {X : Cx} {e : Expr} {t : TT} (h : PT X e t) {σ : L2.St} {H : Hp} {Q : Bool → Hp → Prop} (q : t σ H Q) : WT X e σ H Q := fun pins s I => h.run pins s σ H Q I q
structure T (X : Cx) (ds : List Sl) (e : Expr) (b : Bool) : Prop where
  run : ∀ (He H0e H0 : Hp) (σ : L2.St) (H : Hp), Env X.K He H0e ds H0 σ H → ∀ Q : Bool → Hp → Prop,
  (∀ H0' H', Env X.K He H0e ds H0' σ H' → Same H0 H0' → Q b H') → WT X e σ H Q
instance {X : Cx} {ds : List Sl} {e : Expr} {b : Bool} : CoeFun (T X ds e b) fun _ => ∀ (He H0e H0 : Hp) (σ : L2.St) (H : Hp), Env X.K He H0e ds H0 σ H → ∀ Q : Bool → Hp → Prop,
  (∀ H0' H', Env X.K He H0e ds H0' σ H' → Same H0 H0' → Q b H') → WT X e σ H Q := ⟨T.run⟩
theorem T.of {X : Cx} {ds : List Sl} {e : Expr} {b : Bool} {t : TT} (h : PT X e t) (q : ∀ (He H0e H0 : Hp) (σ : L2.St) (H : Hp), Env X.K He H0e ds H0 σ H → ∀ Q : Bool → Hp → Prop,
  (∀ H0' H', Env X.K He H0e ds H0' σ H' → Same H0 H0' → Q b H') → t σ H Q) : T X ds e b := T.mk fun He H0e H0 σ H I Q k => WT_of h (q He H0e H0 σ H I Q k)
theorem T.cast {X : Cx} {ds : List Sl} {e : Expr} {d d' : Bool} (h : T X ds e d) (q : d = d') : T X ds e d' := q ▸ h
/-- whatever the whole is: the parts of and, or -/
def WW (X : Cx) (e : Expr) : TT := fun σ H Q => ∀ (whole : Sem Value) (pins : List (Addr × Obj)) (s : Shared), Inv X pins σ H s → wpAny (model X.prog X.w) X.A (isTrue e X.env whole) (TP X pins σ Q) X.xe s
theorem pw_WW {X : Cx} {e : Expr} : PW X e (WW X e) := ⟨fun wh pins s _ _ _ I h => h wh pins s I⟩
theorem WW_of {X : Cx} {e : Expr} {t : TT} (h : PW X e t) {σ : L2.St} {H : Hp} {Q : Bool → Hp → Prop} (q : t σ H Q) : WW X e σ H Q := fun wh pins s I => h.run wh pins s σ H Q I q
structure TW (X : Cx) (ds : List Sl) (e : Expr) (b : Bool) : Prop where
  run : ∀ (He H0e H0 : Hp) (σ : L2.St) (H : Hp), Env X.K He H0e ds H0 σ H → ∀ Q : Bool → Hp → Prop,
  (∀ H0' H', Env X.K He H0e ds H0' σ H' → Same H0 H0' → Q b H') → WW X e σ H Q
instance {X : Cx} {ds : List Sl} {e : Expr} {b : Bool} : CoeFun (TW X ds e b) fun _ => ∀ (He H0e H0 : Hp) (σ : L2.St) (H : Hp), Env X.K He H0e ds H0 σ H → ∀ Q : Bool → Hp → Prop,
  (∀ H0' H', Env X.K He H0e ds H0' σ H' → Same H0 H0' → Q b H') → WW X e σ H Q := ⟨TW.run⟩
theorem TW.t {X : Cx} {ds : List Sl} {e : Expr} {b : Bool} (h : TW X ds e b) : T X ds e b := T.of pw_WW.pt h.run

/-! argument lists -/
def WA (X : Cx) (es : List Expr) : TA := fun σ H Q => ∀ (pos : Pos) (pins : List (Addr × Obj)) (s : Shared), Inv X pins σ H s → wpAny (model X.prog X.w) X.A (spliced (backTo pos (starEach es X.env))) (AP X pins σ Q) X.xe s
theorem pa_WA {X : Cx} {es : List Expr} : PA X es (WA X es) := ⟨fun pos pins s _ _ _ I h => h pos pins s I⟩
theorem WA_of {X : Cx} {es : List Expr} {t : TA} (h : PA X es t) {σ : L2.St} {H : Hp} {Q : List V → Hp → Prop} (q : t σ H Q) : WA X es σ H Q := fun pos pins s I => h.run pos pins s σ H Q I q
structure EA (X : Cx) (ds : List Sl) (es : List Expr) (xs : List D) : Prop where
  run : ∀ (He H0e H0 : Hp) (σ : L2.St) (H : Hp), Env X.K He H0e ds H0 σ H → ∀ Q : List V → Hp → Prop,
  (∀ vs H0' H', Env X.K He H0e ds H0' σ H' → Same H0 H0' → Dats X.K H0' xs vs → Q vs H') → WA X es σ H Q
instance {X : Cx} {ds : List Sl} {es : List Expr} {xs : List D} : CoeFun (EA X ds es xs) fun _ => ∀ (He H0e H0 : Hp) (σ : L2.St) (H : Hp), Env X.K He H0e ds H0 σ H → ∀ Q : List V → Hp → Prop,
  (∀ vs H0' H', Env X.K He H0e ds H0' σ H' → Same H0 H0' → Dats X.K H0' xs vs → Q vs H') → WA X es σ H Q := ⟨EA.run⟩

section
variable {X : Cx} {ds : List Sl} {e a b c : Expr} {es : List Expr} {d x y z : D} {xs : List D} {pos : Pos}
theorem EA.nil : EA X ds [] [] := EA.mk fun He H0e H0 σ H I Q q => WA_of pa_nil (q [] H0 H I (Same.refl _) Dats.nil)
theorem EA.cons (h : E X ds e x) (t : EA X ds es xs) (hs : starEach (e :: es) X.env = (false, eval e X.env) :: starEach es X.env := by rfl) : EA X ds (e :: es) (x :: xs) := EA.mk fun He H0e H0 σ H I Q q =>
  WA_of (pa_cons pe_W pa_WA hs) (h He H0e H0 σ H I _ fun v H1 H' I1 e1 d1 => t He H0e H1 σ H' I1 _ fun vs H2 H'' I2 e2 d2 => q (v :: vs) H2 H'' I2 (e1.trans e2) (Dats.cons (Dat.mono e2 x d1) d2))

/-! names and constants -/
theorem E.var (i : Nat) {n : Str} (hs : ds[i]? = some (.d x)) (hN : X.N[i]? = some n := by rfl) (hv : Vis X.env.scope n := by first | exact Or.inl rfl | exact Or.inr (Or.inl rfl) | exact Or.inr (Or.inr rfl)) (hd : (n == ("__debug__" : Str)) = false := by decide)
    (hcd : (n == ("__classdict__" : Str)) = false := by decide) : E X ds (.Name n pos) x := E.of (pe_var hN hv hd hcd) fun He H0e H0 σ H I Q q => by
  obtain ⟨v, h1, h2⟩ := I.sl i _ hs
  exact ⟨v, h1, q v H0 H I (Same.refl _) h2⟩
theorem E.int {i j} : E X ds (.Constant (.int i) j pos) (.int i) := E.of pe_int fun He H0e H0 σ H I Q q => q _ H0 H I (Same.refl _) (dat_int.mpr rfl)
theorem E.bl {i j} : E X ds (.Constant (.bool i) j pos) (.bl i) := E.of pe_bl fun He H0e H0 σ H I Q q => q _ H0 H I (Same.refl _) (dat_bl.mpr rfl)
theorem E.non {j} : E X ds (.Constant .none j pos) .non := E.of pe_non fun He H0e H0 σ H I Q q => q _ H0 H I (Same.refl _) (dat_non.mpr rfl)
theorem E.str {i : Str} {j} {w : List Nat} (h : i = sx w) : E X ds (.Constant (.str i) j pos) (.str w) := E.of pe_str fun He H0e H0 σ H I Q q => q _ H0 H I (Same.refl _) (dat_str.mpr (by rw [h]))

/-! displays -/
theorem E.tup {j} (h : EA X ds es xs) (hl : xs.length ≤ 1000) : E X ds (.Tuple es j pos) (.tup xs) := E.of (pe_tup pa_WA) fun He H0e H0 σ H I Q q =>
  h He H0e H0 σ H I _ fun vs H1 H' I1 e1 d1 => ⟨by rw [← d1.len]; exact Nat.le_of_lt (small1000 hl), fun p hp => q _ (upd H1 p (.tup vs)) _ (I1.new hp) (e1.trans (Same.new (I1.h0none hp)))
    (dat_tup.mpr ⟨p, vs, rfl, SqT.of upd_same, Dats.mono (Same.new (I1.h0none hp)) xs d1⟩)⟩
theorem EL.disp (h : EA X ds es xs) (hl : xs.length ≤ 1000) : EL X ds (.List es pos) xs := EL.of (pe_lst pa_WA) fun He H0e H0 σ H I Q q =>
  h He H0e H0 σ H I _ fun vs H1 H' I1 e1 d1 => ⟨by rw [← d1.len]; exact Nat.le_of_lt (small1000 hl), fun p hp => q p vs H1 H' I1 e1 hp d1⟩

/-! operators by their values -/
/-- f of x and y gives z -/
def Op2 (X : Cx) (f : Value → Value → Sem Value) (x y z : D) : Prop := ∃ r : R2, OpR X f r ∧ ∀ (He H0e H0 : Hp) (ds : List Sl) (σ : L2.St) (H : Hp), Env X.K He H0e ds H0 σ H → ∀ u v, Dat X.K H0 x u → Dat X.K H0 y v → ∀ Q : VK,
  (∀ v H0' H', Env X.K He H0e ds H0' σ H' → Same H0 H0' → Dat X.K H0' z v → Q v H') → r u v H Q
theorem E.bin {op : Operator} (ha : E X ds a x) (hb : E X ds b y) (ho : Op2 X (binaryOp op) x y z) : E X ds (.BinOp a op b pos) z := by
  obtain ⟨r, h1, h2⟩ := ho
  exact E.of (pe_op h1 pe_W pe_W) fun He H0e H0 σ H I Q q => ha He H0e H0 σ H I _ fun v H1 H' I1 e1 d1 => hb He H0e H1 σ H' I1 _ fun u H2 H'' I2 e2 d2 =>
    h2 He H0e H2 ds σ H'' I2 v u (Dat.mono e2 x d1) d2 Q fun w H3 H3' I3 e3 d3 => q w H3 H3' I3 ((e1.trans e2).trans e3) d3
theorem E.cmp {op : CmpOp} (ha : E X ds a x) (hb : E X ds b y) (ho : Op2 X (compareOp op) x y z) (hm : behindInMarks op b = false := by first | exact nomark _ | rfl) : E X ds (.Compare a [op] [b] pos) z := by
  obtain ⟨r, h1, h2⟩ := ho
  exact E.of (pe_cmpR h1 pe_W pe_W hm) fun He H0e H0 σ H I Q q => ha He H0e H0 σ H I _ fun v H1 H' I1 e1 d1 => hb He H0e H1 σ H' I1 _ fun u H2 H'' I2 e2 d2 =>
    h2 He H0e H2 ds σ H'' I2 v u (Dat.mono e2 x d1) d2 Q fun w H3 H3' I3 e3 d3 => q w H3 H3' I3 ((e1.trans e2).trans e3) d3
theorem T.cmp {op : CmpOp} {k : Bool} (ha : E X ds a x) (hb : E X ds b y) (ho : Op2 X (compareOp op) x y (.bl k)) (hm : behindInMarks op b = false := by first | exact nomark _ | rfl) : T X ds (.Compare a [op] [b] pos) k := by
  obtain ⟨r, h1, h2⟩ := ho
  exact T.of (pt_cmpR h1 pe_W pe_W hm) fun He H0e H0 σ H I Q q => ha He H0e H0 σ H I _ fun v H1 H' I1 e1 d1 => hb He H0e H1 σ H' I1 _ fun u H2 H'' I2 e2 d2 =>
    h2 He H0e H2 ds σ H'' I2 v u (Dat.mono e2 x d1) d2 _ fun w H3 H3' I3 e3 d3 => ⟨k, dat_bl.mp d3, q H3 H3' I3 ((e1.trans e2).trans e3)⟩
/-- a < b < c -/
theorem T.chain {op op' : CmpOp} {k l : Bool} (ha : E X ds a x) (hb : E X ds b y) (hc : E X ds c z) (ho : Op2 X (compareOp op) x y (.bl k)) (ho' : Op2 X (compareOp op') y z (.bl l)) (hm : lastMarks [op, op'] [b, c] = false := by with_unfolding_all rfl) : T X ds (.Compare a [op, op'] [b, c] pos) (k && l) := by
  obtain ⟨r, h1, h2⟩ := ho
  obtain ⟨r', h1', h2'⟩ := ho'
  refine T.of (pt_chain h1 h1' pe_W pe_W pe_W hm) fun He H0e H0 σ H I Q q => ha He H0e H0 σ H I _ fun v H1 H' I1 e1 d1 => hb He H0e H1 σ H' I1 _ fun u H2 H'' I2 e2 d2 =>
    h2 He H0e H2 ds σ H'' I2 v u (Dat.mono e2 x d1) d2 _ fun w H3 H3' I3 e3 d3 => ⟨k, dat_bl.mp d3, ?_⟩
  cases k with
  | false => exact iteF ⟨false, rfl, q H3 H3' I3 ((e1.trans e2).trans e3)⟩
  | true => exact iteT (hc He H0e H3 σ H3' I3 _ fun t H4 H4' I4 e4 d4 => h2' He H0e H4 ds σ H4' I4 u t (Dat.mono (e3.trans e4) y d2) d4 _ fun w H5 H5' I5 e5 d5 => ⟨l, dat_bl.mp d5, q H5 H5' I5 ((((e1.trans e2).trans e3).trans e4).trans e5)⟩)
end
end Wm

set_option Elab.async false
set_option linter.all false
set_option maxRecDepth 100000
set_option maxHeartbeats 4000000
/-! WmB: operators, comparisons, subscripts, calls, by values. -/
namespace Wm
open PySem PySem.Spec PyProof.Rows L2

/-! what every def may count on -/
structure BiOf (A : Around) (mg : Str → Option Value) (calm : Bool) : Prop where
  calm : calm = true
  un : A.units + 128 < cLine
  hd : A.handled = none
  len : mg "len" = none
  range : mg "range" = none
  tuple : mg "tuple" = none
  list : mg "list" = none
  set : mg "set" = none
  sorted : mg "sorted" = none
  enumerate : mg "enumerate" = none
  zip : mg "zip" = none
  min : mg "min" = none
  any : mg "any" = none
  all : mg "all" = none
  isinstance : mg "isinstance" = none
  int : mg "int" = none
  bool : mg "bool" = none
  str : mg "str" = none
abbrev Bi (X : Cx) : Prop := BiOf X.A X.mg X.calm

section
variable {X : Cx}
theorem Op2.of {f : Value → Value → Sem Value} {x y z : D} {r : R2} (h : OpR X f r) (q : ∀ (H0 H : Hp), Same H0 H → ∀ u v, Dat X.K H0 x u → Dat X.K H0 y v → ∀ Q : VK, (∀ v, Dat X.K H0 z v → Q v H) → r u v H Q) : Op2 X f x y z :=
  ⟨r, h, fun He H0e H0 ds σ H I u v hu hv Q k => q H0 H I.ex u v hu hv Q fun w hw => k w H0 H I (Same.refl _) hw⟩
theorem Op2.cast {f : Value → Value → Sem Value} {x y z z' : D} (h : Op2 X f x y z) (q : z = z') : Op2 X f x y z' := q ▸ h
theorem Op2.add {i j : Int} : Op2 X (binaryOp .Add) (.int i) (.int j) (.int (i + j)) := Op2.of op_add fun H0 H e u v hu hv Q k => by
  rw [dat_int] at hu hv; subst hu hv; exact ⟨i, j, rfl, rfl, k _ (dat_int.mpr rfl)⟩
theorem Op2.sub {i j : Int} : Op2 X (binaryOp .Sub) (.int i) (.int j) (.int (i - j)) := Op2.of op_sub fun H0 H e u v hu hv Q k => by
  rw [dat_int] at hu hv; subst hu hv; exact ⟨i, j, rfl, rfl, k _ (dat_int.mpr rfl)⟩
theorem Op2.mul {i j : Int} (h : CMul i j) : Op2 X (binaryOp .Mult) (.int i) (.int j) (.int (i * j)) := Op2.of op_mul fun H0 H e u v hu hv Q k => by
  rw [dat_int] at hu hv; subst hu hv; exact ⟨i, j, rfl, rfl, h, k _ (dat_int.mpr rfl)⟩
theorem Op2.mod {i j : Int} (h : 0 < j) : Op2 X (binaryOp .Mod) (.int i) (.int j) (.int (i % j)) := Op2.of op_mod fun H0 H e u v hu hv Q k => by
  rw [dat_int] at hu hv; subst hu hv; exact ⟨i, j, rfl, rfl, h, k _ (dat_int.mpr rfl)⟩
theorem Op2.div {i j : Int} (h : 0 < j ∧ j < 1073741824) : Op2 X (binaryOp .FloorDiv) (.int i) (.int j) (.int (i / j)) := Op2.of op_fdiv fun H0 H e u v hu hv Q k => by
  rw [dat_int] at hu hv; subst hu hv; exact ⟨i, j, rfl, rfl, h, k _ (dat_int.mpr rfl)⟩
theorem Op2.addS {a b : List Nat} (h : a.length + b.length ≤ 16777216) : Op2 X (binaryOp .Add) (.str a) (.str b) (.str (a ++ b)) := Op2.of op_add_str fun H0 H e u v hu hv Q k => by
  rw [dat_str] at hu hv; subst hu hv; exact ⟨_, _, rfl, rfl, by rw [sx_len, sx_len, sizeLine_eq]; exact h, k _ (dat_str.mpr (by rw [sx_app]))⟩
/-- comparisons of ints -/
theorem Op2.lt {i j : Int} : Op2 X (compareOp .Lt) (.int i) (.int j) (.bl (decide (i < j))) := Op2.of op_lt fun H0 H e u v hu hv Q k => by
  rw [dat_int] at hu hv; subst hu hv; exact ⟨i, j, rfl, rfl, k _ (dat_bl.mpr rfl)⟩
theorem Op2.le {i j : Int} : Op2 X (compareOp .LtE) (.int i) (.int j) (.bl (decide (i ≤ j))) := Op2.of op_le fun H0 H e u v hu hv Q k => by
  rw [dat_int] at hu hv; subst hu hv; exact ⟨i, j, rfl, rfl, k _ (dat_bl.mpr rfl)⟩
theorem Op2.gt {i j : Int} : Op2 X (compareOp .Gt) (.int i) (.int j) (.bl (decide (j < i))) := Op2.of op_gt fun H0 H e u v hu hv Q k => by
  rw [dat_int] at hu hv; subst hu hv; exact ⟨i, j, rfl, rfl, k _ (dat_bl.mpr rfl)⟩
theorem Op2.ge {i j : Int} : Op2 X (compareOp .GtE) (.int i) (.int j) (.bl (decide (j ≤ i))) := Op2.of op_ge fun H0 H e u v hu hv Q k => by
  rw [dat_int] at hu hv; subst hu hv; exact ⟨i, j, rfl, rfl, k _ (dat_bl.mpr rfl)⟩
theorem Op2.eqI {i j : Int} : Op2 X (compareOp .Eq) (.int i) (.int j) (.bl (decide (i = j))) := Op2.of op_eq fun H0 H e u v hu hv Q k => by
  rw [dat_int] at hu hv; subst hu hv; exact ⟨rfl, k _ (dat_bl.mpr (by simp))⟩
theorem Op2.neI {i j : Int} : Op2 X (compareOp .NotEq) (.int i) (.int j) (.bl (!decide (i = j))) := Op2.of op_ne fun H0 H e u v hu hv Q k => by
  rw [dat_int] at hu hv; subst hu hv; exact ⟨rfl, k _ (dat_bl.mpr (by simp))⟩
theorem Op2.eqB {i j : Bool} : Op2 X (compareOp .Eq) (.bl i) (.bl j) (.bl (decide (i = j))) := Op2.of op_eq fun H0 H e u v hu hv Q k => by
  rw [dat_bl] at hu hv; subst hu hv; exact ⟨rfl, k _ (dat_bl.mpr (by simp))⟩
theorem Op2.neB {i j : Bool} : Op2 X (compareOp .NotEq) (.bl i) (.bl j) (.bl (!decide (i = j))) := Op2.of op_ne fun H0 H e u v hu hv Q k => by
  rw [dat_bl] at hu hv; subst hu hv; exact ⟨rfl, k _ (dat_bl.mpr (by simp))⟩
theorem sx_eq {a b : List Nat} : (sx a = sx b) = (a = b) := propext ⟨sx_inj, fun h => by rw [h]⟩
theorem Op2.eqS {i j : List Nat} : Op2 X (compareOp .Eq) (.str i) (.str j) (.bl (decide (i = j))) := Op2.of op_eq fun H0 H e u v hu hv Q k => by
  rw [dat_str] at hu hv; subst hu hv; exact ⟨rfl, k _ (dat_bl.mpr (by simp [sx_eq]))⟩
theorem Op2.neS {i j : List Nat} : Op2 X (compareOp .NotEq) (.str i) (.str j) (.bl (!decide (i = j))) := Op2.of op_ne fun H0 H e u v hu hv Q k => by
  rw [dat_str] at hu hv; subst hu hv; exact ⟨rfl, k _ (dat_bl.mpr (by simp [sx_eq]))⟩
def D.isN : D → Bool
  | .non => true
  | _ => false
theorem Dat.isN {K : PySem.W.Frag} {H : Hp} {d : D} {v : V} (h : Dat K H d v) : decide (v = .non) = d.isN := by
  cases d with
  | non => rw [dat_non.mp h]; rfl
  | bl _ => rw [dat_bl.mp h]; rfl
  | int _ => rw [dat_int.mp h]; rfl
  | str _ => rw [dat_str.mp h]; rfl
  | tup _ => obtain ⟨a, vs, rfl, _⟩ := dat_tup.mp h; rfl
  | lst _ => obtain ⟨a, vs, rfl, _⟩ := dat_lst.mp h; rfl
  | scr _ => obtain ⟨a, rfl, _⟩ := dat_scr.mp h; rfl
theorem Op2.isN {d : D} : Op2 X (compareOp .Is) d .non (.bl d.isN) := Op2.of op_isN fun H0 H e u v hu hv Q k => by
  rw [dat_non] at hv; exact ⟨hv, k _ (dat_bl.mpr (by rw [hu.isN]))⟩
theorem Op2.notN {d : D} : Op2 X (compareOp .IsNot) d .non (.bl (!d.isN)) := Op2.of op_notN fun H0 H e u v hu hv Q k => by
  rw [dat_non] at hv; exact ⟨hv, k _ (dat_bl.mpr (by rw [hu.isN]))⟩

/-! == of data -/
mutual
def pyd : D → PyData
  | .non => .none
  | .bl b => .bool b
  | .int i => .int i
  | .str w => .str (sx w)
  | .tup xs => .tuple (pyds xs)
  | .lst xs => .list (pyds xs)
  | .scr ns => .list (ns.map PyData.int)
def pyds : List D → List PyData
  | [] => []
  | d :: ds => pyd d :: pyds ds
end
theorem dpAll_ints {K : PySem.W.Frag} {H : Hp} : ∀ ns : List Int, DpAll K H (ns.map V.int) (ns.map PyData.int)
  | [] => .nil
  | n :: ns => .cons (.int n) (dpAll_ints ns)
mutual
theorem Dat.dp {K : PySem.W.Frag} {H : Hp} : ∀ (d : D) {v : V}, Dat K H d v → Dp K H v (pyd d)
  | .non, _, h => by rw [dat_non.mp h, pyd]; exact .non
  | .bl _, _, h => by rw [dat_bl.mp h, pyd]; exact .bl _
  | .int _, _, h => by rw [dat_int.mp h, pyd]; exact .int _
  | .str _, _, h => by rw [dat_str.mp h, pyd]; exact .str _
  | .tup xs, _, h => by
    obtain ⟨a, vs, rfl, h1, h2⟩ := dat_tup.mp h
    rw [pyd]; exact .tup h1 (Dats.dp xs h2)
  | .lst xs, _, h => by
    obtain ⟨a, vs, rfl, h1, h2⟩ := dat_lst.mp h
    rw [pyd]; exact .lst (SqL.of h1) (Dats.dp xs h2)
  | .scr ns, _, h => by
    obtain ⟨a, rfl, h1⟩ := dat_scr.mp h
    rw [pyd]; exact .lst h1 (dpAll_ints ns)
theorem Dats.dp {K : PySem.W.Frag} {H : Hp} : ∀ (ds : List D) {vs : List V}, Dats K H ds vs → DpAll K H vs (pyds ds)
  | [], _, h => by rw [dats_nil.mp h, pyds]; exact .nil
  | d :: ds, _, h => by
    obtain ⟨v, r, rfl, h1, h2⟩ := dats_cons.mp h
    rw [pyds]; exact .cons (Dat.dp d h1) (Dats.dp ds h2)
end
/-- signs of Python, not deeper than n -/
def fine : Nat → D → Bool
  | _, .str w => w.all fun c => decide (c < 1114112)
  | 0, .tup _ => false
  | 0, .lst _ => false
  | n + 1, .tup xs => xs.all (fine n)
  | n + 1, .lst xs => xs.all (fine n)
  | _, .scr _ => false
  | _, _ => true
theorem sx_ok {w : List Nat} (h : (w.all fun c => decide (c < 1114112)) = true) : PyData.strOk (sx w) = true := by
  unfold PyData.strOk sx
  show (w.toArray.all fun c => decide (c < 1114112)) = true
  rw [List.all_toArray]; exact h
theorem fine_lay : ∀ (n : Nat) (d : D), fine n d = true → (pyd d).canLay0 = true ∧ (pyd d).depth ≤ n := by
  intro n
  induction n with
  | zero =>
    intro d h
    cases d with
    | non => simp [pyd, PyData.canLay0, PyData.depth]
    | bl _ => simp [pyd, PyData.canLay0, PyData.depth]
    | int _ => simp [pyd, PyData.canLay0, PyData.depth]
    | str w => simp only [pyd, PyData.canLay0, PyData.depth]; exact ⟨sx_ok (by simpa only [fine] using h), Nat.le_refl _⟩
    | tup _ => simp [fine] at h
    | lst _ => simp [fine] at h
    | scr _ => simp [fine] at h
  | succ n ih =>
    have all : ∀ xs : List D, xs.all (fine n) = true → PyData.canLayAll0 (pyds xs) = true ∧ PyData.depthAll (pyds xs) ≤ n := by
      intro xs
      induction xs with
      | nil => intro _; simp [pyds, PyData.canLayAll0, PyData.depthAll]
      | cons x xs ih2 =>
        intro h
        rw [List.all_cons, Bool.and_eq_true] at h
        obtain ⟨a1, a2⟩ := ih x h.1
        obtain ⟨b1, b2⟩ := ih2 h.2
        simp only [pyds, PyData.canLayAll0, PyData.depthAll, a1, b1, Bool.and_self, true_and]
        exact Nat.max_le.mpr ⟨a2, b2⟩
    intro d h
    cases d with
    | non => simp [pyd, PyData.canLay0, PyData.depth]
    | bl _ => simp [pyd, PyData.canLay0, PyData.depth]
    | int _ => simp [pyd, PyData.canLay0, PyData.depth]
    | str w => simp only [pyd, PyData.canLay0, PyData.depth]; exact ⟨sx_ok (by simpa only [fine] using h), Nat.zero_le _⟩
    | tup xs =>
      obtain ⟨h1, h2⟩ := all xs (by simpa only [fine] using h)
      simp only [pyd, PyData.canLay0, PyData.depth]; exact ⟨h1, Nat.succ_le_succ h2⟩
    | lst xs =>
      obtain ⟨h1, h2⟩ := all xs (by simpa only [fine] using h)
      simp only [pyd, PyData.canLay0, PyData.depth]; exact ⟨h1, Nat.succ_le_succ h2⟩
    | scr _ => simp [fine] at h
theorem fine_shaped {d : D} (h : fine 64 d = true) : SeqAt.shaped (pyd d) = true := by
  obtain ⟨h1, h2⟩ := fine_lay 64 d h
  unfold SeqAt.shaped
  rw [h1, decide_eq_true h2]; rfl
def D.eqv (x y : D) : Bool := PyData.eqv (pyd x) (pyd y)
theorem Op2.eqD (B : Bi X) {x y : D} (hx : fine 64 x = true) (hy : fine 64 y = true) : Op2 X (compareOp .Eq) x y (.bl (D.eqv x y)) := Op2.of (op_eqD (by have := B.un; omega)) fun H0 H e u v hu hv Q k =>
  ⟨_, _, Dat.dp x (Dat.mono e x hu), Dat.dp y (Dat.mono e y hv), fine_shaped hx, fine_shaped hy, k _ (dat_bl.mpr rfl)⟩
theorem Op2.neD (B : Bi X) {x y : D} (hx : fine 64 x = true) (hy : fine 64 y = true) : Op2 X (compareOp .NotEq) x y (.bl (!D.eqv x y)) := Op2.of (op_neD (by have := B.un; omega)) fun H0 H e u v hu hv Q k =>
  ⟨_, _, Dat.dp x (Dat.mono e x hu), Dat.dp y (Dat.mono e y hv), fine_shaped hx, fine_shaped hy, k _ (dat_bl.mpr rfl)⟩
/-! no truths within: == is being the same -/
mutual
def nob : D → Bool
  | .bl _ => false
  | .scr _ => false
  | .tup xs => nobs xs
  | .lst xs => nobs xs
  | _ => true
def nobs : List D → Bool
  | [] => true
  | d :: ds => nob d && nobs ds
end
mutual
theorem eqv_nob : ∀ (x y : D), nob x = true → nob y = true → (PyData.eqv (pyd x) (pyd y) = true ↔ x = y)
  | .non, y, hx, hy => by cases y <;> simp_all [pyd, PyData.eqv, nob]
  | .bl _, y, hx, hy => by simp [nob] at hx
  | .int _, y, hx, hy => by cases y <;> simp_all [pyd, PyData.eqv, nob]
  | .str w, y, hx, hy => by cases y <;> simp_all [pyd, PyData.eqv, nob, sx_eq]
  | .tup xs, y, hx, hy => by
    cases y with
    | tup ys =>
      simp only [pyd, PyData.eqv]
      rw [eqvs_nob xs ys (by simpa only [nob] using hx) (by simpa only [nob] using hy)]
      exact ⟨fun h => by rw [h], fun h => by injection h⟩
    | _ => simp_all [pyd, PyData.eqv, nob]
  | .lst xs, y, hx, hy => by
    cases y with
    | lst ys =>
      simp only [pyd, PyData.eqv]
      rw [eqvs_nob xs ys (by simpa only [nob] using hx) (by simpa only [nob] using hy)]
      exact ⟨fun h => by rw [h], fun h => by injection h⟩
    | _ => simp_all [pyd, PyData.eqv, nob]
  | .scr _, y, hx, hy => by simp [nob] at hx
theorem eqvs_nob : ∀ (xs ys : List D), nobs xs = true → nobs ys = true → (PyData.eqvAll (pyds xs) (pyds ys) = true ↔ xs = ys)
  | [], ys, hx, hy => by cases ys <;> simp [pyds, PyData.eqvAll]
  | x :: xs, ys, hx, hy => by
    cases ys with
    | nil => simp [pyds, PyData.eqvAll]
    | cons y ys =>
      simp only [nobs, Bool.and_eq_true] at hx hy
      simp only [pyds, PyData.eqvAll, Bool.and_eq_true]
      rw [eqv_nob x y hx.1 hy.1, eqvs_nob xs ys hx.2 hy.2]
      simp
end
theorem D.eqv_iff {x y : D} (hx : nob x = true) (hy : nob y = true) : D.eqv x y = true ↔ x = y := eqv_nob x y hx hy
theorem nobs_iff : ∀ {xs : List D}, nobs xs = true ↔ ∀ x ∈ xs, nob x = true
  | [] => by simp [nobs]
  | x :: xs => by simp [nobs, nobs_iff (xs := xs)]
theorem D.eqv_self {x : D} (hx : nob x = true) : D.eqv x x = true := (D.eqv_iff hx hx).mpr rfl

/-! in, not in: data in a list or tuple -/
theorem pyds_map (xs : List D) : pyds xs = xs.map pyd := by
  induction xs with
  | nil => simp [pyds]
  | cons x xs ih => simp [pyds, ih]
theorem Op2.inL (B : Bi X) {x : D} {xs : List D} (hx : fine 64 x = true) (hy : fine 64 (.lst xs) = true) : Op2 X (compareOp .In) x (.lst xs) (.bl (xs.any fun z => D.eqv z x)) :=
  Op2.of (op_inD (by have := B.un; omega)) fun H0 H e u v hu hv Q k => by
    have q := Dat.dp _ (Dat.mono e _ hv)
    rw [pyd] at q
    have s := fine_shaped hy
    rw [pyd] at s
    refine ⟨_, _, Dat.dp x (Dat.mono e x hu), q, fine_shaped hx, s, k _ (dat_bl.mpr ?_)⟩
    rw [pyds_map, List.any_map]; rfl
theorem Op2.notInL (B : Bi X) {x : D} {xs : List D} (hx : fine 64 x = true) (hy : fine 64 (.lst xs) = true) : Op2 X (compareOp .NotIn) x (.lst xs) (.bl (!xs.any fun z => D.eqv z x)) :=
  Op2.of (op_notInD (by have := B.un; omega)) fun H0 H e u v hu hv Q k => by
    have q := Dat.dp _ (Dat.mono e _ hv)
    rw [pyd] at q
    have s := fine_shaped hy
    rw [pyd] at s
    refine ⟨_, _, Dat.dp x (Dat.mono e x hu), q, fine_shaped hx, s, k _ (dat_bl.mpr ?_)⟩
    rw [pyds_map, List.any_map]; rfl
/-- flat ones in a list or a tuple of texts -/
theorem inV_str (w : List Nat) (ws : List (List Nat)) : inV (.str (sx w)) (ws.map fun w => V.str (sx w)) = decide (w ∈ ws) := by
  unfold inV
  induction ws with
  | nil => simp
  | cons u us ih =>
    rw [List.map_cons, List.any_cons, ih]
    have : eqV (.str (sx u)) (.str (sx w)) = decide (u = w) := by
      show (sx u == sx w) = _
      rw [Bool.eq_iff_iff]
      simp [sx_eq]
    rw [this]
    by_cases h : u = w
    · subst h; simp
    · have h' : ¬ w = u := fun e => h e.symm
      simp [h, h']
theorem flat_strs (ws : List (List Nat)) : (ws.map fun w => V.str (sx w)).all flatV = true := by
  rw [List.all_map]
  exact List.all_eq_true.mpr fun _ _ => rfl
theorem Op2.inLS {w : List Nat} {ws : List (List Nat)} : Op2 X (compareOp .In) (.str w) (.lst (ws.map D.str)) (.bl (decide (w ∈ ws))) := Op2.of op_in_seq fun H0 H e u v hu hv Q k => by
  obtain ⟨a, vs, rfl, h1, h2⟩ := dat_lst.mp hv
  rw [Dats.strs] at h2; rw [dat_str] at hu; subst h2 hu
  exact ⟨a, _, rfl, Or.inl (SqL.of (e _ _ h1)), rfl, flat_strs ws, k _ (dat_bl.mpr (by rw [inV_str]; rfl))⟩
theorem Op2.notInLS {w : List Nat} {ws : List (List Nat)} : Op2 X (compareOp .NotIn) (.str w) (.lst (ws.map D.str)) (.bl (!decide (w ∈ ws))) := Op2.of op_notIn_seq fun H0 H e u v hu hv Q k => by
  obtain ⟨a, vs, rfl, h1, h2⟩ := dat_lst.mp hv
  rw [Dats.strs] at h2; rw [dat_str] at hu; subst h2 hu
  exact ⟨a, _, rfl, Or.inl (SqL.of (e _ _ h1)), rfl, flat_strs ws, k _ (dat_bl.mpr (by rw [inV_str]; rfl))⟩
theorem Op2.inTS {w : List Nat} {ws : List (List Nat)} : Op2 X (compareOp .In) (.str w) (.tup (ws.map D.str)) (.bl (decide (w ∈ ws))) := Op2.of op_in_seq fun H0 H e u v hu hv Q k => by
  obtain ⟨a, vs, rfl, h1, h2⟩ := dat_tup.mp hv
  rw [Dats.strs] at h2; rw [dat_str] at hu; subst h2 hu
  exact ⟨a, _, rfl, Or.inr (Same.sqt e h1), rfl, flat_strs ws, k _ (dat_bl.mpr (by rw [inV_str]; rfl))⟩
theorem Op2.notInTS {w : List Nat} {ws : List (List Nat)} : Op2 X (compareOp .NotIn) (.str w) (.tup (ws.map D.str)) (.bl (!decide (w ∈ ws))) := Op2.of op_notIn_seq fun H0 H e u v hu hv Q k => by
  obtain ⟨a, vs, rfl, h1, h2⟩ := dat_tup.mp hv
  rw [Dats.strs] at h2; rw [dat_str] at hu; subst h2 hu
  exact ⟨a, _, rfl, Or.inr (Same.sqt e h1), rfl, flat_strs ws, k _ (dat_bl.mpr (by rw [inV_str]; rfl))⟩
end

/-! subscripts -/
section
variable {X : Cx} {ds : List Sl} {e a b c : Expr} {es : List Expr} {d x y z : D} {xs ys : List D} {pos : Pos}
theorem Dats.atI {K : PySem.W.Frag} {H : Hp} {ds : List D} {vs : List V} {i : Int} {d : D} (h : Dats K H ds vs) (e : L2.atI ds i = some d) : ∃ v, L2.atI vs i = some v ∧ Dat K H d v := by
  unfold L2.atI at e ⊢
  rw [h.len] at e
  cases q : ixN vs.length i with
  | none => rw [q] at e; cases e
  | some j => rw [q] at e; exact Dats.at h e
theorem E.ixT {i : Int} (ha : E X ds a (.tup xs)) (hb : E X ds b (.int i)) (h : L2.atI xs i = some d) (hs : PlainIx b := by exact fun _ _ => rfl) : E X ds (.Subscript a b pos) d :=
  E.of (pe_ix ix_tup pe_W pe_W hs) fun He H0e H0 σ H I Q q => ha He H0e H0 σ H I _ fun v H1 H' I1 e1 d1 => hb He H0e H1 σ H' I1 _ fun u H2 H'' I2 e2 d2 => by
    obtain ⟨p, vs, rfl, h1, h2⟩ := dat_tup.mp (Dat.mono e2 _ d1)
    obtain ⟨w, g1, g2⟩ := h2.atI h
    rw [dat_int] at d2
    exact ⟨p, vs, i, w, rfl, d2, Same.sqt I2.ex h1, g1, q w H2 H'' I2 (e1.trans e2) g2⟩
theorem E.ixL {i : Int} (ha : E X ds a (.lst xs)) (hb : E X ds b (.int i)) (h : L2.atI xs i = some d) (hs : PlainIx b := by exact fun _ _ => rfl) : E X ds (.Subscript a b pos) d :=
  E.of (pe_ix ix_list pe_W pe_W hs) fun He H0e H0 σ H I Q q => ha He H0e H0 σ H I _ fun v H1 H' I1 e1 d1 => hb He H0e H1 σ H' I1 _ fun u H2 H'' I2 e2 d2 => by
    obtain ⟨p, vs, rfl, h1, h2⟩ := dat_lst.mp (Dat.mono e2 _ d1)
    obtain ⟨w, g1, g2⟩ := h2.atI h
    rw [dat_int] at d2
    exact ⟨p, vs, i, w, rfl, d2, SqL.of (I2.ex _ _ h1), g1, q w H2 H'' I2 (e1.trans e2) g2⟩
/-- of a list that this def changes -/
theorem E.ixO {i : Int} {k : Nat} {n : Str} {p1 : Pos} (hk : ds[k]? = some (.ol xs)) (hb : E X ds b (.int i)) (h : L2.atI xs i = some d) (hN : X.N[k]? = some n := by rfl) (hv : Vis X.env.scope n := by first | exact Or.inl rfl | exact Or.inr (Or.inl rfl) | exact Or.inr (Or.inr rfl))
    (hd : (n == ("__debug__" : Str)) = false := by decide) (hcd : (n == ("__classdict__" : Str)) = false := by decide) (hs : PlainIx b := by exact fun _ _ => rfl) : E X ds (.Subscript (.Name n p1) b pos) d :=
  E.of (pe_ix ix_list (pe_var hN hv hd hcd) pe_W hs) fun He H0e H0 σ H I Q q => by
    obtain ⟨p, vs, h1, _, _, _, _⟩ := I.sl k _ hk
    refine ⟨_, h1, hb He H0e H0 σ H I _ fun u H2 H'' I2 e2 d2 => ?_⟩
    obtain ⟨p', vs', h1', _, h3', h4', h5'⟩ := I2.sl k _ hk
    rw [h1] at h1'
    obtain rfl : p = p' := by simpa using h1'
    obtain ⟨w, g1, g2⟩ := h5'.atI h
    rw [dat_int] at d2
    exact ⟨p, vs', i, w, rfl, d2, SqL.of h4', g1, q w H2 H'' I2 e2 g2⟩
theorem E.ixC {ns : List Int} {i : Int} {j : Int} (ha : E X ds a (.scr ns)) (hb : E X ds b (.int i)) (h : L2.atI ns i = some j) (hs : PlainIx b := by exact fun _ _ => rfl) : E X ds (.Subscript a b pos) (.int j) :=
  E.of (pe_ix ix_list pe_W pe_W hs) fun He H0e H0 σ H I Q q => ha He H0e H0 σ H I _ fun v H1 H' I1 e1 d1 => hb He H0e H1 σ H' I1 _ fun u H2 H'' I2 e2 d2 => by
    obtain ⟨p, rfl, h1⟩ := dat_scr.mp (Dat.mono e2 _ d1)
    rw [dat_int] at d2
    refine ⟨p, ns.map V.int, i, .int j, rfl, d2, Same.seq I2.ex h1, ?_, q _ H2 H'' I2 (e1.trans e2) (dat_int.mpr rfl)⟩
    unfold L2.atI at h ⊢
    rw [List.length_map]
    cases q : ixN ns.length i with
    | none => rw [q] at h; cases h
    | some j =>
      rw [q] at h
      show (ns.map V.int)[j]? = _
      rw [List.getElem?_map, show ns[j]? = _ from h]; rfl
theorem E.ixS {w : List Nat} {i : Int} {c : Nat} (ha : E X ds a (.str w)) (hb : E X ds b (.int i)) (h : L2.atI w i = some c) (hl : w.length ≤ 16777216) (hs : PlainIx b := by exact fun _ _ => rfl) : E X ds (.Subscript a b pos) (.str [c]) :=
  E.of (pe_ix ix_str pe_W pe_W hs) fun He H0e H0 σ H I Q q => ha He H0e H0 σ H I _ fun v H1 H' I1 e1 d1 => hb He H0e H1 σ H' I1 _ fun u H2 H'' I2 e2 d2 => by
    rw [dat_int] at d2
    rw [dat_str] at d1
    exact ⟨sx w, i, c, d1, d2, by rw [sx_len, sizeLine_eq]; exact hl, h, q _ H2 H'' I2 (e1.trans e2) (dat_str.mpr rfl)⟩

/-! slices -/
def EO (X : Cx) (ds : List Sl) (o : Option Expr) (i : Option Int) : Prop := match o with
  | none => i = none
  | some e => ∃ j, i = some j ∧ E X ds e (.int j)
def WO (X : Cx) (o : Option Expr) : TO := match o with
  | none => tNoPart
  | some e => tPart (W X e)
theorem po_WO {o : Option Expr} : PO X o (WO X o) := by
  cases o with
  | none => exact po_none
  | some e => exact po_some pe_W
theorem WO_of {o : Option Expr} {i : Option Int} (h : EO X ds o i) {He H0e H0 : Hp} {σ : L2.St} {H : Hp} (I : Env X.K He H0e ds H0 σ H) {Q : Option Int → Hp → Prop}
    (q : ∀ H0' H', Env X.K He H0e ds H0' σ H' → Same H0 H0' → Q i H') : WO X o σ H Q := by
  cases o with
  | none => cases h; exact q H0 H I (Same.refl _)
  | some e =>
    obtain ⟨j, rfl, h⟩ := h
    exact h He H0e H0 σ H I _ fun v H1 H' I1 e1 d1 => ⟨j, dat_int.mp d1, q H1 H' I1 e1⟩
theorem EO.no : EO X ds none none := rfl
theorem EO.yes {j : Int} (h : E X ds e (.int j)) : EO X ds (some e) (some j) := ⟨j, rfl, h⟩
def cutA {α : Type} (xs : List α) (lo hi : Option Int) : List α := (xs.drop (HT.sIx xs.length 0 lo)).take (HT.sIx xs.length xs.length hi - HT.sIx xs.length 0 lo)
theorem Dats.cut {K : PySem.W.Frag} {H : Hp} {ds : List D} {vs : List V} (lo hi : Option Int) (h : Dats K H ds vs) : Dats K H (cutA ds lo hi) (cutV vs lo hi) := by
  unfold cutA cutV
  rw [h.len]
  exact Dats.take _ (Dats.drop _ h)
theorem cutA_map {α β : Type} (f : α → β) (xs : List α) (lo hi : Option Int) : cutA (xs.map f) lo hi = (cutA xs lo hi).map f := by
  unfold cutA
  rw [List.length_map, List.map_take, List.map_drop]
variable {lo hi : Option Expr} {l h : Option Int} {p2 : Pos}
theorem E.slS {w : List Nat} (ha : E X ds a (.str w)) (hl : EO X ds lo l) (hh : EO X ds hi h) (hz : w.length ≤ 16777216) : E X ds (.Subscript a (.Slice lo hi none p2) pos) (.str (cutA w l h)) :=
  E.of (pe_slice sl_str pe_W po_WO po_WO) fun He H0e H0 σ H I Q q => ha He H0e H0 σ H I _ fun v H1 H' I1 e1 d1 => WO_of hl I1 fun H2 H2' I2 e2 => WO_of hh I2 fun H3 H3' I3 e3 => by
    rw [dat_str] at d1
    refine ⟨sx w, d1, by rw [sx_len, sizeLine_eq]; exact hz, q _ H3 H3' I3 ((e1.trans e2).trans e3) (dat_str.mpr ?_)⟩
    unfold cutS cutA
    rw [sx_len, sx_list]; rfl
theorem EL.sl (ha : E X ds a (.lst xs)) (hl : EO X ds lo l) (hh : EO X ds hi h) : EL X ds (.Subscript a (.Slice lo hi none p2) pos) (cutA xs l h) :=
  EL.of (pe_slice sl_list pe_W po_WO po_WO) fun He H0e H0 σ H I Q q => ha He H0e H0 σ H I _ fun v H1 H' I1 e1 d1 => WO_of hl I1 fun H2 H2' I2 e2 => WO_of hh I2 fun H3 H3' I3 e3 => by
    obtain ⟨p, vs, rfl, g1, g2⟩ := dat_lst.mp (Dat.mono (e2.trans e3) _ d1)
    exact ⟨p, vs, rfl, SqL.of (I3.ex _ _ g1), fun r hr => q r _ H3 H3' I3 ((e1.trans e2).trans e3) hr (g2.cut l h)⟩
theorem E.slT (ha : E X ds a (.tup xs)) (hl : EO X ds lo l) (hh : EO X ds hi h) : E X ds (.Subscript a (.Slice lo hi none p2) pos) (.tup (cutA xs l h)) :=
  E.of (pe_slice sl_tupA pe_W po_WO po_WO) fun He H0e H0 σ H I Q q => ha He H0e H0 σ H I _ fun v H1 H' I1 e1 d1 => WO_of hl I1 fun H2 H2' I2 e2 => WO_of hh I2 fun H3 H3' I3 e3 => by
    obtain ⟨p, vs, rfl, g1, g2⟩ := dat_tup.mp (Dat.mono (e2.trans e3) _ d1)
    refine ⟨p, vs, rfl, Same.sqt I3.ex g1, fun w => q _ H3 H3' I3 ((e1.trans e2).trans e3) (dat_tup.mpr ⟨p, vs, rfl, g1, ?_⟩), fun w r hr => q _ (upd H3 r (.tup _)) _ (I3.new hr) (((e1.trans e2).trans e3).trans (Same.new (I3.h0none hr)))
      (dat_tup.mpr ⟨r, _, rfl, SqT.of upd_same, Dats.mono (Same.new (I3.h0none hr)) _ (g2.cut l h)⟩)⟩
    unfold cutA
    rw [g2.len, w.1, w.2, Nat.sub_zero, List.drop_zero, ← g2.len, List.take_length]
    exact g2
/-- xs[::-1] of a list -/
theorem EL.rev {k : Nat} {p1 p3 : Pos} (ha : E X ds a (.lst xs)) : EL X ds (.Subscript a (.Slice none none (some (.UnaryOp .USub (.Constant (.int 1) k p1) p2)) p3) pos) xs.reverse :=
  EL.of (pe_revL pe_W) fun He H0e H0 σ H I Q q => ha He H0e H0 σ H I _ fun v H1 H' I1 e1 d1 => by
    obtain ⟨p, vs, rfl, g1, g2⟩ := dat_lst.mp d1
    exact ⟨p, vs, rfl, SqL.of (I1.ex _ _ g1), fun r hr => q r _ H1 H' I1 e1 hr g2.rev⟩

/-! + of lists and tuples, * -/
theorem EL.cat (ha : E X ds a (.lst xs)) (hb : E X ds b (.lst ys)) (hl : xs.length + ys.length ≤ 16777216) : EL X ds (.BinOp a .Add b pos) (xs ++ ys) :=
  EL.of (pe_op op_cat pe_W pe_W) fun He H0e H0 σ H I Q q => ha He H0e H0 σ H I _ fun v H1 H' I1 e1 d1 => hb He H0e H1 σ H' I1 _ fun u H2 H'' I2 e2 d2 => by
    obtain ⟨p, vs, rfl, g1, g2⟩ := dat_lst.mp (Dat.mono e2 _ d1)
    obtain ⟨r, ws, rfl, f1, f2⟩ := dat_lst.mp d2
    exact ⟨p, r, vs, ws, rfl, rfl, I2.ex _ _ g1, I2.ex _ _ f1, by rw [← g2.len, ← f2.len, sizeLine_eq]; exact hl, fun t ht => q t _ H2 H'' I2 (e1.trans e2) ht (g2.app f2)⟩
theorem E.catT (ha : E X ds a (.tup xs)) (hb : E X ds b (.tup ys)) (hl : xs.length + ys.length ≤ 16777216) : E X ds (.BinOp a .Add b pos) (.tup (xs ++ ys)) :=
  E.of (pe_op op_catA pe_W pe_W) fun He H0e H0 σ H I Q q => ha He H0e H0 σ H I _ fun v H1 H' I1 e1 d1 => hb He H0e H1 σ H' I1 _ fun u H2 H'' I2 e2 d2 => by
    obtain ⟨p, vs, rfl, g1, g2⟩ := dat_tup.mp (Dat.mono e2 _ d1)
    obtain ⟨r, ws, rfl, f1, f2⟩ := dat_tup.mp d2
    refine ⟨p, r, vs, ws, rfl, rfl, Same.sqt I2.ex g1, Same.sqt I2.ex f1, by rw [← g2.len, ← f2.len, sizeLine_eq]; exact hl, fun z => q _ H2 H'' I2 (e1.trans e2) (dat_tup.mpr ⟨r, ws, rfl, f1, ?_⟩), fun _ z => q _ H2 H'' I2 (e1.trans e2) (dat_tup.mpr ⟨p, vs, rfl, g1, ?_⟩),
      fun _ _ t ht => q _ (upd H2 t (.tup _)) _ (I2.new ht) ((e1.trans e2).trans (Same.new (I2.h0none ht))) (dat_tup.mpr ⟨t, _, rfl, SqT.of upd_same, Dats.mono (Same.new (I2.h0none ht)) _ (g2.app f2)⟩)⟩
    · have := g2.len
      rw [z] at this
      obtain rfl : xs = [] := List.length_eq_zero_iff.mp this
      exact f2
    · have := f2.len
      rw [z] at this
      obtain rfl : ys = [] := List.length_eq_zero_iff.mp this
      rw [List.append_nil]
      exact g2

/-! calls -/
def CallD (X : Cx) (f : Value) (xs : List D) (z : D) : Prop := ∃ r, CallR X f r ∧ ∀ (He H0e H0 : Hp) (ds : List Sl) (σ : L2.St) (H : Hp), Env X.K He H0e ds H0 σ H → ∀ vs, Dats X.K H0 xs vs → ∀ Q : VK,
  (∀ v H0' H', Env X.K He H0e ds H0' σ H' → Same H0 H0' → Dat X.K H0' z v → Q v H') → r vs H Q
def CallL (X : Cx) (f : Value) (xs : List D) (z : List D) : Prop := ∃ r, CallR X f r ∧ ∀ (He H0e H0 : Hp) (ds : List Sl) (σ : L2.St) (H : Hp), Env X.K He H0e ds H0 σ H → ∀ vs, Dats X.K H0 xs vs → ∀ Q : VK,
  (∀ p vs H0' H', Env X.K He H0e ds H0' σ H' → Same H0 H0' → H' p = none → Dats X.K H0' z vs → Q (.ref p) (upd H' p (.lst vs))) → r vs H Q
variable {n : Str} {p : Pos} {id ty : String}
theorem E.callB (ha : EA X ds (e :: es) xs) (hc : CallD X (.builtin id) xs z) (hm : X.mg n = none) (hv : bootBuiltins n = some (.builtin id)) (hg : Gl X n := by rfl) (hn : n ≠ "__name__" := by decide) (hdb : (n == ("__debug__" : Str)) = false := by decide)
    (he : starEach (e :: es) X.env = (false, eval e X.env) :: starEach es X.env := by rfl) (hpl : (backTo pos (starEach es X.env)).any (·.1) = false := by rfl) : E X ds (.Call (.Name n p) (e :: es) [] pos) z := by
  obtain ⟨r, h1, h2⟩ := hc
  exact E.of (pe_callB h1 hg hm hv pa_WA hn hdb he hpl) fun He H0e H0 σ H I Q q => ha He H0e H0 σ H I _ fun vs H1 H' I1 e1 d1 => h2 He H0e H1 ds σ H' I1 vs d1 Q fun v H2 H2' I2 e2 d2 => q v H2 H2' I2 (e1.trans e2) d2
theorem E.callT (ha : EA X ds (e :: es) xs) (hc : CallD X (.type ty) xs z) (hm : X.mg n = none) (hv : bootBuiltins n = some (.type ty)) (hg : Gl X n := by rfl) (hn : n ≠ "__name__" := by decide) (hdb : (n == ("__debug__" : Str)) = false := by decide)
    (he : starEach (e :: es) X.env = (false, eval e X.env) :: starEach es X.env := by rfl) (hpl : (backTo pos (starEach es X.env)).any (·.1) = false := by rfl) : E X ds (.Call (.Name n p) (e :: es) [] pos) z := by
  obtain ⟨r, h1, h2⟩ := hc
  exact E.of (pe_callTy h1 hg hm hv pa_WA hn hdb he hpl) fun He H0e H0 σ H I Q q => ha He H0e H0 σ H I _ fun vs H1 H' I1 e1 d1 => h2 He H0e H1 ds σ H' I1 vs d1 Q fun v H2 H2' I2 e2 d2 => q v H2 H2' I2 (e1.trans e2) d2
theorem EL.callB {zs : List D} (ha : EA X ds (e :: es) xs) (hc : CallL X (.builtin id) xs zs) (hm : X.mg n = none) (hv : bootBuiltins n = some (.builtin id)) (hg : Gl X n := by rfl) (hn : n ≠ "__name__" := by decide) (hdb : (n == ("__debug__" : Str)) = false := by decide)
    (he : starEach (e :: es) X.env = (false, eval e X.env) :: starEach es X.env := by rfl) (hpl : (backTo pos (starEach es X.env)).any (·.1) = false := by rfl) : EL X ds (.Call (.Name n p) (e :: es) [] pos) zs := by
  obtain ⟨r, h1, h2⟩ := hc
  exact EL.of (pe_callB h1 hg hm hv pa_WA hn hdb he hpl) fun He H0e H0 σ H I Q q => ha He H0e H0 σ H I _ fun vs H1 H' I1 e1 d1 => h2 He H0e H1 ds σ H' I1 vs d1 Q fun r vs H2 H2' I2 e2 hr d2 => q r vs H2 H2' I2 (e1.trans e2) hr d2
theorem EL.callT {zs : List D} (ha : EA X ds (e :: es) xs) (hc : CallL X (.type ty) xs zs) (hm : X.mg n = none) (hv : bootBuiltins n = some (.type ty)) (hg : Gl X n := by rfl) (hn : n ≠ "__name__" := by decide) (hdb : (n == ("__debug__" : Str)) = false := by decide)
    (he : starEach (e :: es) X.env = (false, eval e X.env) :: starEach es X.env := by rfl) (hpl : (backTo pos (starEach es X.env)).any (·.1) = false := by rfl) : EL X ds (.Call (.Name n p) (e :: es) [] pos) zs := by
  obtain ⟨r, h1, h2⟩ := hc
  exact EL.of (pe_callTy h1 hg hm hv pa_WA hn hdb he hpl) fun He H0e H0 σ H I Q q => ha He H0e H0 σ H I _ fun vs H1 H' I1 e1 d1 => h2 He H0e H1 ds σ H' I1 vs d1 Q fun r vs H2 H2' I2 e2 hr d2 => q r vs H2 H2' I2 (e1.trans e2) hr d2
theorem CallD.of {f : Value} {r} (h : CallR X f r) (q : ∀ (H0 H : Hp), Same H0 H → ∀ vs, Dats X.K H0 xs vs → ∀ Q : VK, (∀ v, Dat X.K H0 z v → Q v H) → r vs H Q) : CallD X f xs z :=
  ⟨r, h, fun He H0e H0 ds σ H I vs hv Q k => q H0 H I.ex vs hv Q fun w hw => k w H0 H I (Same.refl _) hw⟩
theorem dats1 {K : PySem.W.Frag} {H : Hp} {x : D} {vs : List V} (h : Dats K H [x] vs) : ∃ v, vs = [v] ∧ Dat K H x v := by
  obtain ⟨v, r, rfl, h1, h2⟩ := dats_cons.mp h
  exact ⟨v, by rw [dats_nil.mp h2], h1⟩
theorem dats2 {K : PySem.W.Frag} {H : Hp} {x y : D} {vs : List V} (h : Dats K H [x, y] vs) : ∃ v u, vs = [v, u] ∧ Dat K H x v ∧ Dat K H y u := by
  obtain ⟨v, r, rfl, h1, h2⟩ := dats_cons.mp h
  obtain ⟨u, rfl, h3⟩ := dats1 h2
  exact ⟨v, u, rfl, h1, h3⟩
theorem CallD.lenS {w : List Nat} (hz : w.length ≤ 16777216) : CallD X (.builtin "len") [.str w] (.int w.length) := CallD.of call_len fun H0 H e vs hv Q k => by
  obtain ⟨v, rfl, h⟩ := dats1 hv
  rw [dat_str] at h; subst h
  exact ⟨_, w.length, rfl, ⟨by rw [sx_len, sizeLine_eq]; exact hz, by rw [sx_len]⟩, k _ (dat_int.mpr rfl)⟩
theorem CallD.lenT : CallD X (.builtin "len") [.tup xs] (.int xs.length) := CallD.of call_len fun H0 H e vs hv Q k => by
  obtain ⟨v, rfl, h⟩ := dats1 hv
  obtain ⟨a, ws, rfl, h1, h2⟩ := dat_tup.mp h
  exact ⟨_, xs.length, rfl, .inr ⟨ws, Same.sqt e h1, h2.len⟩, k _ (dat_int.mpr rfl)⟩
theorem CallD.lenL : CallD X (.builtin "len") [.lst xs] (.int xs.length) := CallD.of call_len fun H0 H e vs hv Q k => by
  obtain ⟨v, rfl, h⟩ := dats1 hv
  obtain ⟨a, ws, rfl, h1, h2⟩ := dat_lst.mp h
  exact ⟨_, xs.length, rfl, .inl ⟨ws, SqL.of (e _ _ h1), h2.len⟩, k _ (dat_int.mpr rfl)⟩
theorem CallD.lenC {ns : List Int} : CallD X (.builtin "len") [.scr ns] (.int ns.length) := CallD.of call_len fun H0 H e vs hv Q k => by
  obtain ⟨v, rfl, h⟩ := dats1 hv
  obtain ⟨a, rfl, h1⟩ := dat_scr.mp h
  exact ⟨_, ns.length, rfl, .inl ⟨_, Same.seq e h1, by rw [List.length_map]⟩, k _ (dat_int.mpr rfl)⟩
theorem CallD.min2 (B : Bi X) {i j : Int} : CallD X (.builtin "min") [.int i, .int j] (.int (min i j)) := CallD.of (call_min2 B.calm) fun H0 H e vs hv Q k => by
  obtain ⟨v, u, rfl, h1, h2⟩ := dats2 hv
  rw [dat_int] at h1 h2; subst h1 h2
  refine ⟨i, j, rfl, k _ (dat_int.mpr ?_)⟩
  congr 1
  rw [Int.min_def]
  split <;> split <;> omega
theorem CallD.any (B : Bi X) {bs : List Bool} : CallD X (.builtin "any") [.lst (bs.map D.bl)] (.bl (bs.any fun b => b)) := CallD.of (cr_any B.calm) fun H0 H e vs hv Q k => by
  obtain ⟨v, rfl, h⟩ := dats1 hv
  obtain ⟨a, ws, rfl, h1, h2⟩ := dat_lst.mp h
  rw [Dats.bls] at h2; subst h2
  exact ⟨a, bs, rfl, SqL.of (e _ _ h1), k _ (dat_bl.mpr rfl)⟩
theorem CallD.all (B : Bi X) {bs : List Bool} : CallD X (.builtin "all") [.lst (bs.map D.bl)] (.bl (bs.all fun b => b)) := CallD.of (cr_all B.calm) fun H0 H e vs hv Q k => by
  obtain ⟨v, rfl, h⟩ := dats1 hv
  obtain ⟨a, ws, rfl, h1, h2⟩ := dat_lst.mp h
  rw [Dats.bls] at h2; subst h2
  exact ⟨a, bs, rfl, SqL.of (e _ _ h1), k _ (dat_bl.mpr rfl)⟩
theorem CallD.intB {b : Bool} : CallD X (.type "int") [.bl b] (.int (if b then 1 else 0)) := CallD.of call_int1 fun H0 H e vs hv Q k => by
  obtain ⟨v, rfl, h⟩ := dats1 hv
  rw [dat_bl] at h; subst h
  exact .inr ⟨b, rfl, k _ (dat_int.mpr rfl)⟩
/-- tuple(list), tuple(tuple), list(tuple) -/
theorem CallD.tupL : CallD X (.type "tuple") [.lst xs] (.tup xs) := ⟨_, call_tuple_of, fun He H0e H0 ds σ H I vs hv Q k => by
  obtain ⟨v, rfl, h⟩ := dats1 hv
  obtain ⟨a, ws, rfl, h1, h2⟩ := dat_lst.mp h
  exact ⟨a, ws, rfl, .inl ⟨SqL.of (I.ex _ _ h1), fun l hl => k _ (upd H0 l (.tup ws)) _ (I.new hl) (Same.new (I.h0none hl)) (dat_tup.mpr ⟨l, ws, rfl, SqT.of upd_same, Dats.mono (Same.new (I.h0none hl)) _ h2⟩)⟩⟩⟩
theorem CallD.tupT : CallD X (.type "tuple") [.tup xs] (.tup xs) := ⟨_, call_tuple_of, fun He H0e H0 ds σ H I vs hv Q k => by
  obtain ⟨v, rfl, h⟩ := dats1 hv
  obtain ⟨a, ws, rfl, h1, h2⟩ := dat_tup.mp h
  exact ⟨a, ws, rfl, .inr ⟨Same.sqt I.ex h1, k _ H0 H I (Same.refl _) h⟩⟩⟩
theorem CallL.ofT : CallL X (.type "list") [.tup xs] xs := ⟨_, call_list_of, fun He H0e H0 ds σ H I vs hv Q k => by
  obtain ⟨v, rfl, h⟩ := dats1 hv
  obtain ⟨a, ws, rfl, h1, h2⟩ := dat_tup.mp h
  exact ⟨a, ws, rfl, .inr (Same.sqt I.ex h1), fun l hl => k l ws H0 H I (Same.refl _) hl h2⟩⟩
/-- len of a list, of a dict that this def changes -/
theorem E.lenO {k : Nat} {m : Str} {p1 : Pos} (B : Bi X) (hk : ds[k]? = some (.ol xs)) (hN : X.N[k]? = some m := by rfl) (hv : Vis X.env.scope m := by first | exact Or.inl rfl | exact Or.inr (Or.inl rfl) | exact Or.inr (Or.inr rfl)) (hg : Gl X "len" := by rfl)
    (hd : (m == ("__debug__" : Str)) = false := by decide) (hcd : (m == ("__classdict__" : Str)) = false := by decide) (hs : starEach [Expr.Name m p1] X.env = (false, eval (.Name m p1) X.env) :: starEach [] X.env := by rfl) (hpl : (backTo pos (starEach [] X.env)).any (·.1) = false := by rfl) :
    E X ds (.Call (.Name "len" p) [.Name m p1] [] pos) (.int xs.length) :=
  E.of (pe_callB call_len hg B.len PySem.boot_len (pa_cons (pe_var hN hv hd hcd) pa_nil hs) (by decide) (by decide) hs hpl) fun He H0e H0 σ H I Q q => by
    obtain ⟨a, vs, h1, _, h3, h4, h5⟩ := I.sl k _ hk
    exact ⟨_, h1, _, xs.length, rfl, .inl ⟨vs, SqL.of h4, h5.len⟩, q _ H0 H I (Same.refl _) (dat_int.mpr rfl)⟩

/-! methods of texts -/
def MtD (X : Cx) (id : String) (x : D) (ys : List D) (z : D) : Prop := ∃ r, MtR X id r ∧ ∀ (He H0e H0 : Hp) (ds : List Sl) (σ : L2.St) (H : Hp), Env X.K He H0e ds H0 σ H → ∀ v vs, Dat X.K H0 x v → Dats X.K H0 ys vs → ∀ Q : VK,
  (∀ v H0' H', Env X.K He H0e ds H0' σ H' → Same H0 H0' → Dat X.K H0' z v → Q v H') → r v vs H Q
theorem E.m1 {w : List Nat} {apos : Pos} (slot : Slot "str" n id) (ty : typeOf (.builtin id) = pure (.type "method_descriptor")) (ha : E X ds a (.str w)) (hb : E X ds b y) (hm : MtD X id (.str w) [y] z)
    (hs : starEach [b] X.env = [(false, eval b X.env)] := by rfl) (hbase : attributeBase a n X.env (eval a X.env) = eval a X.env := by rfl) (hline : (apos.endLine == pos.line) = true := by rfl) : E X ds (.Call (.Attribute a n apos) [b] [] pos) z := by
  obtain ⟨r, h1, h2⟩ := hm
  refine E.of (pe_m1 slot ty h1 pe_W pe_W hs hbase hline) fun He H0e H0 σ H I Q q => ha He H0e H0 σ H I _ fun v H1 H' I1 e1 d1 => ⟨⟨_, dat_str.mp d1⟩, hb He H0e H1 σ H' I1 _ fun u H2 H'' I2 e2 d2 => ?_⟩
  exact h2 He H0e H2 ds σ H'' I2 v [u] (Dat.mono e2 _ d1) (Dats.one d2) Q fun w H3 H3' I3 e3 d3 => q w H3 H3' I3 ((e1.trans e2).trans e3) d3

/-! truth, and, or, not -/
theorem T.val {k : Bool} (h : E X ds e (.bl k)) (he : ∀ whole, isTrue e X.env whole = (do let v ← whole; standAt e.pos; holding [v] (truthy v)) := by intro _; rfl) : T X ds e k :=
  T.of (pt_val pe_W he) fun He H0e H0 σ H I Q q => h He H0e H0 σ H I _ fun v H1 H' I1 e1 d1 => ⟨k, dat_bl.mp d1, q H1 H' I1 e1⟩
theorem T.not {k : Bool} (h : T X ds a k) : T X ds (.UnaryOp .Not a pos) (!k) := T.of (pt_not pt_WT) fun He H0e H0 σ H I Q q => h He H0e H0 σ H I _ fun H1 H' I1 e1 => q H1 H' I1 e1
variable {rest : List Expr}
theorem TW.and1 {k : Bool} (h : T X ds a k) : TW X ds (.BoolOp .And [a] pos) k := TW.mk fun He H0e H0 σ H I Q q => WW_of (pw_and1 pt_WT) (h He H0e H0 σ H I Q q)
theorem TW.or1 {k : Bool} (h : T X ds a k) : TW X ds (.BoolOp .Or [a] pos) k := TW.mk fun He H0e H0 σ H I Q q => WW_of (pw_or1 pt_WT) (h He H0e H0 σ H I Q q)
theorem TW.and {k l : Bool} (h : T X ds a k) (h2 : k = true → TW X ds (.BoolOp .And (b :: rest) pos) l) : TW X ds (.BoolOp .And (a :: b :: rest) pos) (k && l) := TW.mk fun He H0e H0 σ H I Q q =>
  WW_of (pw_and pt_WT pw_WW) (h He H0e H0 σ H I _ fun H1 H' I1 e1 => by
    cases k with
    | true => exact iteT (h2 rfl He H0e H1 σ H' I1 Q fun H2 H2' I2 e2 => q H2 H2' I2 (e1.trans e2))
    | false => exact iteF (q H1 H' I1 e1))
theorem TW.or {k l : Bool} (h : T X ds a k) (h2 : k = false → TW X ds (.BoolOp .Or (b :: rest) pos) l) : TW X ds (.BoolOp .Or (a :: b :: rest) pos) (k || l) := TW.mk fun He H0e H0 σ H I Q q =>
  WW_of (pw_or pt_WT pw_WW) (h He H0e H0 σ H I _ fun H1 H' I1 e1 => by
    cases k with
    | false => exact iteF (h2 rfl He H0e H1 σ H' I1 Q fun H2 H2' I2 e2 => q H2 H2' I2 (e1.trans e2))
    | true => exact iteT (q H1 H' I1 e1))
theorem E.not {k : Bool} (h : E X ds a (.bl k)) : E X ds (.UnaryOp .Not a pos) (.bl (!k)) := E.of (pe_not pe_W) fun He H0e H0 σ H I Q q => h He H0e H0 σ H I _ fun v H1 H' I1 e1 d1 => ⟨k, dat_bl.mp d1, q _ H1 H' I1 e1 (dat_bl.mpr rfl)⟩
theorem E.one {op} (h : E X ds a x) : E X ds (.BoolOp op [a] pos) x := E.of (pe_one pe_W) fun He H0e H0 σ H I Q q => h He H0e H0 σ H I Q q
theorem E.and {k l : Bool} (h : E X ds a (.bl k)) (h2 : k = true → E X ds (.BoolOp .And (b :: rest) pos) (.bl l)) : E X ds (.BoolOp .And (a :: b :: rest) pos) (.bl (k && l)) :=
  E.of (pe_and pe_W pe_W) fun He H0e H0 σ H I Q q => h He H0e H0 σ H I _ fun v H1 H' I1 e1 d1 => ⟨k, dat_bl.mp d1, by
    cases k with
    | true => exact iteT (h2 rfl He H0e H1 σ H' I1 Q fun v H2 H2' I2 e2 d2 => q v H2 H2' I2 (e1.trans e2) d2)
    | false => exact iteF (q _ H1 H' I1 e1 (dat_bl.mpr rfl))⟩
theorem E.or {k l : Bool} (h : E X ds a (.bl k)) (h2 : k = false → E X ds (.BoolOp .Or (b :: rest) pos) (.bl l)) : E X ds (.BoolOp .Or (a :: b :: rest) pos) (.bl (k || l)) :=
  E.of (pe_or pe_W pe_W) fun He H0e H0 σ H I Q q => h He H0e H0 σ H I _ fun v H1 H' I1 e1 d1 => ⟨k, dat_bl.mp d1, by
    cases k with
    | false => exact iteF (h2 rfl He H0e H1 σ H' I1 Q fun v H2 H2' I2 e2 d2 => q v H2 H2' I2 (e1.trans e2) d2)
    | true => exact iteT (q _ H1 H' I1 e1 (dat_bl.mpr rfl))⟩
/-- an expression that gives a truth by and, or, a comparison: as a test of a value -/
theorem E.neg {i : Int} (h : E X ds a (.int i)) : E X ds (.UnaryOp .USub a pos) (.int (-i)) := E.of (pe_un un_neg pe_W) fun He H0e H0 σ H I Q q => h He H0e H0 σ H I _ fun v H1 H' I1 e1 d1 => ⟨i, dat_int.mp d1, q _ H1 H' I1 e1 (dat_int.mpr rfl)⟩
end
end Wm

set_option Elab.async false
set_option linter.all false
set_option maxRecDepth 100000
set_option maxHeartbeats 4000000
/-! WmC: statements, loops, comprehensions, defs. -/
namespace Wm
open PySem PySem.Spec PyProof.Rows L2

section
variable {K : PySem.W.Frag} {He H0e H0 H H' : Hp} {ds : List Sl} {σ : L2.St}
theorem set_ne {α : Type} {l : List α} {i j : Nat} {x : α} (h : i ≠ j) : (l.set i x)[j]? = l[j]? := List.getElem?_set_ne h
/-- a slot takes a value -/
theorem Env.set (I : Env K He H0e ds H0 σ H) (i : Nat) {d : D} {v : V} (h : Dat K H0 d v) : Env K He H0e (ds.set i (.d d)) H0 (σ.set i (some v)) H where
  ex := I.ex
  exE := I.exE
  ex0 := I.ex0
  sep := I.sep
  len := by rw [List.length_set, List.length_set]; exact I.len
  sl := fun j s hs => by
    by_cases e : i = j
    · subst e
      have hi : i < ds.length := by
        have := (List.getElem?_eq_some_iff.mp hs).1
        simpa using this
      rw [List.getElem?_set_self hi] at hs
      cases hs
      exact ⟨v, by rw [List.getElem?_set_self (by rw [← I.len]; exact hi)], h⟩
    · rw [set_ne e] at hs ⊢
      exact I.sl j s hs
  own := fun j k s t hjk hs ht os ot => by
    have n1 : i ≠ j := fun e => by
      subst e
      have hi : i < ds.length := by
        have := (List.getElem?_eq_some_iff.mp hs).1
        simpa using this
      rw [List.getElem?_set_self hi] at hs
      cases hs; cases os
    have n2 : i ≠ k := fun e => by
      subst e
      have hi : i < ds.length := by
        have := (List.getElem?_eq_some_iff.mp ht).1
        simpa using this
      rw [List.getElem?_set_self hi] at ht
      cases ht; cases ot
    rw [set_ne n1] at hs
    rw [set_ne n2] at ht
    rw [set_ne n1, set_ne n2]
    exact I.own j k s t hjk hs ht os ot
/-- a slot takes a new object of its own -/
theorem Env.setO (I : Env K He H0e ds H0 σ H) (i : Nat) {s : Sl} {p : Addr} {o : HO} (hp : H p = none) (hs : ∀ H1 : Hp, H1 p = some o → SlOk K He H0 H1 (some (some (.ref p))) s) : Env K He H0e (ds.set i s) H0 (σ.set i (some (.ref p))) (upd H p o) where
  ex := I.ex.trans (Same.new hp)
  exE := I.exE.trans (Same.new hp)
  ex0 := I.ex0
  sep := I.sep
  len := by rw [List.length_set, List.length_set]; exact I.len
  sl := fun j t ht => by
    by_cases e : i = j
    · subst e
      have hi : i < ds.length := by
        have := (List.getElem?_eq_some_iff.mp ht).1
        simpa using this
      rw [List.getElem?_set_self hi] at ht
      cases ht
      rw [List.getElem?_set_self (by rw [← I.len]; exact hi)]
      exact hs _ upd_same
    · rw [set_ne e] at ht ⊢
      refine (I.sl j t ht).mono (Same.refl _) fun q hq w => ?_
      obtain ⟨q', e1, e2, e3, e4⟩ := (I.sl j t ht).addr w
      rw [hq] at e1
      obtain rfl : q = q' := by simpa using e1
      exact ⟨e3, by rw [upd_ne (fun z => e4 (by rw [z]; exact hp))]⟩
  own := fun j k a b hjk ha hb oa ob => by
    have key : ∀ (j : Nat) (a : Sl), ds[j]? = some a → a.own = true → σ[j]? ≠ some (some (.ref p)) := fun j a ha oa z => by
      obtain ⟨q', e1, e2, e3, e4⟩ := (I.sl j a ha).addr oa
      rw [z] at e1
      obtain rfl : p = q' := by simpa using e1
      exact e4 hp
    by_cases n1 : i = j
    · subst n1
      have n2 : i ≠ k := hjk
      have hi : i < ds.length := by
        have := (List.getElem?_eq_some_iff.mp ha).1
        simpa using this
      rw [set_ne n2] at hb
      rw [List.getElem?_set_self (by rw [← I.len]; exact hi), set_ne n2]
      exact fun z => key k b hb ob z.symm
    · rw [set_ne n1] at ha
      by_cases n2 : i = k
      · subst n2
        have hi : i < ds.length := by
          have := (List.getElem?_eq_some_iff.mp hb).1
          simpa using this
        rw [List.getElem?_set_self (by rw [← I.len]; exact hi), set_ne n1]
        exact key j a ha oa
      · rw [set_ne n2] at hb
        rw [set_ne n1, set_ne n2]
        exact I.own j k a b hjk ha hb oa ob
/-- the object of a slot is changed -/
theorem Env.mut (I : Env K He H0e ds H0 σ H) {i : Nat} {s s' : Sl} {p : Addr} {o : HO} (hi : ds[i]? = some s) (os : s.own = true) (hp : σ[i]? = some (some (.ref p))) (hs : ∀ H1 : Hp, H1 p = some o → SlOk K He H0 H1 (some (some (.ref p))) s') (hn : s'.own = true) :
    Env K He H0e (ds.set i s') H0 σ (upd H p o) := by
  obtain ⟨p', e1, e2, e3, e4⟩ := (I.sl i s hi).addr os
  rw [hp] at e1
  obtain rfl : p = p' := by simpa using e1
  have hlt : i < ds.length := (List.getElem?_eq_some_iff.mp hi).1
  have oth : ∀ j t, i ≠ j → ds[j]? = some t → t.own = true → σ[j]? ≠ some (some (.ref p)) := fun j t e ht ot z => I.own i j s t e hi ht os ot (by rw [hp, z])
  refine ⟨Same.mut I.ex e3, Same.mut I.exE e2, I.ex0, I.sep, by rw [List.length_set]; exact I.len, fun j t ht => ?_, fun j k a b hjk ha hb oa ob => ?_⟩
  · by_cases e : i = j
    · subst e
      rw [List.getElem?_set_self hlt] at ht
      cases ht
      rw [hp]
      exact hs _ upd_same
    · rw [set_ne e] at ht
      refine (I.sl j t ht).mono (Same.refl _) fun q hq w => ?_
      obtain ⟨q', f1, f2, f3, f4⟩ := (I.sl j t ht).addr w
      rw [hq] at f1
      obtain rfl : q = q' := by simpa using f1
      exact ⟨f3, by rw [upd_ne (fun z => oth j t e ht w (by rw [hq, z]))]⟩
  · by_cases n1 : i = j
    · subst n1
      rw [set_ne hjk] at hb
      exact I.own i k s b hjk hi hb os ob
    · rw [set_ne n1] at ha
      by_cases n2 : i = k
      · subst n2
        exact I.own j i a s hjk ha hi oa os
      · rw [set_ne n2] at hb
        exact I.own j k a b hjk ha hb oa ob
/-- a list that is not changed any more -/
theorem Env.freeze (I : Env K He H0e ds H0 σ H) {i : Nat} {xs : List D} (hi : ds[i]? = some (.ol xs)) : ∃ H0', Env K He H0e (ds.set i (.d (.lst xs))) H0' σ H ∧ Same H0 H0' := by
  obtain ⟨p, vs, e1, e2, e3, e4, e5⟩ := I.sl i _ hi
  have hlt : i < ds.length := (List.getElem?_eq_some_iff.mp hi).1
  have sm : Same H0 (upd H0 p (.lst vs)) := Same.new e3
  refine ⟨upd H0 p (.lst vs), ⟨fun a o h => ?_, I.exE, I.ex0.trans sm, fun a h1 h2 => ?_, by rw [List.length_set]; exact I.len, fun j t ht => ?_, fun j k a b hjk ha hb oa ob => ?_⟩, sm⟩
  · by_cases z : a = p
    · subst z; rw [upd_same] at h; rw [← h]; exact e4
    · rw [upd_ne z] at h; exact I.ex a o h
  · have z : a ≠ p := fun z => h1.ne (by rw [z]; exact e2)
    rw [upd_ne z]; exact I.sep a h1 h2
  · by_cases e : i = j
    · subst e
      rw [List.getElem?_set_self hlt] at ht
      cases ht
      exact ⟨_, e1, dat_lst.mpr ⟨p, vs, rfl, upd_same, Dats.mono sm xs e5⟩⟩
    · rw [set_ne e] at ht
      refine (I.sl j t ht).mono sm fun q hq w => ?_
      obtain ⟨q', f1, f2, f3, f4⟩ := (I.sl j t ht).addr w
      rw [hq] at f1
      obtain rfl : q = q' := by simpa using f1
      have z : q ≠ p := fun z => I.own i j _ t e hi ht rfl w (by rw [e1, hq, z])
      exact ⟨by rw [upd_ne z]; exact f3, rfl⟩
  · have n1 : i ≠ j := fun e => by subst e; rw [List.getElem?_set_self hlt] at ha; cases ha; cases oa
    have n2 : i ≠ k := fun e => by subst e; rw [List.getElem?_set_self hlt] at hb; cases hb; cases ob
    rw [set_ne n1] at ha
    rw [set_ne n2] at hb
    exact I.own j k a b hjk ha hb oa ob
def wipeD (ds : List Sl) : List Nat → List Sl
  | [] => ds
  | v :: vs => (wipeD ds vs).set v .no
theorem Env.wipe1 (I : Env K He H0e ds H0 σ H) (i : Nat) : Env K He H0e (ds.set i .no) H0 (σ.set i none) H where
  ex := I.ex
  exE := I.exE
  ex0 := I.ex0
  sep := I.sep
  len := by rw [List.length_set, List.length_set]; exact I.len
  sl := fun j s hs => by
    by_cases e : i = j
    · subst e
      have hi : i < ds.length := by
        have := (List.getElem?_eq_some_iff.mp hs).1
        simpa using this
      rw [List.getElem?_set_self hi] at hs
      cases hs
      trivial
    · rw [set_ne e] at hs ⊢
      exact I.sl j s hs
  own := fun j k s t hjk hs ht os ot => by
    have n1 : i ≠ j := fun e => by
      subst e
      have hi : i < ds.length := by
        have := (List.getElem?_eq_some_iff.mp hs).1
        simpa using this
      rw [List.getElem?_set_self hi] at hs
      cases hs; cases os
    have n2 : i ≠ k := fun e => by
      subst e
      have hi : i < ds.length := by
        have := (List.getElem?_eq_some_iff.mp ht).1
        simpa using this
      rw [List.getElem?_set_self hi] at ht
      cases ht; cases ot
    rw [set_ne n1] at hs
    rw [set_ne n2] at ht
    rw [set_ne n1, set_ne n2]
    exact I.own j k s t hjk hs ht os ot
theorem Env.wipe (I : Env K He H0e ds H0 σ H) : ∀ vs : List Nat, Env K He H0e (wipeD ds vs) H0 (L2.wipe σ vs) H
  | [] => I
  | v :: vs => (Env.wipe I vs).wipe1 v
theorem wipe_eq {σ τ : L2.St} : ∀ {vs : List Nat}, σ.length = τ.length → (∀ j, j ∉ vs → σ[j]? = τ[j]?) → L2.wipe σ vs = L2.wipe τ vs := by
  intro vs hl h
  apply List.ext_getElem?
  intro j
  have len : ∀ (ρ : L2.St) (vs : List Nat), (L2.wipe ρ vs).length = ρ.length := wipe_length
  have inn : ∀ (ρ : L2.St) (vs : List Nat), j ∈ vs → j < ρ.length → (L2.wipe ρ vs)[j]? = some none := by
    intro ρ vs
    induction vs with
    | nil => intro h; cases h
    | cons v vs ih =>
      intro hj hlt
      unfold L2.wipe
      by_cases e : v = j
      · subst e; rw [List.getElem?_set_self (by rw [len]; exact hlt)]
      · rw [set_ne e]
        exact ih (by rcases List.mem_cons.mp hj with z | z; exact absurd z.symm e; exact z) hlt
  by_cases hj : j ∈ vs
  · by_cases hlt : j < σ.length
    · rw [inn σ vs hj hlt, inn τ vs hj (by rw [← hl]; exact hlt)]
    · rw [List.getElem?_eq_none (by rw [len]; omega), List.getElem?_eq_none (by rw [len]; omega)]
  · rw [wipe_out hj, wipe_out hj]
    exact h j hj
def Sl.hide : Sl → Sl
  | .d x => .d x
  | _ => .no
def hideD (ds : List Sl) : List Sl := ds.map Sl.hide
/-- a block's view: nothing is its own, all that stands is held -/
theorem Env.block (I : Env K He H0e ds H0 σ H) (e : Same H H') : Env K H' H0 (hideD ds) H0 σ H' where
  ex := I.ex.trans e
  exE := Same.refl _
  ex0 := Same.refl _
  sep := fun _ _ h => h
  len := by unfold hideD; rw [List.length_map]; exact I.len
  sl := fun i s hs => by
    unfold hideD at hs
    rw [List.getElem?_map] at hs
    obtain ⟨t, ht, rfl⟩ := Option.map_eq_some_iff.mp hs
    have q := I.sl i t ht
    cases t with
    | d x => exact q
    | _ => trivial
  own := fun i j s t _ hs _ os _ => by
    unfold hideD at hs
    rw [List.getElem?_map] at hs
    obtain ⟨r, _, rfl⟩ := Option.map_eq_some_iff.mp hs
    cases r <;> cases os
end

/-! ### statements -/
def WSs (X : Cx) (sts : List Stmt) : TS := fun D σ H => ∀ (pins : List (Addr × Obj)) (s : Shared), Inv X pins σ H s → wpAny (model X.prog X.w) X.A (execs sts X.env) (SP X pins D) X.xe s
theorem pss_WS {X : Cx} {sts : List Stmt} : PSs X sts (WSs X sts) := ⟨fun pins s _ _ _ I h => h pins s I⟩
theorem WSs_of {X : Cx} {sts : List Stmt} {t : TS} (h : PSs X sts t) {D : Ends} {σ : L2.St} {H : Hp} (q : t D σ H) : WSs X sts D σ H := fun pins s I => h.run pins s σ H D I q
structure Outs where
  nx : List Sl → Prop := fun _ => False
  rt : D → Prop := fun _ => False
  bk : List Sl → Prop := fun _ => False
  ct : List Sl → Prop := fun _ => False
  /-- an own exception without fields, of the class, leaves -/
  ex : Value → Prop := fun _ => False
structure Met (X : Cx) (He H0e Hs : Hp) (O : Outs) (D : Ends) : Prop where
  nx : ∀ ds H0 σ H, O.nx ds → Env X.K He H0e ds H0 σ H → Same Hs H0 → D.nx σ H
  rt : ∀ d v H0 H, O.rt d → Same H0 H → Same He H → Same H0e H0 → (∀ a, NT (He a) → H0e a = none → H0 a = none) → Dat X.K H0 d v → D.rt v H
  bk : ∀ ds H0 σ H, O.bk ds → Env X.K He H0e ds H0 σ H → Same Hs H0 → D.bk σ H
  ct : ∀ ds H0 σ H, O.ct ds → Env X.K He H0e ds H0 σ H → Same Hs H0 → D.ct σ H
  ex : ∀ c, O.ex c → ∃ W : WX, Takes X W ∧ ∀ σ H, Same He H → W c none σ H
theorem Met.mono {X : Cx} {He H0e Hs Hs' : Hp} {O : Outs} {D : Ends} (M : Met X He H0e Hs O D) (e : Same Hs Hs') : Met X He H0e Hs' O D :=
  ⟨fun ds H0 σ H h I s => M.nx ds H0 σ H h I (e.trans s), M.rt, fun ds H0 σ H h I s => M.bk ds H0 σ H h I (e.trans s), fun ds H0 σ H h I s => M.ct ds H0 σ H h I (e.trans s), M.ex⟩
structure S (X : Cx) (sts : List Stmt) (ds : List Sl) (O : Outs) : Prop where
  run : ∀ (He H0e H0 : Hp) (σ : L2.St) (H : Hp), Env X.K He H0e ds H0 σ H → ∀ D : Ends, Met X He H0e H0 O D → WSs X sts D σ H
instance {X : Cx} {sts : List Stmt} {ds : List Sl} {O : Outs} : CoeFun (S X sts ds O) fun _ => ∀ (He H0e H0 : Hp) (σ : L2.St) (H : Hp), Env X.K He H0e ds H0 σ H → ∀ D : Ends, Met X He H0e H0 O D → WSs X sts D σ H := ⟨S.run⟩
/-- a target takes a value: only the slots is change -/
def WG (X : Cx) (tg : Expr) : TG := fun v σ H Q => ∀ (pins : List (Addr × Obj)) (s : Shared) (u : Value), Inv X pins σ H s → RelV v u → wpAny (model X.prog X.w) X.A (assign tg X.env u) (fun _ s' => ∃ σ' H', Inv X pins σ' H' s' ∧ Q σ' H') X.xe s
theorem pg_WG {X : Cx} {tg : Expr} : PG X tg (WG X tg) := ⟨fun pins s _ _ _ u _ I r h => h pins s u I r⟩
theorem WG_of {X : Cx} {tg : Expr} {t : TG} (h : PG X tg t) {v : V} {σ : L2.St} {H : Hp} {Q : L2.St → Hp → Prop} (q : t v σ H Q) : WG X tg v σ H Q := fun pins s u I r => h.run pins s σ H v u Q I r q
def G (X : Cx) (tg : Expr) (is : List Nat) (ds : List Sl) (d : D) (ds' : List Sl) : Prop := ∀ (He H0e H0 : Hp) (σ : L2.St) (H : Hp) (v : V), Env X.K He H0e ds H0 σ H → Dat X.K H0 d v → ∀ Q : L2.St → Hp → Prop,
  (∀ H0' σ' H', Env X.K He H0e ds' H0' σ' H' → Same H0 H0' → (∀ j, j ∉ is → σ'[j]? = σ[j]?) → Q σ' H') → WG X tg v σ H Q

section
variable {X : Cx} {ds ds' ds1 ds2 : List Sl} {e a b c tg iter : Expr} {es : List Expr} {d x y z : D} {xs ys : List D} {pos pos' : Pos} {rest body orelse : List Stmt} {O : Outs} {n : Str} {i : Nat} {is js : List Nat}
theorem S.nil (h : O.nx ds) : S X [] ds O := S.mk fun He H0e H0 σ H I D M => WSs_of pss_nil (M.nx ds H0 σ H h I (Same.refl _))
theorem S.ret (h : E X ds e d) (q : O.rt d) : S X (.Return (some e) pos :: rest) ds O := S.mk fun He H0e H0 σ H I D M =>
  WSs_of (pss_cons (ps_ret pe_W) (pss_WS (sts := rest))) (h He H0e H0 σ H I _ fun v H1 H' I1 e1 d1 => M.rt d v H1 H' q I1.ex I1.exE I1.ex0 I1.sep d1)
theorem S.retN (q : O.rt .non) : S X (.Return none pos :: rest) ds O := S.mk fun He H0e H0 σ H I D M =>
  WSs_of (pss_cons ps_retN (pss_WS (sts := rest))) (M.rt .non _ H0 H q I.ex I.exE I.ex0 I.sep (dat_non.mpr rfl))
theorem S.asg (i : Nat) (h : E X ds e d) (k : S X rest (ds.set i (.d d)) O) (hN : X.N.Nodup := by first | assumption | decide +kernel) (hi : X.N[i]? = some n := by rfl) (hx : Loc X.env.scope n := by first | exact Or.inl rfl | exact Or.inr rfl) (hs : swapsWith e (some (.Name n pos')) pos.line X.env = pure false := by rfl)
    (hf : X.fn n = true ∨ X.env.scope.names.lookup n = some .local := by first | exact .inl rfl | exact .inr rfl) : S X (.Assign [.Name n pos'] e pos :: rest) ds O := S.mk fun He H0e H0 σ H I D M =>
  WSs_of (pss_cons (ps_set hN hi hx pe_W hs hf) (pss_WS (sts := rest))) (h He H0e H0 σ H I _ fun v H1 H' I1 e1 d1 => k He H0e H1 _ H' (I1.set i d1) D (M.mono e1))
theorem S.asgL (i : Nat) (h : EL X ds e xs) (k : S X rest (ds.set i (.ol xs)) O) (hN : X.N.Nodup := by first | assumption | decide +kernel) (hi : X.N[i]? = some n := by rfl) (hx : Loc X.env.scope n := by first | exact Or.inl rfl | exact Or.inr rfl) (hs : swapsWith e (some (.Name n pos')) pos.line X.env = pure false := by rfl)
    (hf : X.fn n = true ∨ X.env.scope.names.lookup n = some .local := by first | exact .inl rfl | exact .inr rfl) : S X (.Assign [.Name n pos'] e pos :: rest) ds O := S.mk fun He H0e H0 σ H I D M =>
  WSs_of (pss_cons (ps_set hN hi hx pe_W hs hf) (pss_WS (sts := rest))) (h He H0e H0 σ H I _ fun p vs H1 H' I1 e1 hp d1 => k He H0e H1 _ _ (I1.setO i hp fun H2 h2 => ⟨p, vs, rfl, I1.henone hp, I1.h0none hp, h2, d1⟩) D (M.mono e1))
theorem S.if {k : Bool} (h : T X ds c k) (ht : k = true → S X body ds { O with nx := fun ds' => S X rest ds' O }) (hf : k = false → S X orelse ds { O with nx := fun ds' => S X rest ds' O }) : S X (.If c body orelse pos :: rest) ds O := S.mk fun He H0e H0 σ H I D M =>
  WSs_of (pss_cons (ps_if pt_WT pss_WS pss_WS) pss_WS) (h He H0e H0 σ H I _ fun H1 H' I1 e1 => by
    have M1 : Met X He H0e H1 { O with nx := fun ds' => S X rest ds' O } { D with nx := WSs X rest D } :=
      ⟨fun ds2 H2 σ2 H2' hS I2 e2 => hS He H0e H2 σ2 H2' I2 D (M.mono (e1.trans e2)), M.rt, (M.mono e1).bk, (M.mono e1).ct, M.ex⟩
    cases k with
    | true => exact iteT (ht rfl He H0e H1 σ H' I1 _ M1)
    | false => exact iteF (hf rfl He H0e H1 σ H' I1 _ M1))
theorem S.freeze {i : Nat} (hi : ds[i]? = some (.ol xs)) (k : S X rest (ds.set i (.d (.lst xs))) O) : S X rest ds O := S.mk fun He H0e H0 σ H I D M => by
  obtain ⟨H0', I', e⟩ := I.freeze hi
  exact k He H0e H0' σ H I' D (M.mono e)
theorem S.weak {O' : Outs} (h : S X rest ds O') (n : ∀ ds, O'.nx ds → O.nx ds) (r : ∀ d, O'.rt d → O.rt d) (b : ∀ ds, O'.bk ds → O.bk ds) (c : ∀ ds, O'.ct ds → O.ct ds) (x : ∀ c, O'.ex c → O.ex c := by intro c h; exact h) : S X rest ds O := S.mk fun He H0e H0 σ H I D M =>
  h He H0e H0 σ H I D ⟨fun ds H0 σ H q => M.nx ds H0 σ H (n ds q), fun d v H0 H q => M.rt d v H0 H (r d q), fun ds H0 σ H q => M.bk ds H0 σ H (b ds q), fun ds H0 σ H q => M.ct ds H0 σ H (c ds q), fun k q => M.ex k (x k q)⟩
/-- a value that is dropped -/
theorem S.expr (h : E X ds e d) (k : S X rest ds O) (hs : swapsWith e none pos.line X.env = pure false := by rfl) : S X (.Expr e pos :: rest) ds O := S.mk fun He H0e H0 σ H I D M =>
  WSs_of (pss_cons (ps_expr pe_W hs) (pss_WS (sts := rest))) (h He H0e H0 σ H I _ fun v H1 H' I1 e1 d1 => k He H0e H1 σ H' I1 D (M.mono e1))
section
variable {id : Nat} {p1 apos cpos : Pos} {j : Nat}
/-- found.append(e) -/
theorem S.append (j : Nat) (hj : ds[j]? = some (.ol xs)) (h : E X ds e d) (hz : xs.length < 16777216) (k : S X rest (ds.set j (.ol (xs ++ [d]))) O) (hN : X.N[j]? = some n := by rfl) (hv : Vis X.env.scope n := by first | exact Or.inl rfl | exact Or.inr (Or.inl rfl) | exact Or.inr (Or.inr rfl))
    (hd : (n == ("__debug__" : Str)) = false := by decide) (hcd : (n == ("__classdict__" : Str)) = false := by decide) (hbase : attributeBase (.Name n p1) "append" X.env (eval (.Name n p1) X.env) = eval (.Name n p1) X.env := by rfl)
    (hfew : ((backTo cpos (starEach [e] X.env)).all (fun x => !x.1) && (backToKw cpos (keywordEach [] X.env)).all (fun x => x.1.isSome) && decide ([e].length + ([] : List Keyword).length + (if ([] : List Keyword).isEmpty then 0 else 1) < 30)) = true := by rfl)
    (hline : (apos.endLine == cpos.line) = true := by rfl) (hs : starEach [e] X.env = (false, eval e X.env) :: starEach [] X.env := by rfl) (hplain : (backTo cpos (starEach [] X.env)).any (·.1) = false := by rfl)
    (hsw : swapsWith (.Call (.Attribute (.Name n p1) "append" apos) [e] [] cpos) none pos.line X.env = pure false := by rfl) :
    S X (.Expr (.Call (.Attribute (.Name n p1) "append" apos) [e] [] cpos) pos :: rest) ds O := S.mk fun He H0e H0 σ H I D M =>
  WSs_of (pss_cons (ps_expr (pe_bm PySem.F.plainAttrs_list PySem.F.slot_list_append PySem.F.type_list_append mt_append (pe_var hN hv hd hcd) (pa_cons pe_W pa_nil hs) hbase hfew hline hs hplain) hsw) (pss_WS (sts := rest))) (by
    obtain ⟨p, vs, e1, e2, e3, e4, e5⟩ := I.sl j _ hj
    refine ⟨_, e1, .inl ⟨rfl, _, SqL.of e4⟩, h He H0e H0 σ H I _ fun v H1 H' I1 f1 d1 => ?_⟩
    obtain ⟨p', vs', g1, g2, g3, g4, g5⟩ := I1.sl j _ hj
    rw [e1] at g1
    obtain rfl : p = p' := by simpa using g1
    refine ⟨p, vs', v, rfl, rfl, g4, by rw [← g5.len, sizeLine_eq]; exact hz, ?_⟩
    exact k He H0e H1 σ _ (I1.mut hj rfl e1 (fun H2 h2 => ⟨p, _, rfl, g2, g3, h2, g5.app (Dats.one d1)⟩) rfl) D (M.mono f1))
/-- found.extend(e), e a new list -/
theorem S.extend (j : Nat) (hj : ds[j]? = some (.ol xs)) (h : E X ds e (.lst ys)) (hz : xs.length + ys.length ≤ 16777216) (k : S X rest (ds.set j (.ol (xs ++ ys))) O) (hN : X.N[j]? = some n := by rfl) (hv : Vis X.env.scope n := by first | exact Or.inl rfl | exact Or.inr (Or.inl rfl) | exact Or.inr (Or.inr rfl))
    (hd : (n == ("__debug__" : Str)) = false := by decide) (hcd : (n == ("__classdict__" : Str)) = false := by decide) (hbase : attributeBase (.Name n p1) "extend" X.env (eval (.Name n p1) X.env) = eval (.Name n p1) X.env := by rfl)
    (hfew : ((backTo cpos (starEach [e] X.env)).all (fun x => !x.1) && (backToKw cpos (keywordEach [] X.env)).all (fun x => x.1.isSome) && decide ([e].length + ([] : List Keyword).length + (if ([] : List Keyword).isEmpty then 0 else 1) < 30)) = true := by rfl)
    (hline : (apos.endLine == cpos.line) = true := by rfl) (hs : starEach [e] X.env = (false, eval e X.env) :: starEach [] X.env := by rfl) (hplain : (backTo cpos (starEach [] X.env)).any (·.1) = false := by rfl)
    (hsw : swapsWith (.Call (.Attribute (.Name n p1) "extend" apos) [e] [] cpos) none pos.line X.env = pure false := by rfl) :
    S X (.Expr (.Call (.Attribute (.Name n p1) "extend" apos) [e] [] cpos) pos :: rest) ds O := S.mk fun He H0e H0 σ H I D M =>
  WSs_of (pss_cons (ps_expr (pe_bm PySem.F.plainAttrs_list PySem.F.slot_list_extend PySem.F.type_list_extend mt_extend (pe_var hN hv hd hcd) (pa_cons pe_W pa_nil hs) hbase hfew hline hs hplain) hsw) (pss_WS (sts := rest))) (by
    obtain ⟨p, vs, e1, e2, e3, e4, e5⟩ := I.sl j _ hj
    refine ⟨_, e1, .inl ⟨rfl, _, SqL.of e4⟩, h He H0e H0 σ H I _ fun v H1 H' I1 f1 d1 => ?_⟩
    obtain ⟨p', vs', g1, g2, g3, g4, g5⟩ := I1.sl j _ hj
    rw [e1] at g1
    obtain rfl : p = p' := by simpa using g1
    obtain ⟨q, ws, rfl, w1, w2⟩ := dat_lst.mp d1
    refine ⟨p, q, vs', ws, rfl, rfl, g4, I1.ex _ _ w1, by rw [← g5.len, ← w2.len, sizeLine_eq]; exact hz, ?_⟩
    exact k He H0e H1 σ _ (I1.mut hj rfl e1 (fun H2 h2 => ⟨p, _, rfl, g2, g3, h2, g5.app w2⟩) rfl) D (M.mono f1))
end

/-! targets -/
theorem G.name (i : Nat) (hN : X.N.Nodup := by first | assumption | decide +kernel) (hi : X.N[i]? = some n := by rfl) (hx : Loc X.env.scope n := by first | exact Or.inl rfl | exact Or.inr rfl) (hf : X.fn n = true ∨ X.env.scope.names.lookup n = some .local := by first | exact .inl rfl | exact .inr rfl) :
    G X (.Name n pos) [i] ds d (ds.set i (.d d)) := fun He H0e H0 σ H v I hd Q q => WG_of (pg_name hN hi hx hf) (q H0 _ H (I.set i hd) (Same.refl _) fun j hj => set_ne (fun e => hj (by rw [e]; simp)))
theorem G.pair {t1 t2 : Expr} {k : Nat} (hc : X.calm = true) (g1 : G X t1 is ds x ds1) (g2 : G X t2 js ds1 y ds2) (hn : (assignEach [t1, t2] X.env).length = 2 := by rfl) (hst : (assignEach [t1, t2] X.env).findIdx? (·.1) = none := by rfl)
    (hs1 : (assignEach [t1, t2] X.env).map (·.2) = assign t1 X.env :: (assignEach [t2] X.env).map (·.2) := by rfl) (hs2 : (assignEach [t2] X.env).map (·.2) = assign t2 X.env :: (assignEach [] X.env).map (·.2) := by rfl) :
    G X (.Tuple [t1, t2] k pos) (is ++ js) ds (.tup [x, y]) ds2 := fun He H0e H0 σ H v I hd Q q =>
  WG_of (pg_tup hc (pgs_cons pg_WG (pgs_cons pg_WG pgs_nil hs2) hs1) hn hst) (by
    obtain ⟨p, vs, rfl, h1, h2⟩ := dat_tup.mp hd
    obtain ⟨v1, v2, rfl, d1, d2⟩ := dats2 h2
    refine ⟨p, _, rfl, Same.sqt I.ex h1, rfl, v1, [v2], rfl, g1 He H0e H0 σ H v1 I d1 _ fun H1 σ1 H1' I1 e1 k1 => ⟨v2, [], rfl, g2 He H0e H1 σ1 H1' v2 I1 (Dat.mono e1 y d2) _ fun H2 σ2 H2' I2 e2 k2 => ⟨rfl, ?_⟩⟩⟩
    exact q H2 σ2 H2' I2 (e1.trans e2) fun j hj => (k2 j fun z => hj (List.mem_append_right _ z)).trans (k1 j fun z => hj (List.mem_append_left _ z)))
/-- a, b = e -/
theorem S.unpack {tg : Expr} (h : E X ds e d) (g : G X tg is ds d ds') (k : S X rest ds' O) (hs : swapsWithSole [tg] e pos.line X.env = pure false := by rfl) (hw : swappedStores [tg] e X.env = pure none := by rfl)
    (h1 : (assignEach [tg] X.env).map (·.2) = [assign tg X.env] := by rfl) : S X (.Assign [tg] e pos :: rest) ds O := S.mk fun He H0e H0 σ H I D M =>
  WSs_of (pss_cons (ps_asg pe_W pg_WG hs hw h1) (pss_WS (sts := rest))) (h He H0e H0 σ H I _ fun v H1 H' I1 e1 d1 => g He H0e H1 σ H' v I1 d1 _ fun H2 σ2 H2' I2 e2 _ => k He H0e H2 σ2 H2' I2 D (M.mono (e1.trans e2)))

/-! what is walked -/
def YD (K : PySem.W.Frag) (H0 : Hp) (d : D) (H1 : Hp) (v : V) (H2 : Hp) : Prop := (H2 = H1 ∧ Dat K H0 d v) ∨ ∃ (p : Addr) (vs : List V) (es : List D), v = .ref p ∧ H1 p = none ∧ H2 = upd H1 p (.tup vs) ∧ d = .tup es ∧ Dats K H0 es vs
structure Good (K : PySem.W.Frag) (H0 : Hp) (J : L2.It) (xs : List D) : Prop where
  walk : ∃ G Y, Walk J xs.length G Y ∧ (∀ H1, Same H0 H1 → G H1) ∧ ∀ i H1 v H2 d, Same H0 H1 → xs[i]? = some d → Y i H1 v H2 → YD K H0 d H1 v H2
def It (X : Cx) (tg iter : Expr) (ds : List Sl) (xs : List D) : Prop := ∃ wi, PI X tg iter wi ∧ ∀ (He H0e H0 : Hp) (σ : L2.St) (H : Hp), Env X.K He H0e ds H0 σ H → ∀ R : L2.It → Hp → Prop,
  (∀ J H0' H', Env X.K He H0e ds H0' σ H' → Same H0 H0' → Good X.K H0' J xs → R J H') → wi σ H R
theorem It.cast (h : It X tg iter ds xs) (e : xs = ys) : It X tg iter ds ys := e ▸ h
theorem It.list (h : E X ds iter (.lst xs)) : It X tg iter ds xs := ⟨_, pi_list pe_W, fun He H0e H0 σ H I R q => h He H0e H0 σ H I _ fun v H1 H' I1 e1 d1 => by
  obtain ⟨a, vs, rfl, g1, g2⟩ := dat_lst.mp d1
  refine ⟨a, rfl, ⟨vs, SqL.of (I1.ex _ _ g1)⟩, q _ H1 H' I1 e1 ⟨⟨fun H => SqL X.K H a vs, YAt vs, by rw [g2.len]; exact walk_list, fun H2 s => SqL.of (s _ _ g1), fun i H2 v H3 d s hd hy => .inl ⟨hy.1, ?_⟩⟩⟩⟩
  obtain ⟨v', k1, k2⟩ := g2.at hd
  rw [hy.2] at k1; cases k1; exact k2⟩
theorem It.tup (h : E X ds iter (.tup xs)) : It X tg iter ds xs := ⟨_, pi_tup pe_W, fun He H0e H0 σ H I R q => h He H0e H0 σ H I _ fun v H1 H' I1 e1 d1 => by
  obtain ⟨a, vs, rfl, g1, g2⟩ := dat_tup.mp d1
  refine ⟨a, rfl, ⟨vs, Same.sqt I1.ex g1⟩, q _ H1 H' I1 e1 ⟨⟨fun H => SqT X.K H a vs, YAt vs, by rw [g2.len]; exact walk_tup, fun H2 s => Same.sqt s g1, fun i H2 v H3 d s hd hy => .inl ⟨hy.1, ?_⟩⟩⟩⟩
  obtain ⟨v', k1, k2⟩ := g2.at hd
  rw [hy.2] at k1; cases k1; exact k2⟩
/-- range(n) -/
theorem It.range1 {p : Pos} {j : Int} (hm : X.mg "range" = none) (h : E X ds a (.int j)) (hb : -(2 ^ 62) ≤ j ∧ j < 2 ^ 62) (hg : Gl X "range" := by rfl) (hs : starEach [a] X.env = [(false, eval a X.env)] := by rfl) (hs2 : starEach [a] X.env = (false, eval a X.env) :: starEach [] X.env := by rfl) :
    It X tg (.Call (.Name "range" p) [a] [] pos) ds ((List.range j.toNat).map fun (i : Nat) => D.int (i : Int)) := ⟨_, pi_range1 hg hm (pa_cons pe_W pa_nil hs2) hs, fun He H0e H0 σ H I R q => h He H0e H0 σ H I _ fun v H1 H' I1 e1 d1 => by
  rw [dat_int] at d1; subst d1
  refine ⟨j, rfl, hb.1, hb.2, q _ H1 H' I1 e1 ⟨⟨_, _, by rw [List.length_map, List.length_range]; exact walk_range (lo := 0), fun _ _ => trivial, fun i H2 v H3 d s hd (hy : YFn (fun i => V.int (0 + (i : Nat))) i H2 v H3) => .inl ⟨hy.1, ?_⟩⟩⟩⟩
  rw [List.getElem?_map] at hd
  obtain ⟨k, hk, rfl⟩ := Option.map_eq_some_iff.mp hd
  obtain ⟨hlt, hk⟩ := List.getElem?_eq_some_iff.mp hk
  rw [List.getElem_range] at hk
  subst hk
  rw [hy.2, dat_int]
  show V.int (0 + ((i : Nat) : Int)) = _
  rw [Int.zero_add]⟩

/-! loops -/
theorem S.for {α : Type} (as : List α) (ι : α → D) (hi : It X tg iter ds (as.map ι)) (P : List α → List Sl → Prop) (h0 : P [] ds)
    (hs : ∀ pre a post ds', as = pre ++ a :: post → P pre ds' → ∃ is ds2, G X tg is ds' (ι a) ds2 ∧ S X body ds2 { nx := P (pre ++ [a]), ct := P (pre ++ [a]), bk := fun ds' => S X rest ds' O, rt := O.rt, ex := O.ex })
    (hd : ∀ ds', P as ds' → S X rest ds' O) (hc : X.calm = true) (hp : PassesOwn (model X.prog X.w) X.A X.env X.xe := by exact PassesOwn.never) (hfs : ∀ x, foldedSetIterable iter X.env x = pure x := by intro _; rfl) : S X (.For tg iter body [] pos :: rest) ds O := S.mk fun He H0e H0 σ H I D M => by
  obtain ⟨wi, pi, rd⟩ := hi
  refine WSs_of (pss_cons (ps_for hp hc pi pg_WG pss_WS hfs) (pss_WS (sts := rest))) (rd He H0e H0 σ H I _ fun J H1 H' I1 e1 gd => ?_)
  obtain ⟨Gw, Y, wk, hG, hY⟩ := gd.walk
  refine for_it wk (D := { D with nx := WSs X rest D }) (fun k σ' H' => ∃ ds' H0', P (as.take k) ds' ∧ Env X.K He H0e ds' H0' σ' H' ∧ Same H1 H0') ⟨ds, H1, by simpa using h0, I1, Same.refl _⟩ (fun k σ' H' _ ⟨ds', H0', _, I', s'⟩ => hG H' (s'.trans I'.ex))
    (fun k v σ' H2 H3 hk ⟨ds', H0', hP, I', s'⟩ hy => ?_) fun σ' H2 ⟨ds', H0', hP, I', s'⟩ => ?_
  · rw [List.length_map] at hk
    have he : as[k]? = some as[k] := List.getElem?_eq_getElem hk
    have split : as = as.take k ++ as[k] :: as.drop (k + 1) := by
      rw [← List.drop_eq_getElem_cons hk, List.take_append_drop]
    have tk : as.take (k + 1) = as.take k ++ [as[k]] := by rw [List.take_succ, he]; rfl
    obtain ⟨is, ds2, hg, hb⟩ := hs _ _ _ ds' split hP
    have hd' : (as.map ι)[k]? = some (ι as[k]) := by rw [List.getElem?_map, he]; rfl
    have body : ∀ (H01 : Hp) (H3 : Hp) (v : V), Env X.K He H0e ds' H01 σ' H3 → Same H0' H01 → Dat X.K H01 (ι as[k]) v → WG X tg v σ' H3 fun σ2 H2 => WSs X body { D with nx := fun σ' H' => ∃ ds' H0', P (as.take (k + 1)) ds' ∧ Env X.K He H0e ds' H0' σ' H' ∧ Same H1 H0', ct := fun σ' H' => ∃ ds' H0', P (as.take (k + 1)) ds' ∧ Env X.K He H0e ds' H0' σ' H' ∧ Same H1 H0', bk := WSs X rest D } σ2 H2 :=
      fun H01 H3 v J1 t1 hv => hg He H0e H01 σ' H3 v J1 hv _ fun H02 σ2 H4 J2 t2 _ => hb He H0e H02 σ2 H4 J2 _
        ⟨fun ds3 H03 σ3 H5 hn J3 t3 => ⟨ds3, H03, by rw [tk]; exact hn, J3, ((s'.trans t1).trans t2).trans t3⟩, M.rt, fun ds3 H03 σ3 H5 hn J3 t3 => hn He H0e H03 σ3 H5 J3 D (M.mono ((((e1.trans s').trans t1).trans t2).trans t3)), fun ds3 H03 σ3 H5 hn J3 t3 => ⟨ds3, H03, by rw [tk]; exact hn, J3, ((s'.trans t1).trans t2).trans t3⟩, M.ex⟩
    rcases hY k H2 v H3 _ (s'.trans I'.ex) hd' hy with ⟨rfl, hv⟩ | ⟨p, vs, es, rfl, hp', rfl, hes, hv⟩
    · exact body H0' _ v I' (Same.refl _) (Dat.mono s' _ hv)
    · have n0 := I'.h0none hp'
      refine body (upd H0' p (.tup vs)) _ _ (I'.new hp') (Same.new n0) ?_
      rw [hes]
      exact dat_tup.mpr ⟨p, vs, rfl, SqT.of upd_same, Dats.mono (s'.trans (Same.new n0)) _ hv⟩
  · rw [List.length_map, List.take_length] at hP
    exact hd ds' hP He H0e H0' σ' H2 I' D (M.mono (e1.trans s'))
theorem S.while (P : Nat → List Sl → Prop) (m : Nat) (h0 : P m ds)
    (hs : ∀ m ds', P m ds' → ∃ k, T X ds' c k ∧ (k = true → S X body ds' { nx := fun d => ∃ l, l < m ∧ P l d, ct := fun d => ∃ l, l < m ∧ P l d, bk := fun ds' => S X rest ds' O, rt := O.rt, ex := O.ex }) ∧ (k = false → S X rest ds' O))
    (hp : PassesOwn (model X.prog X.w) X.A X.env X.xe := by exact PassesOwn.never) : S X (.While c body [] pos :: rest) ds O := S.mk fun He H0e H0 σ H I D M => by
  refine WSs_of (pss_cons (ps_while hp pt_WT pss_WS) (pss_WS (sts := rest))) ⟨fun m σ' H' => ∃ ds' H0', P m ds' ∧ Env X.K He H0e ds' H0' σ' H' ∧ Same H0 H0', ⟨m, ds, H0, h0, I, Same.refl _⟩, fun m σ' H' ⟨ds', H0', hP, I', s'⟩ => ?_⟩
  obtain ⟨k, ht, hT, hF⟩ := hs m ds' hP
  refine ht He H0e H0' σ' H' I' _ fun H1 H1' I1 e1 => ?_
  cases k with
  | true =>
    refine iteT ⟨fun σ2 H2 => ∃ l, l < m ∧ ∃ ds' H0', P l ds' ∧ Env X.K He H0e ds' H0' σ2 H2 ∧ Same H0 H0', fun σ2 H2 h => h, ?_⟩
    exact hT rfl He H0e H1 σ' H1' I1 _ ⟨fun ds3 H03 σ3 H5 ⟨l, hl, hn⟩ J3 t3 => ⟨l, hl, ds3, H03, hn, J3, (s'.trans e1).trans t3⟩, M.rt, fun ds3 H03 σ3 H5 hn J3 t3 => hn He H0e H03 σ3 H5 J3 D (M.mono ((s'.trans e1).trans t3)), fun ds3 H03 σ3 H5 ⟨l, hl, hn⟩ J3 t3 => ⟨l, hl, ds3, H03, hn, J3, (s'.trans e1).trans t3⟩, M.ex⟩
  | false => exact iteF (hF rfl He H0e H1 σ' H1' I1 D (M.mono (s'.trans e1)))

/-! comprehensions -/
abbrev Blk (X : Cx) (scope : Scope) (s : Shared) (H : Hp) (C : Addr) (cl : List (Str × Addr)) (fp : List Addr) : Cx := X.blk s H scope (compEnvC scope cl C X.env) fp
def WTs (X : Cx) (ifs : List Expr) : TT := match ifs with
  | [] => tYes
  | e :: _ => WT X e
/-- none or one test -/
def TTs (X : Cx) (ds : List Sl) (ifs : List Expr) (k : Bool) : Prop := match ifs with
  | [] => k = true
  | [e] => T X ds e k
  | _ => False
theorem pts_WTs {ifs : List Expr} (h : ifs.length ≤ 1) : PTs X ifs (WTs X ifs) := by
  match ifs, h with
  | [], _ => exact pts_nil
  | [e], _ => exact pts_one pt_WT
variable {elt : Expr} {ifs : List Expr} {scope : Scope} {spos : Pos}
def gB (X : Cx) (scope : Scope) (tg : Expr) : TG := fun v σ H Q => ∀ s H' C cl fp, WG (Blk X scope s H' C cl fp) tg v σ H Q
def tB' (X : Cx) (scope : Scope) (ifs : List Expr) : TT := fun σ H Q => ∀ s H' C cl fp, WTs (Blk X scope s H' C cl fp) ifs σ H Q
def eB (X : Cx) (scope : Scope) (elt : Expr) : TE := fun σ H Q => ∀ s H' C cl fp, W (Blk X scope s H' C cl fp) elt σ H Q
theorem lc_read {α : Type} (as : List α) (ι : α → D) (p : α → Bool) (f : α → D) {wi : TI} (rd : ∀ (He H0e H0 : Hp) (σ : L2.St) (H : Hp), Env X.K He H0e ds H0 σ H → ∀ R : L2.It → Hp → Prop,
      (∀ J H0' H', Env X.K He H0e ds H0' σ H' → Same H0 H0' → Good X.K H0' J (as.map ι) → R J H') → wi σ H R) (vs : List Nat) (hz : as.length < 16777216)
    (hb : ∀ a ∈ as, ∃ is ds2, (∀ j ∈ is, j ∈ vs) ∧ ds2.length = ds.length ∧ ∀ s H C cl fp, G (Blk X scope s H C cl fp) tg is (wipeD (hideD ds) vs) (ι a) ds2 ∧ TTs (Blk X scope s H C cl fp) ds2 ifs (p a) ∧ (p a = true → E (Blk X scope s H C cl fp) ds2 elt (f a)))
    (He H0e H0 : Hp) (σ : L2.St) (H : Hp) (I : Env X.K He H0e ds H0 σ H) (Q : VK)
    (q : ∀ p' vs' H0' H', Env X.K He H0e ds H0' σ H' → Same H0 H0' → H' p' = none → Dats X.K H0' ((as.filter p).map f) vs' → Q (.ref p') (upd H' p' (.lst vs'))) :
    tLc wi (gB X scope tg) (tB' X scope ifs) (eB X scope elt) vs σ H Q := by
  refine rd He H0e H0 σ H I _ fun J H1 H' I1 e1 gd D hD => ?_
  obtain ⟨Gw, Y, wk, hG, hY⟩ := gd.walk
  -- beside the new list at D: the heap as it would stand without
  refine lc_it wk (fun k H2 => ∃ H0' H2' acc, Env X.K He H0e ds H0' σ H2' ∧ Same H1 H0' ∧ H2' D = none ∧ H2 = upd H2' D (.lst acc) ∧ Dats X.K H0' (((as.take k).filter p).map f) acc) ⟨H1, H', [], I1, Same.refl _, hD, rfl, by simpa using Dats.nil⟩
    (fun k H2 _ ⟨H0', H2', acc, I', s', n', e2, _⟩ => hG H2 (by rw [e2]; exact (s'.trans I'.ex).trans (Same.new n'))) (fun k v H2 H3 hk ⟨H0', H2', acc, I', s', n', e2, hacc⟩ hy => ?_) fun H2 ⟨H0', H2', acc, I', s', n', e2, hacc⟩ => ?_
  · rw [List.length_map] at hk
    have he : as[k]? = some as[k] := List.getElem?_eq_getElem hk
    have tk : as.take (k + 1) = as.take k ++ [as[k]] := by rw [List.take_succ, he]; rfl
    obtain ⟨is, ds2, his, hlen, hall⟩ := hb _ (List.getElem_mem hk)
    have hd' : (as.map ι)[k]? = some (ι as[k]) := by rw [List.getElem?_map, he]; rfl
    have turn : ∀ (H01 H2x : Hp) (v : V), Env X.K He H0e ds H01 σ H2x → Same H0' H01 → H2x D = none → Dat X.K H01 (ι as[k]) v →
        gB X scope tg v (L2.wipe σ vs) (upd H2x D (.lst acc)) fun σ2 H4 => L2.wipe σ2 vs = L2.wipe σ vs ∧ tB' X scope ifs σ2 H4 fun b H5 => if b = true then eB X scope elt σ2 H5 fun y H6 => ∃ acc, H6 D = some (.lst acc) ∧ acc.length < sizeLine ∧
          (∃ H0' H2' acc', Env X.K He H0e ds H0' σ H2' ∧ Same H1 H0' ∧ H2' D = none ∧ upd H6 D (.lst (acc ++ [y])) = upd H2' D (.lst acc') ∧ Dats X.K H0' (((as.take (k + 1)).filter p).map f) acc')
          else ∃ H0' H2' acc, Env X.K He H0e ds H0' σ H2' ∧ Same H1 H0' ∧ H2' D = none ∧ H5 = upd H2' D (.lst acc) ∧ Dats X.K H0' (((as.take (k + 1)).filter p).map f) acc := by
      intro H01 H2x v J1 t1 nD hv s0 H0x C cl fp
      obtain ⟨hg, htt, hel⟩ := hall s0 H0x C cl fp
      have sD : Same H2x (upd H2x D (.lst acc)) := Same.new nD
      have B := (J1.block sD).wipe vs
      -- behind the block: what stood stands, the list at D beside it
      have back : ∀ (H02 H4 : Hp) (dsx : List Sl) (σx : L2.St), Env X.K (upd H2x D (.lst acc)) H01 dsx H02 σx H4 → Env X.K He H0e ds H02 σ (fun a => if a = D then none else H4 a) ∧ Same H01 H02 ∧ H4 = upd (fun a => if a = D then none else H4 a) D (.lst acc) := by
        intro H02 H4 dsx σx J2
        have hD4 : H4 D = some (.lst acc) := J2.exE D _ upd_same
        have hD0 : H02 D = none := J2.sep D ⟨_, upd_same, fun _ z => by cases z⟩ (J1.h0none nD)
        refine ⟨J1.after J2.ex0 (fun a o h => ?_) (fun a o h => ?_) (fun a h1 h2 => J2.sep a (h1.mono sD) h2), J2.ex0, ?_⟩
        · have z : a ≠ D := fun z => by rw [z, nD] at h; cases h
          rw [if_neg z]
          exact J2.exE a o (sD a o h)
        · have z : a ≠ D := fun z => by rw [z, hD0] at h; cases h
          rw [if_neg z]
          exact J2.ex a o h
        · funext a
          by_cases z : a = D
          · subst z; rw [upd_same]; exact hD4
          · rw [upd_ne z, if_neg z]
      refine hg _ _ H01 _ _ v B hv _ fun H02 σ2 H4 J2 u2 ks => ⟨?_, ?_⟩
      · rw [wipe_eq (τ := L2.wipe σ vs) (by rw [← J2.len, hlen, J1.len, wipe_length]) (fun j hj => ks j fun z => hj (his j z))]
        refine wipe_eq (by rw [wipe_length]) fun j hj => wipe_out hj
      · intro s1 H0y C1 cl1 fp1
        obtain ⟨hg, htt, hel⟩ := hall s1 H0y C1 cl1 fp1
        have accl : acc.length < sizeLine := by
          rw [← hacc.len, List.length_map, sizeLine_eq]
          have q1 := List.length_filter_le p (as.take k)
          rw [List.length_take] at q1
          omega
        have test : ∀ (Qb : Bool → Hp → Prop), (∀ H03 H5, Env X.K (upd H2x D (.lst acc)) H01 ds2 H03 σ2 H5 → Same H02 H03 → Qb (p as[k]) H5) → WTs (Blk X scope s1 H0y C1 cl1 fp1) ifs σ2 H4 Qb := by
          intro Qb hQ
          match ifs, htt with
          | [], htt =>
            have htt' : p as[k] = true := htt
            show Qb true H4
            rw [← htt']
            exact hQ H02 H4 J2 (Same.refl _)
          | [e], htt =>
            have htt' : T (Blk X scope s1 H0y C1 cl1 fp1) ds2 e (p as[k]) := htt
            exact htt' _ _ H02 σ2 H4 J2 Qb fun H03 H5 J3 u3 => hQ H03 H5 J3 u3
        refine test _ fun H03 H5 J3 u3 => ?_
        cases hp : p as[k] with
        | false =>
          refine iteF ?_
          obtain ⟨b1, b2, b3⟩ := back H03 H5 _ _ J3
          refine ⟨H03, _, acc, b1, (s'.trans t1).trans b2, if_pos rfl, b3, ?_⟩
          rw [tk, List.filter_append, List.filter_cons, if_neg (by rw [hp]; decide)]
          simpa using Dats.mono (t1.trans b2) _ hacc
        | true =>
          refine iteT ?_
          intro s2 H0z C2 cl2 fp2
          obtain ⟨hg, htt, hel⟩ := hall s2 H0z C2 cl2 fp2
          refine hel hp _ _ H03 σ2 H5 J3 _ fun y H04 H6 J4 u4 dy => ?_
          obtain ⟨b1, b2, b3⟩ := back H04 H6 _ _ J4
          refine ⟨acc, J4.exE D _ upd_same, accl, H04, _, acc ++ [y], b1, (s'.trans t1).trans b2, if_pos rfl, ?_, ?_⟩
          · rw [b3, upd_upd, ← b3]
          · rw [tk, List.filter_append, List.filter_cons, if_pos hp, List.map_append]
            exact (Dats.mono (t1.trans b2) _ hacc).app (Dats.one dy)
    subst e2
    rcases hY k _ v H3 _ ((s'.trans I'.ex).trans (Same.new n')) hd' hy with ⟨rfl, hv⟩ | ⟨p', vs', es, rfl, hp', rfl, hes, hv⟩
    · exact turn H0' H2' v I' (Same.refl _) n' (Dat.mono s' _ hv)
    · have ne : p' ≠ D := fun z => by rw [z, upd_same] at hp'; cases hp'
      have hp2 : H2' p' = none := by rw [upd_ne ne] at hp'; exact hp'
      have n0 := I'.h0none hp2
      have comm : upd (upd H2' D (.lst acc)) p' (.tup vs') = upd (upd H2' p' (.tup vs')) D (.lst acc) := by
        funext a
        by_cases z : a = p'
        · subst z; rw [upd_same, upd_ne ne, upd_same]
        · rw [upd_ne z]
          by_cases z2 : a = D
          · subst z2; rw [upd_same, upd_same]
          · rw [upd_ne z2, upd_ne z2, upd_ne z]
      rw [comm]
      refine turn (upd H0' p' (.tup vs')) (upd H2' p' (.tup vs')) _ (I'.new hp2) (Same.new n0) (by rw [upd_ne ne.symm]; exact n') ?_
      rw [hes]
      exact dat_tup.mpr ⟨p', vs', rfl, SqT.of upd_same, Dats.mono (s'.trans (Same.new n0)) _ hv⟩
  · rw [List.length_map, List.take_length] at hacc
    subst e2
    exact q D acc H0' H2' I' (e1.trans s') n' hacc
/-- [elt for tg in iter if ..] -/
theorem EL.comp {α : Type} (own : List (Str × Nat)) (as : List α) (ι : α → D) (p : α → Bool) (f : α → D) (hi : It X tg iter ds (as.map ι)) (ok : BlkOk X.N X.env.scope scope own) (hz : as.length < 16777216)
    (hb : ∀ a ∈ as, ∃ is ds2, (∀ j ∈ is, j ∈ own.map (·.2)) ∧ ds2.length = ds.length ∧ ∀ s H C cl fp, G (Blk X scope s H C cl fp) tg is (wipeD (hideD ds) (own.map (·.2))) (ι a) ds2 ∧ TTs (Blk X scope s H C cl fp) ds2 ifs (p a) ∧ (p a = true → E (Blk X scope s H C cl fp) ds2 elt (f a)))
    (hc : X.calm = true) (hN : X.N.Nodup := by first | assumption | decide +kernel) (hl : ifs.length ≤ 1 := by decide) (hs : ∀ x, foldedSetIterable iter X.env x = pure x := by intro _; rfl) : EL X ds (.ListComp elt [⟨tg, iter, ifs, 0⟩] scope pos) ((as.filter p).map f) := by
  obtain ⟨wi, pi, rd⟩ := hi
  exact EL.of (pe_lc (own := own) (g := gB X scope tg) (tt := tB' X scope ifs) (te := eB X scope elt) hc hN pi ok (fun s H C cl fp => ⟨fun pins s' σ H' v u Q I r h => h s H C cl fp pins s' u I r⟩)
    (fun s H C cl fp => ⟨fun pins s' σ H' Q I h => (pts_WTs hl).run pins s' σ H' Q I (h s H C cl fp)⟩) (fun s H C cl fp => ⟨fun pins s' σ H' Q I h => h s H C cl fp pins s' I⟩) hs) fun He H0e H0 σ H I Q q =>
    lc_read as ι p f rd _ hz hb He H0e H0 σ H I Q q
/-- name = [elt for tg in iter if ..] on one line -/
theorem S.asgC {α : Type} (own : List (Str × Nat)) (as : List α) (ι : α → D) (p : α → Bool) (f : α → D) (i : Nat) (hi : It X tg iter ds (as.map ι)) (ok : BlkOk X.N X.env.scope scope own) (hz : as.length < 16777216)
    (hb : ∀ a ∈ as, ∃ is ds2, (∀ j ∈ is, j ∈ own.map (·.2)) ∧ ds2.length = ds.length ∧ ∀ s H C cl fp, G (Blk X scope s H C cl fp) tg is (wipeD (hideD ds) (own.map (·.2))) (ι a) ds2 ∧ TTs (Blk X scope s H C cl fp) ds2 ifs (p a) ∧ (p a = true → E (Blk X scope s H C cl fp) ds2 elt (f a)))
    (hc : X.calm = true) (k : S X rest (ds.set i (.ol ((as.filter p).map f))) O) (hsw : swapsWith (.ListComp elt [⟨tg, iter, ifs, 0⟩] scope pos) (some (.Name n pos')) spos.line X.env = pure true) (hN : X.N.Nodup := by first | assumption | decide +kernel) (hni : X.N[i]? = some n := by rfl)
    (hyl : X.env.scope.names.lookup n = some .local := by rfl) (hl : ifs.length ≤ 1 := by decide) (hs : ∀ x, foldedSetIterable iter X.env x = pure x := by intro _; rfl) :
    S X (.Assign [.Name n pos'] (.ListComp elt [⟨tg, iter, ifs, 0⟩] scope pos) spos :: rest) ds O := S.mk fun He H0e H0 σ H I D M => by
  obtain ⟨wi, pi, rd⟩ := hi
  refine WSs_of (pss_cons (ps_setLc (own := own) (g := gB X scope tg) (tt := tB' X scope ifs) (te := eB X scope elt) hc hN hni hyl hsw pi ok (fun s H C cl fp => ⟨fun pins s' σ H' v u Q I r h => h s H C cl fp pins s' u I r⟩)
    (fun s H C cl fp => ⟨fun pins s' σ H' Q I h => (pts_WTs hl).run pins s' σ H' Q I (h s H C cl fp)⟩) (fun s H C cl fp => ⟨fun pins s' σ H' Q I h => h s H C cl fp pins s' I⟩) hs) (pss_WS (sts := rest))) ?_
  show tLc wi (gB X scope tg) (tB' X scope ifs) (eB X scope elt) (own.map (·.2)) σ H (fun x H1 => gName i x σ H1 (WSs X rest D))
  refine lc_read as ι p f rd _ hz hb He H0e H0 σ H I _ fun q vs H1 H' I1 e1 hq d1 => ?_
  exact k He H0e H1 _ _ (I1.setO i hq fun H2 h2 => ⟨q, vs, rfl, I1.henone hq, I1.h0none hq, h2, d1⟩) D (M.mono e1)
end

/-! ### defs -/
/-- the promise: of arguments ds with F ds d it hands back d -/
def spD (K : PySem.W.Frag) (n : Nat) (F : List D → D → Prop) : Sp := fun vs H Q _ => ∃ (H0 : Hp) (ds : List D) (d : D), Same H0 H ∧ Dats K H0 ds vs ∧ ds.length = n ∧ F ds d ∧
  ∀ v H0' H', Same H0 H0' → Same H H' → Same H0' H' → (∀ a, NT (H a) → H0 a = none → H0' a = none) → Dat K H0' d v → Q v H'
/-- the def x stands and keeps its promise -/
def Def (P : Program) (w : World) (K : PySem.W.Frag) (mg : Str → Option Value) (base : Heap) (k : Nat) (x : Str) (ps : List Str) (F : List D → D → Prop) : Prop :=
  ∃ f fd, FnOk P w K mg base CX0 k f fd ps (spD K ps.length F) ∧ mg x = some (.ref f) ∧ PySem.W.keepIn K (.ref f) = true ∧ Binds K fd ps [] ∧ ∃ oc od osl, K.lookup f = some ⟨oc, od, .func fd, osl⟩
theorem Def.mono {P : Program} {w : World} {K : PySem.W.Frag} {mg : Str → Option Value} {base : Heap} {j k : Nat} {x : Str} {ps : List Str} {F F' : List D → D → Prop} (h : Def P w K mg base j x ps F) (hj : j ≤ k) (hF : ∀ ds d, F' ds d → F ds d) : Def P w K mg base k x ps F' := by
  obtain ⟨f, fd, h1, h2, h3, h4⟩ := h
  exact ⟨f, fd, (h1.mono hj).imp fun vs H Q E ⟨H0, ds, d, a, b, c, e, q⟩ => ⟨H0, ds, d, a, b, c, hF _ _ e, q⟩, h2, h3, h4⟩
section
variable {X : Cx} {ds : List Sl} {e : Expr} {es : List Expr} {d : D} {xs : List D} {pos p : Pos} {x : Str} {ps : List Str} {F : List D → D → Prop} {k : Nat}
theorem E.call (Gd : Def X.prog X.w X.K X.mg X.base k x ps F) (hr : Room k X.A) (ha : EA X ds (e :: es) xs) (hF : F xs d) (hl : xs.length = ps.length := by rfl) (hg : Gl X x := by rfl) (hdb : (x == ("__debug__" : Str)) = false := by decide)
    (he : starEach (e :: es) X.env = (false, eval e X.env) :: starEach es X.env := by rfl) (hpl : (backTo pos (starEach es X.env)).any (·.1) = false := by rfl) : E X ds (.Call (.Name x p) (e :: es) [] pos) d := by
  obtain ⟨f, fd, h1, h2, h3, h4, _⟩ := Gd
  refine E.of (pe_call (E := fun _ _ _ => False) h1 hr hg h2 h3 h4 .nil pass0 pa_WA hdb he hpl) fun He H0e H0 σ H I Q q => ha He H0e H0 σ H I _ fun vs H1 H' I1 e1 d1 => ?_
  refine ⟨H1, xs, d, I1.ex, by rw [List.append_nil]; exact d1, hl, hF, fun v H2 H2' s1 s2 s3 s4 d2 => q v H2 H2' (I1.after s1 s2 s3 s4) (e1.trans s1) d2⟩
end
theorem start_get {N : List Str} {vs : List V} {i : Nat} {v : V} (h : vs[i]? = some v) : (L2.start N vs)[i]? = some (some v) := by
  unfold L2.start
  have hi : i < vs.length := (List.getElem?_eq_some_iff.mp h).1
  rw [List.getElem?_append_left (by simpa using hi), List.getElem?_map, h]; rfl
/-- THE RULE of a def -/
theorem Def.mk {P : Program} {w : World} {K : PySem.W.Frag} {mg : Str → Option Value} {base : Heap} {x : Str} {st : Stmt} {f : Addr} {fd : FuncData} {N ps : List Str} {k : Nat} {F : List D → D → Prop} (Fn : Fun K x x st f fd) (hm : mg x = some (.ref f)) (Sc : FnScope N ps (defScope st))
    (hb : Binds K fd ps []) (hlen : ps.length ≤ N.length)
    (body : ∀ (X : Cx), X.prog = P → X.w = w → X.mg = mg → X.base = base → Room k X.A → ∀ (cdv : Value) (A : Around) (outer : List PySem.Env) (s : Shared) (H : Hp) (E : XK), X = (cxOf CX0 P w K mg base N x (defScope st) f cdv A outer s H E).nox →
      ∀ ds d, ds.length = ps.length → F ds d → S X (defBody st) (ds.map Sl.d ++ List.replicate (N.length - ps.length) Sl.no) { nx := fun _ => d = .non, rt := fun d' => d' = d }) : Def P w K mg base (k + 1) x ps F := by
  refine ⟨f, fd, Fn.ok Sc (fun vs H Q E ⟨H0, ds, d, _, h2, h3, _⟩ => by rw [← h2.len, h3]) (fun cdv A outer s H vs Q E hr ⟨H0, ds, d, h1, h2, h3, h4, h5⟩ => ?_), hm, Fn.kp, hb, ?_⟩
  rotate_left
  · obtain ⟨oc, od, kV, doc, pm, an, cdv, ct, osl, _, lk, _⟩ := Fn.ex
    exact ⟨oc, od, osl, lk⟩
  refine ⟨WSs _ _, pss_WS, ?_⟩
  have hvl : vs.length = ps.length := by rw [← h2.len, h3]
  refine body _ rfl rfl rfl rfl hr cdv A outer s H E rfl ds d h3 h4 H H0 H0 _ H ⟨h1, Same.refl _, Same.refl _, fun _ _ z => z, ?_, fun i sl hi => ?_, fun i j a b _ ha _ oa _ => ?_⟩ _ ⟨fun ds' H0' σ' H' hd I e => ?_, fun d' v H0' H' hd e1 e2 e3 e4 e5 => ?_, fun _ _ _ _ h => h.elim, fun _ _ _ _ h => h.elim, fun _ h => h.elim⟩
  · unfold L2.start
    rw [List.length_append, List.length_append, List.length_map, List.length_map, List.length_replicate, List.length_replicate, h3, hvl]
  · by_cases hlt : i < ds.length
    · rw [List.getElem?_append_left (by simpa using hlt), List.getElem?_map] at hi
      obtain ⟨d', hd', rfl⟩ := Option.map_eq_some_iff.mp hi
      obtain ⟨v, hv, hdv⟩ := h2.at hd'
      exact ⟨v, start_get hv, hdv⟩
    · rw [List.getElem?_append_right (by simpa using hlt), List.getElem?_replicate] at hi
      split at hi
      · cases hi; trivial
      · cases hi
  · have no : ∀ (i : Nat) (a : Sl), (ds.map Sl.d ++ List.replicate (N.length - ps.length) Sl.no)[i]? = some a → a.own = false := fun i a h => by
      rcases List.mem_append.mp (List.mem_of_getElem? h) with h | h
      · obtain ⟨d', _, rfl⟩ := List.mem_map.mp h; rfl
      · rw [List.eq_of_mem_replicate h]; rfl
    rw [no i a ha] at oa; cases oa
  · exact h5 _ H0' H' e I.exE I.ex I.sep (by rw [hd]; exact dat_non.mpr rfl)
  · exact h5 v H0' H' e3 e2 e1 e4 (by rw [← hd]; exact e5)
end Wm

set_option Elab.async false
set_option linter.all false
set_option maxRecDepth 100000
set_option maxHeartbeats 4000000
/-! WmX: raise of an own exception, defs that raise, try .. except. -/
namespace Wm
open PySem PySem.Spec PyProof.Rows L2

/-- what the written part says of an own class of exceptions without __init__ -/
structure Own (K : PySem.W.Frag) (mg : Str → Option Value) (x : Str) (C : Addr) : Prop where
  g : mg x = some (.ref C)
  x : PySem.W.excIn K C [.type "ValueError", .type "Exception", .type "BaseException", .type "object"] "ValueError.__new__" = true
  k : PySem.W.keepIn K (.ref C) = true
  b : PySem.W.subIn K (.ref C) (.type "BaseException") = some true
  t : PySem.W.typeIn K (.ref C) = some (.type "type")
theorem Own.raises {X : Cx} {x : Str} {C : Addr} (h : Own X.K X.mg x C) : Raises X (.ref C) := raises_own h.b h.t
section
variable {X : Cx} {ds ds' : List Sl} {pos pos' np : Pos} {rest body orelse : List Stmt} {O : Outs} {x m : Str} {C : Addr} {j : Nat} {p p2 : Pos}
/-- raise x('m') -/
theorem S.raise (hx : Own X.K X.mg x C) (hc : X.calm = true) (q : O.ex (.ref C)) (hg : Gl X x := by rfl) (hdb : (x == ("__debug__" : Str)) = false := by decide) : S X (.Raise (some (.Call (.Name x p) [.Constant (.str m) j p2] [] pos)) none pos' :: rest) ds O := S.mk fun He H0e H0 σ H I D M => by
  obtain ⟨W, tk, hW⟩ := M.ex _ q
  exact WSs_of (pss_cons (ps_raise hc tk (pmk_own PySem.F.excBase_ValueError hx.x hx.g hx.k hx.raises hg hdb)) (pss_WS (sts := rest))) (hW σ H I.exE)
end

/-! defs that may raise: none for the exception of the class at C -/
def spX (K : PySem.W.Frag) (n : Nat) (C : Addr) (F : List D → Option D → Prop) : Sp := fun vs H Q E => ∃ (H0 : Hp) (ds : List D) (r : Option D), Same H0 H ∧ Dats K H0 ds vs ∧ ds.length = n ∧ F ds r ∧
  (∀ d, r = some d → ∀ v H0' H', Same H0 H0' → Same H H' → Same H0' H' → (∀ a, NT (H a) → H0 a = none → H0' a = none) → Dat K H0' d v → Q v H') ∧ (r = none → ∀ H', Same H H' → E (.ref C) none H')
def DefX (P : Program) (w : World) (K : PySem.W.Frag) (mg : Str → Option Value) (base : Heap) (k : Nat) (x : Str) (ps : List Str) (C : Addr) (F : List D → Option D → Prop) : Prop :=
  ∃ f fd, FnOk P w K mg base (L2.CX P w) k f fd ps (spX K ps.length C F) ∧ mg x = some (.ref f) ∧ PySem.W.keepIn K (.ref f) = true ∧ Binds K fd ps []
/-- THE RULE of a def that may raise -/
theorem DefX.mk {P : Program} {w : World} {K : PySem.W.Frag} {mg : Str → Option Value} {base : Heap} {x : Str} {st : Stmt} {f : Addr} {fd : FuncData} {N ps : List Str} {k : Nat} {C : Addr} {F : List D → Option D → Prop} (Fn : Fun K x x st f fd) (hm : mg x = some (.ref f)) (Sc : FnScope N ps (defScope st))
    (hb : Binds K fd ps []) (hlen : ps.length ≤ N.length)
    (body : ∀ (X : Cx), X.prog = P → X.w = w → X.mg = mg → X.base = base → Room k X.A → ∀ (cdv : Value) (A : Around) (outer : List PySem.Env) (s : Shared) (H : Hp) (E : XK), X = cxOf (L2.CX P w) P w K mg base N x (defScope st) f cdv A outer s H E →
      ∀ ds r, ds.length = ps.length → F ds r → S X (defBody st) (ds.map Sl.d ++ List.replicate (N.length - ps.length) Sl.no) { nx := fun _ => r = some .non, rt := fun d' => r = some d', ex := fun c => c = .ref C ∧ r = none }) : DefX P w K mg base (k + 1) x ps C F := by
  refine ⟨f, fd, Fn.okX Sc (fun vs H Q E ⟨H0, ds, r, _, h2, h3, _⟩ => by rw [← h2.len, h3]) (fun cdv A outer s H vs Q E hr ⟨H0, ds, r, h1, h2, h3, h4, h5, h6⟩ => ?_), hm, Fn.kp, hb⟩
  refine ⟨WSs _ _, pss_WS, ?_⟩
  have hvl : vs.length = ps.length := by rw [← h2.len, h3]
  refine body _ rfl rfl rfl rfl hr cdv A outer s H E rfl ds r h3 h4 H H0 H0 _ H ⟨h1, Same.refl _, Same.refl _, fun _ _ z => z, ?_, fun i sl hi => ?_, fun i j a b _ ha _ oa _ => ?_⟩ _ ⟨fun ds' H0' σ' H' hd I e => ?_, fun d' v H0' H' hd e1 e2 e3 e4 e5 => ?_, fun _ _ _ _ h => h.elim, fun _ _ _ _ h => h.elim, fun c hc => ?_⟩
  · unfold L2.start
    rw [List.length_append, List.length_append, List.length_map, List.length_map, List.length_replicate, List.length_replicate, h3, hvl]
  · by_cases hlt : i < ds.length
    · rw [List.getElem?_append_left (by simpa using hlt), List.getElem?_map] at hi
      obtain ⟨d', hd', rfl⟩ := Option.map_eq_some_iff.mp hi
      obtain ⟨v, hv, hdv⟩ := h2.at hd'
      exact ⟨v, start_get hv, hdv⟩
    · rw [List.getElem?_append_right (by simpa using hlt), List.getElem?_replicate] at hi
      split at hi
      · cases hi; trivial
      · cases hi
  · have no : ∀ (i : Nat) (a : Sl), (ds.map Sl.d ++ List.replicate (N.length - ps.length) Sl.no)[i]? = some a → a.own = false := fun i a h => by
      rcases List.mem_append.mp (List.mem_of_getElem? h) with h | h
      · obtain ⟨d', _, rfl⟩ := List.mem_map.mp h; rfl
      · rw [List.eq_of_mem_replicate h]; rfl
    rw [no i a ha] at oa; cases oa
  · exact h5 _ hd _ H0' H' e I.exE I.ex I.sep (dat_non.mpr rfl)
  · exact h5 d' hd v H0' H' e3 e2 e1 e4 e5
  · obtain ⟨rfl, hr'⟩ := hc
    exact ⟨_, takes_of rfl rfl rfl rfl, fun σ' H' e => h6 hr' H' e⟩

/-! try: name = f(..) except C as e: suite -/
theorem Env.setG {K : PySem.W.Frag} {He H0e H0 H : Hp} {ds : List Sl} {σ : L2.St} (I : Env K He H0e ds H0 σ H) (i : Nat) {s : Sl} {v : V} (h : SlOk K He H0 H (some (some v)) s) (ho : s.own = false) : Env K He H0e (ds.set i s) H0 (σ.set i (some v)) H where
  ex := I.ex
  exE := I.exE
  ex0 := I.ex0
  sep := I.sep
  len := by rw [List.length_set, List.length_set]; exact I.len
  sl := fun j t hs => by
    by_cases e : i = j
    · subst e
      have hi : i < ds.length := by
        have := (List.getElem?_eq_some_iff.mp hs).1
        simpa using this
      rw [List.getElem?_set_self hi] at hs
      cases hs
      rw [List.getElem?_set_self (by rw [← I.len]; exact hi)]
      exact h
    · rw [set_ne e] at hs ⊢
      exact I.sl j t hs
  own := fun j k t u hjk hs ht os ot => by
    have n1 : i ≠ j := fun e => by
      subst e
      have hi : i < ds.length := by
        have := (List.getElem?_eq_some_iff.mp hs).1
        simpa using this
      rw [List.getElem?_set_self hi] at hs
      cases hs; rw [ho] at os; cases os
    have n2 : i ≠ k := fun e => by
      subst e
      have hi : i < ds.length := by
        have := (List.getElem?_eq_some_iff.mp ht).1
        simpa using this
      rw [List.getElem?_set_self hi] at ht
      cases ht; rw [ho] at ot; cases ot
    rw [set_ne n1] at hs
    rw [set_ne n2] at ht
    rw [set_ne n1, set_ne n2]
    exact I.own j k t u hjk hs ht os ot
section
variable {X : Cx} {ds ds' : List Sl} {pos pos' np fp p1 apos pos2 : Pos} {rest suite : List Stmt} {b0 : Stmt} {O : Outs} {f n x en : Str} {C Cx0 : Addr} {i ie k : Nat} {ps : List Str} {F : List D → Option D → Prop} {e : Expr} {es : List Expr} {xs : List D} {r : Option D}
def aB (X : Cx) (es : List Expr) : TA := fun σ H Q => ∀ pn xe, WA (X.tr pn xe) es σ H Q
def tSu (X : Cx) (sts : List Stmt) : Addr → Value → Option Addr → TS := fun a cls d D σ H => ∀ oe pn, Zc cls d oe → (∃ vs, oe.data = .fields vs) → WSs (X.suite a ((a, oe) :: pn)) sts D σ H
/-- the exception that is caught is told by its class -/
abbrev Su (X : Cx) (C : Addr) (a : Addr) (X' : Cx) : Prop := ∃ (oe : Obj) (pn : List (Addr × Obj)), Zc (.ref C) none oe ∧ (∃ vs, oe.data = .fields vs) ∧ X' = X.suite a ((a, oe) :: pn)
theorem S.tryAs (i ie : Nat) (Gd : DefX X.prog X.w X.K X.mg X.base k f ps C F) (hr : Room k X.A) (ha : ∀ pn xe, EA (X.tr pn xe) ds (e :: es) xs) (hF : F xs r) (hcls : PySem.W.exmOne X.K (.ref C) (.ref Cx0) = some true) (hx : X.mg x = some (.ref Cx0))
    (hok : ∀ d, r = some d → S X rest (ds.set i (.d d)) O)
    (hex : r = none → ∀ a X', Su X C a X' → S X' (b0 :: suite) (ds.set ie (.ex a)) { nx := fun ds' => S X rest (ds'.set ie .no) O, rt := O.rt })
    (hl : xs.length = ps.length := by rfl) (hN : X.N.Nodup := by first | assumption | decide +kernel)
    (hgf : Gl X f := by rfl) (hgx : Gl X x := by rfl) (hi : X.N[i]? = some n := by rfl) (hie : X.N[ie]? = some en := by rfl) (hs : X.stack = X.env :: X.outer := by rfl) (hfr : X.env.frame = some X.env.locals := by rfl) (hln : X.env.kindOf en = some .local := by rfl)
    (hxl : Loc X.env.scope n := by first | exact Or.inl rfl | exact Or.inr rfl)
    (hfn : X.fn n = true ∨ X.env.scope.names.lookup n = some .local := by first | exact .inl rfl | exact .inr rfl)
    (hdf : (f == ("__debug__" : Str)) = false := by decide) (hdx : (x == ("__debug__" : Str)) = false := by decide)
    (hst : starEach (e :: es) X.env = (false, eval e X.env) :: starEach es X.env := by rfl) (hpl : (backTo apos (starEach es X.env)).any (·.1) = false := by rfl)
    (hsw2 : swapsWith (.Call (.Name f fp) (e :: es) [] apos) (some (.Name n p1)) pos2.line X.env = pure false := by rfl) :
    S X (.Try [.Assign [.Name n p1] (.Call (.Name f fp) (e :: es) [] apos) pos2] [.ExceptHandler (some (.Name x np)) (some en) (b0 :: suite) pos'] [] [] pos :: rest) ds O := by
  refine S.mk fun He H0e H0 σ H I D M => ?_
  obtain ⟨fa, fd, h1, h2, h3, h4⟩ := Gd
  refine WSs_of (pss_cons (ps_try_as (i := ie) (tb := fun W => tAsg (tCallS (spX X.K ps.length C F) (WE W) (aB X (e :: es))) (gName i)) (ts := tSu X (b0 :: suite)) (Wout := fun _ _ _ _ => False) hs hfr hN hie hln ⟨hgx, hdx, Or.inl hx⟩ takes0
    (fun W pn xe tk _ => pss_one (ps_set (i := i) hN hi hxl (pe_callS h1 hr hgf h2 h3 h4 (fun σ => passAt tk σ) ⟨fun pos pins s σ H Q I h => h pn xe pos pins s I⟩ hdf hst hpl) hsw2 hfn))
    (fun a oe cls d pn hz hf => ⟨fun pins s σ H D I h => h oe pn hz hf pins s I⟩)) (pss_WS (sts := rest))) ?_
  intro pn xe
  refine ha pn xe He H0e H0 σ H I _ fun vs H1' H1 I1 e1 d1 => ⟨H1', xs, r, I1.ex, d1, hl, hF, fun d hd v H2' H2 s1 s2 s3 s4 d2 => ?_, fun hr' H2 s2 => ?_⟩
  · exact hok d hd He H0e H2' _ H2 ((I1.after s1 s2 s3 s4).set i d2) D (M.mono (e1.trans s1))
  · refine ⟨true, hcls, fun _ a na oe pn hz hf => ?_, fun z => nomatch z⟩
    have I2 : Env X.K He H0e ds H1' σ H2 := I1.after (Same.refl _) s2 (I1.ex.trans s2) fun _ _ h => h
    refine hex hr' a _ ⟨oe, pn, hz, hf, rfl⟩ He H0e H1' _ H2 (I2.setG ie (s := .ex a) rfl rfl) _ ⟨fun ds3 H03 σ3 H3 hS I3 e3 => ?_, M.rt, fun _ _ _ _ h => h.elim, fun _ _ _ _ h => h.elim, fun _ h => h.elim⟩
    exact hS He H0e H03 _ H3 (I3.wipe1 ie) D (M.mono (e1.trans e3))
/-- isinstance(e, class) of the exception that is held -/
theorem E.isE {X' : Cx} {a D : Addr} {cn m : Str} {b : Bool} {j : Nat} {p2 p3 : Pos} {cv : Value} (h : Su X D a X') (Ec : ExcC X.K D) (hi : ds[j]? = some (.ex a)) (hisi : X.mg "isinstance" = none) (hcv : (X.mg cn = some cv ∧ (∃ C, cv = .ref C)) ∨ (X.mg cn = none ∧ bootBuiltins cn = some cv ∧ (∃ t, cv = .type t) ∧ cn ≠ "__name__"))
    (hk : PySem.W.kitOne X.K (.ref D) cv = some b) (hg : Gl X "isinstance" := by rfl) (hgc : Gl X cn := by rfl) (hN : X.N[j]? = some m := by rfl) (hv : Vis X.env.scope m := by first | exact Or.inl rfl | exact Or.inr (Or.inl rfl) | exact Or.inr (Or.inr rfl))
    (hd : (m == ("__debug__" : Str)) = false := by decide) (hcd : (m == ("__classdict__" : Str)) = false := by decide) (hdc : (cn == ("__debug__" : Str)) = false := by decide)
    (hs : starEach [Expr.Name m p1, Expr.Name cn p3] X.env = (false, eval (.Name m p1) X.env) :: starEach [Expr.Name cn p3] X.env := by rfl) (hs2 : starEach [Expr.Name cn p3] X.env = (false, eval (.Name cn p3) X.env) :: starEach [] X.env := by rfl)
    (hpl : (backTo apos (starEach [Expr.Name cn p3] X.env)).any (·.1) = false := by rfl) : E X' ds (.Call (.Name "isinstance" p2) [.Name m p1, .Name cn p3] [] apos) (.bl b) := by
  obtain ⟨oe, pn, hz, hf, rfl⟩ := h
  have pc : ∃ c, (∀ u, RelV c u → u = cv) ∧ PE (X.suite a ((a, oe) :: pn)) (.Name cn p3) (tC c) := by
    rcases hcv with ⟨h1, C, rfl⟩ | ⟨h1, h2, ⟨t, rfl⟩, h3⟩
    · exact ⟨.ref C, fun u r => r, pe_glob hgc h1 rfl hdc⟩
    · exact ⟨.ty t, fun u r => r, pe_bltn hgc h1 h2 rfl h3 hdc⟩
  obtain ⟨c, hc1, hc2⟩ := pc
  refine E.of (pe_callB (call_isE Ec hz hf) hg hisi (by decide +kernel) (pa_cons (pe_var hN hv hd hcd) (pa_cons hc2 pa_nil hs2) hs) (by decide) (by decide) hs hpl) fun He H0e H0 σ H I Q q => ?_
  exact ⟨_, I.sl j _ hi, c, cv, b, rfl, hc1, hk, q _ H0 H I (Same.refl _) (dat_bl.mpr rfl)⟩
end
end Wm

set_option Elab.async false
set_option linter.all false
set_option maxRecDepth 100000
set_option maxHeartbeats 4000000
/-! WmE: enumerate of a tuple and of a text, zip of tuples, methods of texts. -/
namespace Wm
open PySem PySem.Spec PyProof.Rows L2

theorem meets_enumB {v : Value} {o : Obj} {H : Heap → Prop} (B : Begins v o H) :
    Meets (Builtin.«enumerate.__new__» ⟨[.type "enumerate", v], []⟩) (fun _ R s => H s.heap ∧
      R (.ok (.ret (.ref (s.heap.push o).objs.size))) { s with heap := (s.heap.push o).push { cls := .type "enumerate", data := .fields #[.none, .bool false, .ref s.heap.objs.size, rawInt 0, .none, .none] } }) :=
  .of_wp fun prog w A R s h => by
    obtain ⟨hp, g, d, tk, os⟩ := s; obtain ⟨h1, h⟩ := h
    have hsub := sub_enumerate
    have q1 : ∀ {A' : Around} {E : Value → Shared → Prop} {Q : Value → Shared → Prop}, Q (.ref hp.objs.size) ⟨hp.push o, g, d, tk, os⟩ → wpAny (model prog w) A' (pyIter v) Q E ⟨hp, g, d, tk, os⟩ :=
      fun q => B.iter prog w _ _ ⟨hp, g, d, tk, os⟩ _ h1 q
    wp_walk using q1
    refine wpAny_stack_any fun st => wpAny_pure ?_
    split
    · rename_i c _ _ _ _ _
      cases (c == Value.type "enumerate")
      · wp_walk using q1
        exact ⟨_, rfl, h⟩
      · wp_walk using q1
        exact ⟨_, rfl, h⟩
    · wp_walk using q1
      exact ⟨_, rfl, h⟩
section
variable {prog : Program} {w : World} {A : Around} {E : Value → Shared → Prop} {s : Shared}
theorem call_enumB {v : Value} {o : Obj} {H : Heap → Prop} {Q : Value → Shared → Prop} (B : Begins v o H) (h1 : H s.heap)
    (h : ∀ h', IsEnum h' (s.heap.objs.size + 1) s.heap.objs.size 0 .none → h'.get? s.heap.objs.size = some o → h'.objs.size = s.heap.objs.size + 2 →
      (∀ b o, s.heap.get? b = some o → h'.get? b = some o) → Q (.ref (s.heap.objs.size + 1)) { s with heap := h' }) :
    wpAny (model prog w) A (call (.type "enumerate") [v]) Q E s := by
  refine callType_new PySem.F.called_enumerate (by decide) (PySem.F.typeCall_enumerate_1 _) (PySem.F.newCall_enumerate_1 _) (fun obj => PySem.F.args_object_init_2 obj _) PySem.F.entry_enumerate_new
    (meets_enumB B) ⟨h1, ?_⟩
  have hz : (s.heap.push o).objs.size = s.heap.objs.size + 1 := Heap.size_push ..
  show _ ∧ _
  rw [hz]
  have he : IsEnum ((s.heap.push o).push { cls := .type "enumerate", data := .fields #[.none, .bool false, .ref s.heap.objs.size, rawInt 0, .none, .none] }) (s.heap.objs.size + 1) s.heap.objs.size 0 .none := by
    have := Heap.get?_push_size (s.heap.push o) (o := { cls := .type "enumerate", data := .fields #[.none, .bool false, .ref s.heap.objs.size, rawInt 0, .none, .none] }) rfl
    rw [hz] at this; exact this
  refine ⟨⟨_, he, rfl⟩, h _ he (Heap.get?_push_of_some _ (Heap.get?_push_size _ B.free)) (by rw [Heap.size_push, hz]) fun b o x => Heap.get?_push_of_some _ (Heap.get?_push_of_some _ x)⟩
end
/-- enumerate of a tuple at a -/
def IteT (K : PySem.W.Frag) (a : Addr) : L2.It :=
  ⟨fun i H => ∃ (xs : List V) (x : V), SqT K H a xs ∧ xs[i]? = some x, fun i H v H' => ∃ T x, v = .ref T ∧ H T = none ∧ H' = upd H T (.tup [.int (i : Nat), x]) ∧ ∀ xs, SqT K H a xs → xs[i]? = some x, fun i H => ∃ xs : List V, SqT K H a xs ∧ xs.length = i⟩
theorem tup_apart {h : Heap} {a it : Addr} {xs : Array Value} {i : Nat} (p : IsTup h a xs) (q : h.IsTupleIter it a i) : a ≠ it := fun z => by
  subst z
  obtain ⟨o, e, c, _⟩ := p
  obtain ⟨o', e', c', _⟩ := q
  rw [e] at e'; cases e'
  rw [c] at c'
  injection c' with c'
  exact absurd c' (by decide)
theorem turn_enumT {P : Program} {w : World} {K : PySem.W.Frag} {elts : List Expr} {kk : Nat} {tpos : Pos} (a e it : Addr) :
    Turn P w K (.Tuple elts kk tpos) (IteT K a) [e, it] e (fun i h => (∃ old, IsEnum h e it ((i : Nat) : Int) old) ∧ h.IsTupleIter it a i ∧ e ≠ it ∧ e ≠ a) where
  mem := by simp
  obj := fun i h st b hb => by
    obtain ⟨⟨old, he⟩, ⟨o, ho, hc, hd⟩, _⟩ := st
    have e' : b = e ∨ b = it := by simpa using hb
    rcases e' with z | z
    · rw [z]; exact ⟨_, he, fun v q => nomatch q⟩
    · rw [z]; exact ⟨o, ho, fun v q => by rw [hd] at q; cases q⟩
  keep := fun i h h' st k => let ⟨⟨old, he⟩, hi, hne⟩ := st; ⟨⟨old, k e (by simp) _ he⟩, hi.at fun o q => k it (by simp) o q, hne⟩
  item := by
    intro X hP hw hK hc i pins s σ H E I hf st hg
    subst hP hw hK
    obtain ⟨⟨old, he⟩, hit, hne, hea⟩ := st
    obtain ⟨xs, x, hq, hx⟩ := hg
    obtain ⟨its, rv, p, hz⟩ := I.tuple hq
    obtain ⟨u, hu, ru⟩ := rv.get hx
    have hel : e < s.heap.objs.size := Heap.lt_size he
    have hil : it < s.heap.objs.size := by obtain ⟨_, q, _⟩ := hit; exact Heap.lt_size q
    have hai : a ≠ it := tup_apart p hit
    have hi : i < its.toArray.size := by
      have := (List.getElem?_eq_some_iff.mp hu).1
      simpa using this
    have D := Draws.tuple (prog := X.prog) (w := X.w) (A := X.A.in1) (by simp [I.ok.hd hc]) it a hai its.toArray
    refine wpAny_pyNext_enum_itemD D he ⟨hit, (show s.heap.IsTuple a its.toArray from p)⟩ hi hne (by simp only [List.mem_cons, List.not_mem_nil, or_false, not_or]; exact ⟨hne, hea⟩) fun y h' tk hy ho hit' hT hsz hk => ?_
    have hyu : y = u := by
      have : its.toArray[i]? = some u := by simpa using hu
      rw [this] at hy; exact (Option.some.inj hy).symm
    subst hyu
    refine ⟨_, rfl, wpAny_letOwnedTupleGo_enum (s := { s with heap := h', toks := tk + 1 }) ho fun h'' he' sb => ?_⟩
    have hT2 : h''.get? s.heap.objs.size = some { cls := .type "tuple", data := .seq #[.int i tk, y] } := (sb.2 _ (Nat.ne_of_gt hel)).trans hT
    have new : ObjOk X.prog X.w (upd H s.heap.objs.size (.tup [.int (i : Nat), x])) h'' s.heap.objs.size (.tup [.int (i : Nat), x]) :=
      ⟨by show 2 ≤ sizeLine; decide, [.int i tk, y], .cons ⟨_, rfl⟩ (.cons ru .nil), ⟨_, hT2, rfl, _, rfl⟩⟩
    have I1 : Inv X pins σ (upd H s.heap.objs.size (.tup [.int (i : Nat), x])) { s with heap := h'', toks := tk + 1 } :=
      I.turnedNew (ch := [e, it]) (fun b ob hb q => (sb.2 b (fun z => hb (by simp [z]))).trans (hk b ob (fun z => hb (by simp [z])) (fun z => hb (by simp [z])) q)) hf (Nat.le_refl _) new
    refine ⟨.ref s.heap.objs.size, _, I1, rfl, ⟨_, x, rfl, I.hok.fresh (Nat.le_refl _), rfl, fun ys hy => by rw [I.tuple_inj hy hq]; exact hx⟩, ⟨⟨y, ?_⟩, hit'.1.at fun o q => (sb.2 it (Ne.symm hne)).trans q, hne, hea⟩, fun b hb => ?_⟩
    · have e1 : ((i + 1 : Nat) : Int) = (i : Int) + 1 := by omega
      rw [e1]; exact he'
    · have hb' : b < s.heap.objs.size := by
        have e' : b = e ∨ b = it := by simpa using hb
        rcases e' with z | z
        · rw [z]; exact hel
        · rw [z]; exact hil
      rw [upd_ne (Nat.ne_of_lt hb')]
      exact (hf b hb).1
  done := by
    intro X hP hw hK hc i pins s σ H E I hf st hg
    subst hP hw hK
    obtain ⟨⟨old, he⟩, hit, hne, hea⟩ := st
    obtain ⟨xs, hq, hx⟩ := hg
    obtain ⟨its, rv, p, hz⟩ := I.tuple hq
    obtain ⟨f0, f1, f2, f3, f4, f5⟩ := hf it (by simp)
    have hl := rv.length
    have hai : a ≠ it := tup_apart p hit
    have hi : i = its.toArray.size := by rw [List.size_toArray]; omega
    have D := Draws.tuple (prog := X.prog) (w := X.w) (A := X.A.in1) (by simp [I.ok.hd hc]) it a hai its.toArray
    subst hi
    exact wpAny_pyNext_enum_endD D he ⟨hit, (show s.heap.IsTuple a its.toArray from p)⟩ fun h' eb => ⟨rfl, I.turned (t' := s.toks) (fun b o hb q => eb b o hb q) f0 f1 f3 f4 f5⟩
  self := fun A i s Q E st h => let ⟨⟨_, he⟩, _⟩ := st; wpAny_pyIter_enum he h
/-- enumerate of a text -/
def IteS (z : Str) : L2.It := ⟨fun i _ => i < z.cps.size, fun i H v H' => ∃ T c, v = .ref T ∧ H T = none ∧ H' = upd H T (.tup [.int (i : Nat), .str ⟨#[c]⟩]) ∧ z.cps[i]? = some c, fun i _ => i = z.cps.size⟩
theorem turn_enumS {P : Program} {w : World} {K : PySem.W.Frag} {elts : List Expr} {kk : Nat} {tpos : Pos} (z : Str) (t : Tok) (e it : Addr) :
    Turn P w K (.Tuple elts kk tpos) (IteS z) [e, it] e (fun i h => (∃ old, IsEnum h e it ((i : Nat) : Int) old) ∧ h.IsStrIter it (strIterType z) z t i ∧ e ≠ it) where
  mem := by simp
  obj := fun i h st b hb => by
    obtain ⟨⟨old, he⟩, ⟨o, ho, hc, hd⟩, _⟩ := st
    have e' : b = e ∨ b = it := by simpa using hb
    rcases e' with z | z
    · rw [z]; exact ⟨_, he, fun v q => nomatch q⟩
    · rw [z]; exact ⟨o, ho, fun v q => by rw [hd] at q; cases q⟩
  keep := fun i h h' st k => let ⟨⟨old, he⟩, ⟨o, ho, r⟩, hne⟩ := st; ⟨⟨old, k e (by simp) _ he⟩, ⟨o, k it (by simp) o ho, r⟩, hne⟩
  item := by
    intro X hP hw hK hc i pins s σ H E I hf st hg
    subst hP hw hK
    obtain ⟨⟨old, he⟩, hit, hne⟩ := st
    have hel : e < s.heap.objs.size := Heap.lt_size he
    have hil : it < s.heap.objs.size := by obtain ⟨_, q, _⟩ := hit; exact Heap.lt_size q
    have D := Draws.text (prog := X.prog) (w := X.w) (A := X.A.in1) (by simp [I.ok.hd hc]) it z t
    refine wpAny_pyNext_enum_itemD D he hit hg hne (by simp only [List.mem_cons, List.not_mem_nil, or_false]; exact hne) fun y h' tk ⟨c, cu, hy, hyv⟩ ho hit' hT hsz hk => ?_
    subst hyv
    refine ⟨_, rfl, wpAny_letOwnedTupleGo_enum (s := { s with heap := h', toks := tk + 1 }) ho fun h'' he' sb => ?_⟩
    have hT2 : h''.get? s.heap.objs.size = some { cls := .type "tuple", data := .seq #[.int i tk, .str ⟨#[c]⟩ cu] } := (sb.2 _ (Nat.ne_of_gt hel)).trans hT
    have new : ObjOk X.prog X.w (upd H s.heap.objs.size (.tup [.int (i : Nat), .str ⟨#[c]⟩])) h'' s.heap.objs.size (.tup [.int (i : Nat), .str ⟨#[c]⟩]) :=
      ⟨by show 2 ≤ sizeLine; decide, [.int i tk, .str ⟨#[c]⟩ cu], .cons ⟨_, rfl⟩ (.cons ⟨_, rfl⟩ .nil), ⟨_, hT2, rfl, _, rfl⟩⟩
    have I1 : Inv X pins σ (upd H s.heap.objs.size (.tup [.int (i : Nat), .str ⟨#[c]⟩])) { s with heap := h'', toks := tk + 1 } :=
      I.turnedNew (ch := [e, it]) (fun b ob hb q => (sb.2 b (fun z => hb (by simp [z]))).trans (hk b ob (fun z => hb (by simp [z])) (fun z => hb (by simp [z])) q)) hf (Nat.le_refl _) new
    refine ⟨.ref s.heap.objs.size, _, I1, rfl, ⟨_, c, rfl, I.hok.fresh (Nat.le_refl _), rfl, hy⟩, ⟨⟨.str ⟨#[c]⟩ cu, ?_⟩, ?_, hne⟩, fun b hb => ?_⟩
    · have e1 : ((i + 1 : Nat) : Int) = (i : Int) + 1 := by omega
      rw [e1]; exact he'
    · obtain ⟨o, ho, r⟩ := hit'
      exact ⟨o, (sb.2 it (Ne.symm hne)).trans ho, r⟩
    · have hb' : b < s.heap.objs.size := by
        have e' : b = e ∨ b = it := by simpa using hb
        rcases e' with z | z
        · rw [z]; exact hel
        · rw [z]; exact hil
      rw [upd_ne (Nat.ne_of_lt hb')]
      exact (hf b hb).1
  done := by
    intro X hP hw hK hc i pins s σ H E I hf st hg
    subst hP hw hK
    obtain ⟨⟨old, he⟩, hit, hne⟩ := st
    obtain ⟨f0, f1, f2, f3, f4, f5⟩ := hf it (by simp)
    have D := Draws.text (prog := X.prog) (w := X.w) (A := X.A.in1) (by simp [I.ok.hd hc]) it z t
    have hg' : i = z.cps.size := hg
    subst hg'
    exact wpAny_pyNext_enum_endD D he hit fun h' eb => ⟨rfl, I.turned (t' := s.toks) (fun b o hb q => eb b o hb q) f0 f1 f3 f4 f5⟩
  self := fun A i s Q E st h => let ⟨⟨_, he⟩, _⟩ := st; wpAny_pyIter_enum he h
def iEnumA (K : PySem.W.Frag) (ta : TA) : TI := fun σ H R => ta σ H fun vs H1 => (∃ a xs, vs = [.ref a] ∧ SqT K H1 a xs ∧ R (IteT K a) H1) ∨ (∃ z, vs = [.str z] ∧ R (IteS z) H1)
theorem pi_enumA {X : Cx} {e : Expr} {ta : TA} {p pos tpos : Pos} {elts : List Expr} {kk : Nat} (hg : Gl X "enumerate") (hm : X.mg "enumerate" = none) (ha : PA X [e] ta) (hs : starEach [e] X.env = [(false, eval e X.env)] := by rfl) :
    PI X (.Tuple elts kk tpos) (.Call (.Name "enumerate" p) [e] [] pos) (iEnumA X.K ta) := by
  refine ⟨fun pins s σ H R I h => ?_⟩
  refine Call_ (ld_blt I hg hm boot_enumerate (PyProof.Rows.callWith_type1 (thn (ha.run pos pins s σ H _ I h) fun us s1 ⟨vs, H1, I1, r1, q1⟩ => ?_) hs rfl))
  have fresh2 : ∀ b ∈ [s1.heap.objs.size + 1, s1.heap.objs.size], FpOk X pins H1 b := fun b hb => by
    have e' : b = s1.heap.objs.size + 1 ∨ b = s1.heap.objs.size := by simpa using hb
    have hle : s1.heap.objs.size ≤ b := by
      rcases e' with z | z
      · rw [z]; exact Nat.le_add_right _ _
      · rw [z]; exact Nat.le_refl _
    exact I1.fpOk hle (I1.hok.fresh hle)
  rcases q1 with ⟨a, xs, rfl, hq, q⟩ | ⟨z, rfl, q⟩
  · cases r1 with
    | cons r rr =>
      cases rr
      cases r
      obtain ⟨its, rv, p', hz⟩ := I1.tuple hq
      have hla : a < s1.heap.objs.size := p'.lt
      refine call_enumB (begins_tuple a its.toArray) (show s1.heap.IsTuple a its.toArray from p') fun h' he hit hsz hk => wpAny_pyIter_enum he ?_
      have I2 : Inv X pins σ H1 { s1 with heap := h' } := I1.kept (t' := s1.toks) hk
      exact ⟨s1.heap.objs.size + 1, [s1.heap.objs.size + 1, s1.heap.objs.size], _, _, H1, rfl, I2, turn_enumT a (s1.heap.objs.size + 1) s1.heap.objs.size, ⟨⟨.none, he⟩, ⟨_, hit, rfl, rfl⟩, Nat.succ_ne_self _, Nat.ne_of_gt (Nat.lt_succ_of_lt hla)⟩, fresh2, q⟩
  · cases r1 with
    | cons r rr =>
      cases rr
      obtain ⟨t, rfl⟩ := r
      refine call_enumB (begins_text z t) trivial fun h' he hit hsz hk => wpAny_pyIter_enum he ?_
      have I2 : Inv X pins σ H1 { s1 with heap := h' } := I1.kept (t' := s1.toks) hk
      exact ⟨s1.heap.objs.size + 1, [s1.heap.objs.size + 1, s1.heap.objs.size], _, _, H1, rfl, I2, turn_enumS z t (s1.heap.objs.size + 1) s1.heap.objs.size, ⟨⟨.none, he⟩, ⟨_, hit, rfl, rfl⟩, Nat.succ_ne_self _⟩, fresh2, q⟩

section
variable {X : Cx} {ds : List Sl} {a b iter tg : Expr} {xs ys : List D} {pos p tpos : Pos} {elts : List Expr} {kk : Nat}
def enumD (xs : List D) : List D := xs.zipIdx.map fun q => D.tup [.int (q.2 : Nat), q.1]
theorem enumD_len (xs : List D) : (enumD xs).length = xs.length := by simp [enumD]
theorem enumD_get {xs : List D} {i : Nat} {d : D} (h : (enumD xs)[i]? = some d) : ∃ x, xs[i]? = some x ∧ d = .tup [.int (i : Nat), x] := by
  unfold enumD at h
  rw [List.getElem?_map] at h
  obtain ⟨q, hq, rfl⟩ := Option.map_eq_some_iff.mp h
  rw [List.getElem?_zipIdx] at hq
  obtain ⟨x, hx, rfl⟩ := Option.map_eq_some_iff.mp hq
  exact ⟨x, hx, by simp⟩
/-- for i, x in enumerate(tuple) -/
theorem It.enumT (B : Bi X) (h : E X ds a (.tup xs)) (hg : Gl X "enumerate" := by rfl) (hs : starEach [a] X.env = [(false, eval a X.env)] := by rfl) (hs2 : starEach [a] X.env = (false, eval a X.env) :: starEach [] X.env := by rfl) :
    It X (.Tuple elts kk tpos) (.Call (.Name "enumerate" p) [a] [] pos) ds (enumD xs) := ⟨_, pi_enumA hg B.enumerate (pa_cons pe_W pa_nil hs2) hs, fun He H0e H0 σ H I R q => h He H0e H0 σ H I _ fun v H1 H' I1 e1 d1 => by
  obtain ⟨c, vs, rfl, g1, g2⟩ := dat_tup.mp d1
  refine .inl ⟨c, vs, rfl, Same.sqt I1.ex g1, q _ H1 H' I1 e1 ⟨⟨fun H => SqT X.K H c vs, fun i H v H' => ∃ T x, v = .ref T ∧ H T = none ∧ H' = upd H T (.tup [.int (i : Nat), x]) ∧ vs[i]? = some x, ⟨fun i H hi w => ?_, fun H w => ⟨vs, w, by rw [enumD_len, g2.len]⟩, fun i H x H' hi w y => ?_⟩, fun H2 s => Same.sqt s g1, fun i H2 v H3 d s hd hy => ?_⟩⟩⟩
  · rw [enumD_len, g2.len] at hi
    exact ⟨vs, vs[i], w, List.getElem?_eq_getElem hi⟩
  · obtain ⟨T, x, y1, y2, y3, y4⟩ := y
    exact ⟨T, x, y1, y2, y3, y4 vs w⟩
  · obtain ⟨T, x, rfl, y2, rfl, y4⟩ := hy
    obtain ⟨dx, hx, rfl⟩ := enumD_get hd
    obtain ⟨v', k1, k2⟩ := g2.at hx
    rw [y4] at k1; cases k1
    exact .inr ⟨T, _, _, rfl, y2, rfl, rfl, Dats.cons (dat_int.mpr rfl) (Dats.one k2)⟩⟩
/-- for i, c in enumerate(text) -/
theorem It.enumS {w : List Nat} (B : Bi X) (h : E X ds a (.str w)) (hg : Gl X "enumerate" := by rfl) (hs : starEach [a] X.env = [(false, eval a X.env)] := by rfl) (hs2 : starEach [a] X.env = (false, eval a X.env) :: starEach [] X.env := by rfl) :
    It X (.Tuple elts kk tpos) (.Call (.Name "enumerate" p) [a] [] pos) ds (enumD (w.map fun c => D.str [c])) := ⟨_, pi_enumA hg B.enumerate (pa_cons pe_W pa_nil hs2) hs, fun He H0e H0 σ H I R q => h He H0e H0 σ H I _ fun v H1 H' I1 e1 d1 => by
  rw [dat_str] at d1; subst d1
  have sz : (sx w).cps.size = w.length := by simp [sx]
  have gt : ∀ i : Nat, (sx w).cps[i]? = w[i]? := fun i => by simp [sx]
  refine .inr ⟨sx w, rfl, q _ H1 H' I1 e1 ⟨⟨fun H => True, fun i H v H' => ∃ T c, v = .ref T ∧ H T = none ∧ H' = upd H T (.tup [.int (i : Nat), .str ⟨#[c]⟩]) ∧ (sx w).cps[i]? = some c, ⟨fun i H hi _ => ?_, fun H _ => ?_, fun i H x H' hi _ y => y⟩, fun _ _ => trivial, fun i H2 v H3 d s hd hy => ?_⟩⟩⟩
  · rw [enumD_len, List.length_map] at hi
    show i < (sx w).cps.size
    rw [sz]; exact hi
  · show _ = (sx w).cps.size
    rw [enumD_len, List.length_map, sz]
  · obtain ⟨T, c, rfl, y2, rfl, y4⟩ := hy
    obtain ⟨dx, hx, rfl⟩ := enumD_get hd
    rw [gt] at y4
    rw [List.getElem?_map, y4] at hx
    cases hx
    exact .inr ⟨T, _, _, rfl, y2, rfl, rfl, Dats.cons (dat_int.mpr rfl) (Dats.one (dat_str.mpr rfl))⟩⟩
/-- for c in text -/
theorem It.str {w : List Nat} (h : E X ds iter (.str w)) : It X tg iter ds (w.map fun c => D.str [c]) := ⟨_, pi_str pe_W, fun He H0e H0 σ H I R q => h He H0e H0 σ H I _ fun v H1 H' I1 e1 d1 => by
  rw [dat_str] at d1; subst d1
  have sz : (sx w).cps.size = w.length := by simp [sx]
  have gt : ∀ i : Nat, (sx w).cps[i]? = w[i]? := fun i => by simp [sx]
  refine ⟨sx w, rfl, q _ H1 H' I1 e1 ⟨⟨_, _, by rw [List.length_map, ← sz]; exact walk_str, fun _ _ => trivial, fun i H2 v H3 d s hd hy => ?_⟩⟩⟩
  obtain ⟨rfl, c, hc, rfl⟩ := hy
  rw [gt] at hc
  rw [List.getElem?_map, hc] at hd
  cases hd
  exact .inl ⟨rfl, dat_str.mpr rfl⟩⟩
/-- for a, b in zip(tuple, tuple) -/
theorem It.zipT (B : Bi X) (h : E X ds a (.tup xs)) (h2 : E X ds b (.tup ys)) (hg : Gl X "zip" := by rfl) (hs : starEach [a, b] X.env = (false, eval a X.env) :: starEach [b] X.env := by rfl) (hs2 : starEach [b] X.env = (false, eval b X.env) :: starEach [] X.env := by rfl)
    (hpl : (backTo pos (starEach [b] X.env)).any (·.1) = false := by rfl) :
    It X (.Tuple elts kk tpos) (.Call (.Name "zip" p) [a, b] [] pos) ds ((xs.zip ys).map fun q => D.tup [q.1, q.2]) :=
  ⟨_, RZ.pi_zipA hg B.zip (pa_cons pe_W (pa_cons pe_W pa_nil hs2) hs) hs hpl, fun He H0e H0 σ H I R q => h He H0e H0 σ H I _ fun v H1 H' I1 e1 d1 => h2 He H0e H1 σ H' I1 _ fun u H2 H2' I2 e2 d2 => by
    obtain ⟨c, vs, rfl, g1, g2⟩ := dat_tup.mp (Dat.mono e2 _ d1)
    obtain ⟨c', ws, rfl, f1, f2⟩ := dat_tup.mp d2
    refine ⟨c, c', vs, ws, rfl, .inr ⟨Same.sqt I2.ex g1, Same.sqt I2.ex f1, q _ H2 H2' I2 (e1.trans e2) ⟨⟨fun H => SqT X.K H c vs ∧ SqT X.K H c' ws, YPair (fun i => vs[i]?) (fun i => ws[i]?), ⟨fun i H hi w => ?_, fun H w => ⟨vs, ws, w.1, w.2, ?_⟩, fun i H x H' hi w y => ?_⟩, fun H3 s => ⟨Same.sqt s g1, Same.sqt s f1⟩, fun i H3 v H4 d s hd hy => ?_⟩⟩⟩⟩
    · rw [List.length_map, List.length_zip, g2.len, f2.len] at hi
      have h1 : i < vs.length := by omega
      have h2 : i < ws.length := by omega
      exact ⟨vs, ws, vs[i], ws[i], w.1, w.2, List.getElem?_eq_getElem h1, List.getElem?_eq_getElem h2⟩
    · rw [List.length_map, List.length_zip, g2.len, f2.len]; omega
    · obtain ⟨T, x, y', y1, y2, y3, y4, y5⟩ := y
      exact ⟨T, x, y', y1, y2, y3, y4 vs w.1, y5 ws w.2⟩
    · obtain ⟨T, x, y', rfl, y2, rfl, y4, y5⟩ := hy
      rw [List.getElem?_map] at hd
      obtain ⟨pq, hpq, rfl⟩ := Option.map_eq_some_iff.mp hd
      rw [List.getElem?_zip_eq_some] at hpq
      obtain ⟨v1, k1, k2⟩ := g2.at hpq.1
      obtain ⟨v2, k3, k4⟩ := f2.at hpq.2
      have y4' : vs[i]? = some x := y4
      have y5' : ws[i]? = some y' := y5
      rw [y4'] at k1; cases k1
      rw [y5'] at k3; cases k3
      exact .inr ⟨T, _, _, rfl, y2, rfl, rfl, Dats.cons k2 (Dats.one k4)⟩⟩
end

/-! ### methods of texts -/
section
variable {X : Cx}
theorem tl_sx (w : List Nat) : TL.tl (sx w) = w := sx_list w
end
end Wm

set_option Elab.async false
set_option linter.all false
set_option maxRecDepth 100000
set_option maxHeartbeats 4000000
/-! WmN: sets of texts, sorted of texts at any length. -/
namespace Wm
open PySem PySem.Spec PyProof.Rows L2

/-! ### a set of texts by the list of its members -/
def keyW (e : Int × Value) : Str := match e.2 with
  | .str x _ => x
  | _ => Str.empty
def GoodW (w : World) (e : Int × Value) : Prop := ∃ x tk, e.2 = Value.str x tk ∧ e.1 = hashStr w x
def putW (ks : List Str) (k : Str) : List Str := if k ∈ ks then ks else ks ++ [k]
theorem putW_nodup {ks : List Str} {k : Str} (h : ks.Nodup) : (putW ks k).Nodup := by
  unfold putW
  split
  · exact h
  · rename_i hk
    rw [List.nodup_append]
    exact ⟨h, by simp, fun a ha b hb e => hk (by rw [List.mem_singleton] at hb; rw [← hb, ← e]; exact ha)⟩
theorem putW_mem {ks : List Str} {k j : Str} : j ∈ putW ks k ↔ j ∈ ks ∨ j = k := by
  unfold putW
  split
  · rename_i hk
    exact ⟨.inl, fun h => h.elim id fun e => e ▸ hk⟩
  · rw [List.mem_append, List.mem_singleton]
theorem putW_len {ks : List Str} {k : Str} : (putW ks k).length ≤ ks.length + 1 := by
  unfold putW
  split
  · omega
  · simp
def SetW (w : World) (h : Heap) (a : Addr) (ks : List Str) : Prop :=
  ∃ o es ep t, h.get? a = some o ∧ o.ExactSet ∧ o.data = .set es ep t ∧ (∀ e ∈ es.toList, GoodW w e) ∧ (es.toList.map keyW).Perm ks ∧ ks.Nodup ∧
    es.size < scanBound ∧ t.fits es.size = true ∧ Ris t.place.toList ∧ (w.params.followText "set-order" = true ∨ t.led = true)
section
variable {P : Program} {w : World} {h h' : Heap} {a : Addr} {ks : List Str}
theorem SetW.at (R : SetW w h a ks) (k : ∀ o, h.get? a = some o → h'.get? a = some o) : SetW w h' a ks := by
  obtain ⟨o, es, ep, t, ho, r⟩ := R
  exact ⟨o, es, ep, t, k o ho, r⟩
theorem goodW_elems {l : List (Int × Value)} (g : ∀ e ∈ l, GoodW w e) : ElemsOf (PySem.strKind P w) l := fun e he => by
  obtain ⟨x, tk, h1, h2⟩ := g e he
  exact ⟨⟨x, by rw [h1]; exact strKind_is P w x tk, h2⟩, by rw [h1] <;> rfl⟩
theorem goodW_is {e : Int × Value} (g : GoodW w e) (k : Str) : (PySem.strKind P w).is k e.2 = true ↔ keyW e = k := by
  obtain ⟨x, tk, h1, _⟩ := g
  unfold keyW
  rw [h1]
  constructor
  · intro q
    obtain ⟨t, e⟩ := Value.isStrOf_shape (x := k) (v := .str x tk) q
    injection e
  · rintro rfl
    exact strKind_is P w _ tk
theorem goodW_mem {l : List (Int × Value)} (g : ∀ e ∈ l, GoodW w e) (k : Str) : k ∈ l.map keyW ↔ ∃ e ∈ l, (PySem.strKind P w).is k e.2 = true := by
  rw [List.mem_map]
  constructor
  · rintro ⟨e, he, q⟩
    exact ⟨e, he, (goodW_is (g e he) k).2 q⟩
  · rintro ⟨e, he, q⟩
    exact ⟨e, he, (goodW_is (g e he) k).1 q⟩
theorem setW_fresh (w : World) {led : Bool} (hl : w.params.followText "set-order" = true ∨ led = true) (ho : h.get? a = some { cls := .type "set", dict := none, data := .set #[] 0 (.fresh 0 0 led) }) : SetW w h a [] :=
  ⟨_, #[], 0, _, ho, ⟨rfl, rfl, rfl⟩, rfl, (fun e he => by simp at he), by simp, List.nodup_nil, (by decide), (by rfl), List.Pairwise.nil, hl⟩
end
section
variable {P : Program} {w : World} {A : Around} {E : Value → Shared → Prop} {s : Shared} {a : Addr} {ks : List Str}
theorem setW_tail {g : Bool → Sem Unit} (hg : ∀ (b : Bool) (s₁ : Shared) (Q' : Unit → Shared → Prop), Q' () s₁ → wpAny (model P w) A (g b) Q' E s₁)
    {o : Obj} {es : Array (Int × Value)} {ep : Nat} {t : SetTable} (ho : s.heap.get? a = some o) (hex : o.ExactSet) (hd : o.data = .set es ep t)
    {es1 : Array (Int × Value)} {t2 : SetTable} {ks' : List Str} (g1 : ∀ e ∈ es1.toList, GoodW w e) (p1 : (es1.toList.map keyW).Perm ks') (n1 : ks'.Nodup)
    (hb1 : es1.size < scanBound) (hf2 : t2.fits es1.size = true) (hr : Ris t2.place.toList) (hl : w.params.followText "set-order" = true ∨ t2.led = true) {wasDummy : Bool} {R : Option Bool → Shared → Prop}
    (hR : ∀ h', Heap.SameBut a s.heap h' → SetW w h' a ks' → R (some true) { s with heap := h' }) :
    wpAny (model P w) A (do
        storeSet a es1 t2
        if (!wasDummy && t2.tooFull) = true then do
            g (relayAll t2 es1 (SetTable.grown es1.size)).2.2
            storeSet a (relayAll t2 es1 (SetTable.grown es1.size)).1 (relayAll t2 es1 (SetTable.grown es1.size)).2.1
            pure (some true)
          else pure (some true)) R E s := by
  refine wpAny_bind (wpAny_storeSet_of ho hd ?_ (fits_of_scanBound hb1))
  have ho1 := L2.store_at (es' := es1) (t' := t2) ho hd
  have sb1 := Heap.SameBut.update s.heap a (Obj.putSet es1 t2)
  split
  · have pm := relayAll_perm t2 es1 (SetTable.grown es1.size)
    have hf3 := relayAll_fits t2 es1 (SetTable.grown es1.size)
    have hr3 := relayAll_ris t2 es1 (SetTable.grown es1.size)
    have hl3 := relayAll_led t2 es1 (SetTable.grown es1.size)
    generalize relayAll t2 es1 (SetTable.grown es1.size) = Z at pm hf3 hr3 hl3 ⊢
    obtain ⟨es2, t3, gave⟩ := Z
    dsimp only at pm hf3 hr3 hl3 ⊢
    have hsz : es2.size = es1.size := by rw [← Array.length_toList, pm.length_eq, Array.length_toList]
    have hb2 : es2.size < scanBound := by rw [hsz]; exact hb1
    refine wpAny_bind (hg _ _ _ ?_)
    refine wpAny_bind (wpAny_storeSet_of ho1 rfl ?_ (fits_of_scanBound hb2))
    have ho2 := L2.store_at (es' := es2) (t' := t3) ho1 rfl
    refine wpAny_pure (hR _ (sb1.trans (Heap.SameBut.update _ a _)) ?_)
    exact ⟨_, es2, _, t3, ho2, hex, rfl, fun e he => g1 e (pm.mem_iff.mp he), (pm.map keyW).trans p1, n1, hb2, hf3, hr3, hl.imp id fun z => by rw [hl3]; exact z⟩
  · exact wpAny_pure (hR _ sb1 ⟨_, es1, _, t2, ho1, hex, rfl, g1, p1, n1, hb1, hf2, hr, hl⟩)
theorem setW_add {k : Str} {tk : Tok} {Q : Bool → Shared → Prop} (R : SetW w s.heap a ks) (room : ks.length + 1 < scanBound)
    (hQ : ∀ h' b, Heap.SameBut a s.heap h' → SetW w h' a (putW ks k) → Q b { s with heap := h' }) :
    wpAny (model P w) A (setAddHashed a (.str k tk) ((PySem.strKind P w).hash k)) Q E s := by
  obtain ⟨o, es, ep, t, ho, hex, hd, g, pm0, nd, hb, hf, hr, hl⟩ := R
  have hkey : (PySem.strKind P w).is k (.str k tk) = true := strKind_is P w k tk
  have hsc : (Value.str k tk).scannable = true := rfl
  have hel : ElemsOf (PySem.strKind P w) es.toList := goodW_elems g
  unfold setAddHashed setAddHashedIn
  refine wpAny_holding (wpAny_bind (wpAny_setState_of ho hd hf ?_))
  dsimp only
  rw [byScan_of hsc hb hel]
  simp only [↓reduceIte]
  unfold setAddByScan
  refine wpAny_bind ?_
  refine wpAny_bind (wpAny_rule ?_)
  refine wpAny_bind (wpAny_setScan_of hkey ho hd hf hel ?_)
  cases hfi : List.findIdx? (fun e => (PySem.strKind P w).is k e.2) es.toList with
  | some j =>
    dsimp only
    obtain ⟨hj, pj, _⟩ := List.findIdx?_eq_some_iff_getElem.mp hfi
    have hSk : k ∈ ks := pm0.mem_iff.mp ((goodW_mem (P := P) (w := w) g k).2 ⟨es.toList[j], List.getElem_mem hj, pj⟩)
    refine wpAny_pure (wpAny_pure ?_)
    exact hQ s.heap false (Heap.SameBut.refl a s.heap) ⟨o, es, ep, t, ho, hex, hd, g, by unfold putW; rw [if_pos hSk]; exact pm0, putW_nodup nd, hb, hf, hr, hl⟩
  | none =>
    dsimp only
    have hnk : k ∉ ks := fun z => by
      obtain ⟨e, he, q⟩ := (goodW_mem (P := P) (w := w) g k).1 (pm0.mem_iff.mpr z)
      have c := List.findIdx?_eq_none_iff.mp hfi e he
      rw [q] at c
      cases c
    have hgw : ∀ (b : Bool) {s₁ : Shared} {Q' : Unit → Shared → Prop}, Q' () s₁ → wpAny (model P w) A (match b with | true => rule "set.scan.the-table-gave-way" | false => pure ()) Q' E s₁ :=
      fun b s₁ Q' q => by cases b <;> first | exact wpAny_pure q | exact wpAny_rule q
    have pm := layNew_perm t es ((PySem.strKind P w).hash k) (.str k tk)
    have hf1 := layNew_fits t es ((PySem.strKind P w).hash k) (.str k tk)
    have hr1 := layNew_ris t es ((PySem.strKind P w).hash k) (.str k tk) hr
    have hl1 := layNew_led t es ((PySem.strKind P w).hash k) (.str k tk)
    generalize layNew t es ((PySem.strKind P w).hash k) (.str k tk) = Z at pm hf1 hr1 hl1 ⊢
    obtain ⟨es1, t1, wasDummy, gave⟩ := Z
    dsimp only at pm hf1 hr1 hl1 ⊢
    rw [Array.toList_push] at pm
    have pc : es1.toList.Perm (((PySem.strKind P w).hash k, Value.str k tk) :: es.toList) := pm.trans (List.perm_append_singleton _ _)
    have g1 : ∀ e ∈ es1.toList, GoodW w e := fun e he => by
      rcases List.mem_cons.mp (pc.mem_iff.mp he) with z | z
      · rw [z]; exact ⟨k, tk, rfl, rfl⟩
      · exact g e z
    have p1 : (es1.toList.map keyW).Perm (putW ks k) := by
      unfold putW
      rw [if_neg hnk]
      have q : (es1.toList.map keyW).Perm (k :: es.toList.map keyW) := pc.map keyW
      exact q.trans ((List.Perm.cons k pm0).trans (List.perm_append_singleton _ _).symm)
    have hsz : es1.size = ks.length + 1 := by
      rw [← Array.length_toList, pc.length_eq, List.length_cons, ← pm0.length_eq, List.length_map]
    have hb1 : es1.size < scanBound := by rw [hsz]; exact room
    have hled : w.params.followText "set-order" = true ∨ t1.led = true := hl.imp id fun z => by rw [hl1]; exact z
    have fin : ∀ h', Heap.SameBut a s.heap h' → SetW w h' a (putW ks k) → Q true { s with heap := h' } := fun h' sb r => hQ h' true sb r
    refine wpAny_bind (hgw _ ?_)
    split
    · refine wpAny_bind ?_
      rw [hashByValue_scannable 8 hsc]
      refine wpAny_pure ?_
      refine setW_tail ?_ ho hex hd g1 p1 (putW_nodup nd) hb1 ?_ ?_ ?_ ?_
      · intro b s₁ Q' q; cases b <;> first | exact wpAny_pure q | exact wpAny_rule q
      · first | (split <;> first | exact hf1 | exact SetTable.fits_plain_off hf1) | exact hf1
      · first | (split <;> exact hr1) | exact hr1
      · first | (split <;> exact hled) | exact hled
      · intro h' sb r; dsimp only; exact wpAny_pure (fin h' sb r)
    · refine wpAny_bind (wpAny_pure ?_)
      simp only [↓reduceIte]
      refine setW_tail ?_ ho hex hd g1 p1 (putW_nodup nd) hb1 hf1 hr1 hled ?_
      · intro b s₁ Q' q; cases b <;> first | exact wpAny_pure q | exact wpAny_rule q
      · intro h' sb r; dsimp only; exact wpAny_pure (fin h' sb r)
end

/-! ### set(list of texts) -/
section
variable {prog : Program} {w : World} {A : Around} {R : Result → Shared → Prop} {I : Addr} {fp wr : List Addr} {G : Array GenState → Array GenState → Prop} {n : Nat} {P : Nat → Value → Prop} {St : Nat → Shared → Prop}
theorem foldW_len (xs : List Str) : ∀ acc : List Str, (xs.foldl putW acc).length ≤ acc.length + xs.length := by
  induction xs with
  | nil => intro acc; simp
  | cons x xs ih =>
    intro acc
    have h1 := ih (putW acc x)
    have h2 := putW_len (ks := acc) (k := x)
    simp only [List.foldl_cons, List.length_cons]
    omega
theorem loopW (W : WalksS prog w A.in1 I fp wr G n P St) (S : Addr) (hSf : S ∉ fp) (xs : List Str) (hsz : xs.length = n) (hb : n + 1 < scanBound)
    (hval : ∀ i v, P i v → ∃ t, v = .str (xs.getD i Str.empty) t) :
    ∀ (k i : Nat) (s : Shared), n - i = k → i ≤ n → St i s → SetW w s.heap S ((xs.take i).foldl putW []) →
      (∀ s', Moved (S :: wr) G s s' → SetW w s'.heap S (xs.foldl putW []) → R (.ok (.ret .none)) s') →
      codeAny (model prog w) A (.builtin "set.update.loop" ⟨[.ref S, .ref I], []⟩) R s := by
  have hSw : S ∉ wr := fun h => hSf (W.sub _ h)
  have hsub : ∀ b ∈ wr, b ∈ S :: wr := fun b hb => List.mem_cons_of_mem _ hb
  intro k
  induction k with
  | zero =>
    intro i s hk hi hst hS hR
    have hin : i = n := by omega
    subst hin
    refine codeAny_builtin PyProof.Rows.F.entry_set_update_loop ?_
    rw [Around.under_plainId PyProof.Rows.F.plain_set_update_loop _]
    show wpAny _ A.in1 (pyNext (.ref I) >>= _) _ _ s
    refine wpAny_bind (W.done s _ _ hst fun s' hm => ?_)
    show wpAny _ A.in1 (ret Value.none) _ _ s'
    refine wpAny_pure (hR s' (hm.mono hsub) ?_)
    rw [← hsz, List.take_length] at hS
    exact hS.at fun o ho => hm.heap S o hSw ho
  | succ k ih =>
    intro i s hk hi hst hS hR
    have hlt : i < n := by omega
    refine codeAny_builtin PyProof.Rows.F.entry_set_update_loop ?_
    rw [Around.under_plainId PyProof.Rows.F.plain_set_update_loop _]
    show wpAny _ A.in1 (pyNext (.ref I) >>= _) _ _ s
    refine wpAny_bind (W.item i s _ _ hlt hst fun v s' hP hst' hm => ?_)
    obtain ⟨t, rfl⟩ := hval i v hP
    have hS' : SetW w s'.heap S ((xs.take i).foldl putW []) := hS.at fun o ho => hm.heap S o hSw ho
    show wpAny _ A.in1 (holding [Value.str (xs.getD i Str.empty) t] (setAdd S (.str (xs.getD i Str.empty) t)) >>= _) _ _ s'
    refine wpAny_bind (wpAny_holding ?_)
    unfold setAdd
    refine wpAny_holding ?_
    refine wpAny_bind ((PySem.strKind prog w).pyHash (k := xs.getD i Str.empty) (strKind_is _ _ _ _) ?_)
    refine setW_add (P := prog) (s := { s' with toks := s'.toks + 1 }) hS' (by
      have h1 := foldW_len (xs.take i) []
      rw [List.length_take] at h1
      simp only [List.length_nil] at h1
      omega) fun h' b hsb hS2 => ?_
    have hSi : SetW w h' S ((xs.take (i + 1)).foldl putW []) := by
      have he : xs[i]? = some (xs.getD i Str.empty) := by
        rw [List.getD_eq_getElem?_getD, List.getElem?_eq_getElem (by omega)]; rfl
      rw [List.take_succ, he, List.foldl_append]
      exact hS2
    refine wpAny_pure ⟨plainId_quiet PyProof.Rows.F.plain_set_update_loop _, ih (i + 1) _ (by omega) hlt (W.frame _ s' _ _ hst' (Nat.le_succ _) fun b hb o e => ?_) hSi fun s'' hm'' hS'' => ?_⟩
    · rw [hsb.2 b (fun h : b = S => hSf (by rw [← h]; exact hb))]; exact e
    · refine hR s'' (Moved.trans W.gtrans ((hm.mono hsub).then_heap (Nat.le_succ _) fun b o hb e => ?_) hm'') hS''
      rw [hsb.2 b (fun h : b = S => hb (by rw [h]; exact List.mem_cons_self))]; exact e
end
section
variable {prog : Program} {w : World} {A : Around} {E : Value → Shared → Prop} {s : Shared}
theorem code_set_newW (a : Value) {Q₁ : Value → Shared → Prop}
    (h : Q₁ (.ref s.heap.objs.size) { s with heap := s.heap.push { cls := .type "set", dict := none, data := .set #[] 0 (.fresh 0 0 (!w.params.followText "set-order")) } }) :
    codeAny (model prog w) A (.call (.builtin "set.__new__") ⟨[.type "set", a], []⟩) (wants Q₁ E) s := by
  refine codeAny_of_tree ?_
  show wpAny _ A.in1 (do checkBuiltinCall "set.__new__" ⟨[.type "set", a], []⟩; again (.builtin "set.__new__" ⟨[.type "set", a], []⟩)) _ _ s
  refine wpAny_bind (wpAny_of_eq (PySem.F.newCall_set_1 a) (wpAny_pure ⟨plainId_quiet PySem.F.plain_set_new _, codeAny_builtin PySem.F.entry_set_new ?_⟩))
  rw [Around.under_plainId PySem.F.plain_set_new _]
  unfold Builtin.«set.__new__» Builtin.Frozenset.newClass
  have hsub := sub_set_self
  obtain ⟨hp, g, d, tk, os⟩ := s
  dsimp only
  wp_walk
  refine wpAny_askSetting (wpAny_pure ?_)
  dsimp only
  simp only [newObj]
  refine wpAny_bind (wpAny_alloc (wpAny_pure ?_))
  exact wpAny_pure h
theorem call_setW {l : Addr} {items : Array Value} {xs : List Str} {Q : Value → Shared → Prop} (hh : A.handled = none) (hl : s.heap.IsList l items) (hi : PyProof.Rows.StrsAre items.toList xs) (hn1 : xs.length + 1 < scanBound)
    (h : ∀ (h' : Heap) (tk : Nat), SetW w h' s.heap.objs.size (xs.foldl putW []) → (∀ b o, b < s.heap.objs.size → s.heap.get? b = some o → h'.get? b = some o) → Q (.ref s.heap.objs.size) { s with heap := h', toks := tk }) :
    wpAny (model prog w) A (call (.type "set") [.ref l]) Q E s := by
  obtain ⟨c, tl, hmro⟩ := PySem.F.called_set.mro
  have hmade := PySem.F.called_set.made
  have hsub := PySem.F.called_set.sub
  refine wpAny_call (codeAny_of_tree ?_)
  show wpAny _ _ (callAny (.type "set") _) _ _ _
  refine wpAny_pure ⟨Code.quiet_builtin _ (by decide +kernel), codeAny_builtin PySem.F.entry_type_call ?_⟩
  rw [Around.under_plain (weight_type_call_type "set" [.ref l] []) rfl]
  have h1 := PySem.F.called_set.notType
  have h2 := PySem.F.called_set.canCreate
  have hct := PySem.F.typeCall_set_1 (.ref l)
  repeat (any_goals (first | assumption | wp_step))
  generalize hled : (!w.params.followText "set-order") = led
  have hcond : w.params.followText "set-order" = true ∨ led = true := by
    rw [← hled]
    cases w.params.followText "set-order"
    · exact .inr rfl
    · exact .inl rfl
  refine codeAny_mono (code_set_newW (.ref l) (E := E) (Q₁ := fun obj s₁ => obj = .ref s.heap.objs.size ∧ s₁ = { s with heap := s.heap.push { cls := .type "set", dict := none, data := .set #[] 0 (.fresh 0 0 led) } }) ⟨rfl, by rw [hled]⟩) fun r s₁ hr => ?_
  cases r with
  | error e => exact hr
  | ok fl =>
    cases fl with
    | ret obj =>
      obtain ⟨rfl, rfl⟩ := hr
      have hS : (s.heap.push { cls := .type "set", dict := none, data := .set #[] 0 (.fresh 0 0 led) }).get? s.heap.objs.size = some { cls := .type "set", dict := none, data := .set #[] 0 (.fresh 0 0 led) } := Heap.get?_push_size _ rfl
      have hT : Shared.TypeIs { s with heap := s.heap.push { cls := .type "set", dict := none, data := .set #[] 0 (.fresh 0 0 led) } } (.ref s.heap.objs.size) "set" := ⟨_, hS, rfl⟩
      have hli := PySem.F.called_set.init.lookup
      have hbi := PySem.F.called_set.init.bind (.ref s.heap.objs.size)
      repeat (any_goals (first | assumption | wp_step))
      refine codeAny_mono (codeAny_call_builtin (R := wants (fun r s₂ => r = .none ∧ ∃ h' tk, s₂ = { s with heap := h', toks := tk } ∧
          SetW w h' s.heap.objs.size (xs.foldl putW []) ∧ (∀ b o, b < s.heap.objs.size → s.heap.get? b = some o → h'.get? b = some o)) E) PySem.F.called_set.init.plain PySem.F.entry_set_init (check_set_init_1 hT ?_)) fun r₂ s₂ hr₂ => ?_
      · obtain ⟨ol, hol, hcl, nl, hdl⟩ := hl
        obtain ⟨ocls, odict, odata, oslots⟩ := ol
        simp only at hcl hdl
        subst hcl; subst hdl
        have hol' : (s.heap.push { cls := .type "set", dict := none, data := .set #[] 0 (.fresh 0 0 led) }).get? l = some { cls := .type "list", dict := odict, data := .seq items nl, slots := oslots } := Heap.get?_push_of_some _ hol
        have hsls := PySem.F.sub_list_set
        have hslf := PySem.F.sub_list_frozenset
        have hne : (Value.type "list" == Value.type "dict") = false := by decide
        have hl1 : (s.heap.push { cls := .type "set", dict := none, data := .set #[] 0 (.fresh 0 0 led) }).IsList l items := ⟨_, hol', rfl, nl, rfl⟩
        unfold Builtin.«set.__init__» noKeywords Builtin.Frozenset.updateFrom
        generalize hPI : pyIter = PI
        wp_walk
        subst hPI
        refine wpAny_pyIter_list hl1 ?_
        refine wpAny_bind (wpAny_runValue ?_)
        have hlS : l < s.heap.objs.size := Heap.lt_size hol
        have hh3 : A.in1.in1.in1.handled = none := by simp [hh]
        have hneI : l ≠ (s.heap.push { cls := .type "set", dict := none, data := .set #[] 0 (.fresh 0 0 led) }).objs.size := by
          rw [Heap.size_push]; exact Nat.ne_of_lt (Nat.lt_succ_of_lt hlS)
        have hSf : s.heap.objs.size ∉ [(s.heap.push { cls := .type "set", dict := none, data := .set #[] 0 (.fresh 0 0 led) }).objs.size, l] := by
          rw [Heap.size_push]; simp only [List.mem_cons, List.mem_singleton, List.not_mem_nil, or_false, not_or]
          exact ⟨Nat.ne_of_lt (Nat.lt_succ_self _), Nat.ne_of_gt hlS⟩
        have hsz : xs.length = items.size := by rw [← StrsAre.len_eq hi, Array.length_toList]
        have hval : ∀ (i : Nat) (v : Value), items[i]? = some v → ∃ t, v = .str (xs.getD i Str.empty) t := fun i v hv => SS.strs_at hi i v (by rw [Array.getElem?_toList]; exact hv)
        refine loopW ((Walks.list hh3 _ l hneI items).toS) s.heap.objs.size hSf xs hsz (by rw [← hsz]; exact hn1) hval (items.size - 0) 0 _ (by omega) (Nat.zero_le _)
          ⟨⟨_, Heap.get?_push_size _ rfl, rfl, rfl⟩, (hl1.push _)⟩ ?hS0 ?hR
        case hS0 => exact setW_fresh w hcond (Heap.get?_push_of_some _ hS)
        case hR =>
          intro s' hm hS'
          obtain ⟨h', g', d', tk', os'⟩ := s'
          have eg : g' = s.gens := hm.gens
          have ed : d' = s.drawn := hm.drawn
          have eo : os' = s.os := hm.os
          subst eg; subst ed; subst eo
          show wpAny _ _ _ _ _ _
          refine wpAny_pure ?_
          show wpAny _ _ (ret Value.none) _ _ _
          refine wpAny_pure ⟨rfl, h', tk', rfl, hS', fun b o hb e => ?_⟩
          have hb1 : b ≠ s.heap.objs.size := Nat.ne_of_lt hb
          have hb2 : b ≠ (s.heap.push { cls := .type "set", dict := none, data := .set #[] 0 (.fresh 0 0 led) }).objs.size := by
            rw [Heap.size_push]; exact Nat.ne_of_lt (Nat.lt_succ_of_lt hb)
          exact hm.heap b o (by simp only [List.mem_cons, List.mem_singleton, List.not_mem_nil, or_false, not_or]; exact ⟨hb1, hb2⟩) (Heap.get?_push_of_some _ (Heap.get?_push_of_some _ e))
      · cases r₂ with
        | error e => exact hr₂
        | ok fl₂ =>
          cases fl₂ with
          | ret r =>
            obtain ⟨rfl, h', tk, rfl, hS', hk'⟩ := hr₂
            repeat (any_goals (first | assumption | wp_step))
            exact h _ _ hS' hk'
          | _ => exact hr₂.elim
    | _ => exact hr.elim
/-- sorted(the set) -/
theorem sorted_setW {a : Addr} {ks : List Str} {Q : Value → Shared → Prop} (R : SetW w s.heap a ks) (hh : A.handled = none)
    (hQ : ∀ s' p (out : Array Value) (c : Nat) (ys : List Str), (∀ b o, s.heap.get? b = some o → s'.heap.get? b = some o) → s'.gens = s.gens → s'.os = s.os → s.heap.objs.size ≤ p →
      s'.heap.get? p = some (seqObj "list" out c) → StrsAre out.toList ys → ys.Perm ks → sortedS ys = true → Q (.ref p) s') :
    wpAny (model prog w) A (call (.builtin "sorted") [.ref a]) Q E s := by
  obtain ⟨o, es, ep, t, ho, hex, hd, g, pm0, nd, hb, hf, hr, hl⟩ := R
  refine Calls.call_function_entry kind_sorted plain_sorted entry_sorted (args_sorted1 _) ?_
  unfold Builtin.«sorted»
  refine wpAny_bind (m := checkCount "sorted" 1 1 _) (wpAny_pure ?_)
  refine wpAny_bind (collect_set (A := A.in1) hh ⟨o, ho, hex.1, hd⟩ hf hb hr hl fun s1 vs k1 hz g1 o1 pm => ?_)
  have hvl : vs.length = es.size := by rw [pm.length_eq, List.length_map, Array.length_toList]
  have hbl : vs.length ≤ sizeLine := by rw [hvl]; exact fits_of_scanBound hb
  -- the values are texts
  let keyV : Value → Str := fun v => match v with | .str x _ => x | _ => Str.empty
  have hvs : ∀ v ∈ vs, ∃ x tk, v = Value.str x tk := fun v hv => by
    obtain ⟨e, he, q⟩ := List.mem_map.mp (pm.mem_iff.mp hv)
    obtain ⟨x, tk, h1, _⟩ := g e he
    exact ⟨x, tk, by rw [← q]; exact h1⟩
  have hI : StrsAre vs (vs.map keyV) := by
    have go : ∀ l : List Value, (∀ v ∈ l, ∃ x tk, v = Value.str x tk) → StrsAre l (l.map keyV) := by
      intro l
      induction l with
      | nil => intro _; exact .nil
      | cons v l ih =>
        intro h
        obtain ⟨x, tk, rfl⟩ := h v List.mem_cons_self
        exact .cons x tk (ih fun u hu => h u (List.mem_cons_of_mem _ hu))
    exact go vs hvs
  have pk : (vs.map keyV).Perm ks := by
    have q := pm.map keyV
    rw [List.map_map] at q
    exact q.trans pm0
  refine wpAny_bind (wpAny_newList ?_ hbl)
  have hoL : (s1.heap.push (seqObj "list" vs.toArray 0)).get? s1.heap.objs.size = some (seqObj "list" vs.toArray 0) := Heap.get?_push_size _ rfl
  refine wpAny_bind (wpAny_holding (wpAny_call_entry slot_list_sort ⟨_, hoL, rfl⟩ entry_list_sort
    (list_sort_treeKAny strKind_oneLt (s := { s1 with heap := s1.heap.push (seqObj "list" vs.toArray 0) }) hoL hI.keysOf (fun v₁ v₂ rest e => keyKind_strs (by rw [← e]; exact hI)) hbl fun st' hp hs => ⟨_, rfl, ?_⟩) (args_list_sort _)))
  obtain ⟨ys, a1, a2, a3⟩ := sorted_out_str hI hp hs
  obtain ⟨c, hc⟩ := sortedHeap_at (vs := vs) (out := (arrOf st').map (·.2)) hoL
  refine wpAny_pure ⟨_, rfl, hQ _ s1.heap.objs.size _ c ys (fun b u e => ?_) g1 o1 hz hc a1 (a2.trans pk) a3⟩
  have q := k1 b u e
  have hlt := Heap.lt_size q
  show (sortedHeap (s1.heap.push (seqObj "list" vs.toArray 0)) s1.heap.objs.size vs _).get? b = some u
  rw [sortedHeap_old (Nat.ne_of_lt hlt) (by rw [size_push']; exact Nat.lt_succ_of_lt hlt)]
  exact Heap.get?_push_of_some _ q
end
end Wm

set_option Elab.async false
set_option linter.all false
set_option maxRecDepth 100000
set_option maxHeartbeats 4000000
/-! WmS: sorted and set of texts, by values. -/
namespace Wm
open PySem PySem.Spec PyProof.Rows L2

/-! ### the order of texts; a sorted list is one -/
theorem perm_sorted_eq {α : Type} {r : α → α → Prop} (anti : ∀ a b, r a b → r b a → a = b) : ∀ {l m : List α}, l.Perm m → l.Pairwise r → m.Pairwise r → l = m
  | [], m, h, _, _ => by rw [List.nil_perm.mp h]
  | a :: l, m, h, h1, h2 => by
    cases m with
    | nil => exact absurd h.symm (by intro q; have := q.length_eq; simp at this)
    | cons b m =>
      have e : a = b := by
        have ha : a ∈ b :: m := h.mem_iff.mp List.mem_cons_self
        have hb : b ∈ a :: l := h.mem_iff.mpr List.mem_cons_self
        rcases List.mem_cons.mp ha with q | q
        · exact q
        · rcases List.mem_cons.mp hb with q' | q'
          · exact q'.symm
          · exact anti a b (List.rel_of_pairwise_cons h1 q') (List.rel_of_pairwise_cons h2 q)
      subst e
      rw [perm_sorted_eq anti ((List.perm_cons a).mp h) (List.pairwise_cons.mp h1).2 (List.pairwise_cons.mp h2).2]
def leW (a b : List Nat) : Bool := decide (a ≤ b)
def sortW (ws : List (List Nat)) : List (List Nat) := ws.mergeSort leW
theorem leW_total (a b : List Nat) : (leW a b || leW b a) = true := by
  unfold leW
  rcases List.le_total a b with h | h <;> simp [h]
theorem leW_trans (a b c : List Nat) (h1 : leW a b = true) (h2 : leW b c = true) : leW a c = true := by
  unfold leW at *
  rw [decide_eq_true_eq] at *
  exact List.le_trans h1 h2
theorem sortW_perm (ws : List (List Nat)) : (sortW ws).Perm ws := List.mergeSort_perm _ _
theorem sortW_pw (ws : List (List Nat)) : (sortW ws).Pairwise (fun a b => a ≤ b) := by
  have h := List.pairwise_mergeSort (le := leW) leW_trans leW_total ws
  refine h.imp fun q => ?_
  unfold leW at q
  exact of_decide_eq_true q
theorem sortW_unique {ws vs : List (List Nat)} (h : vs.Perm ws) (p : vs.Pairwise (fun a b => a ≤ b)) : vs = sortW ws :=
  perm_sorted_eq (fun a b h1 h2 => List.le_antisymm h1 h2) (h.trans (sortW_perm ws).symm) p (sortW_pw ws)
theorem sortW_of_perm {ws vs : List (List Nat)} (h : vs.Perm ws) : sortW vs = sortW ws := sortW_unique ((sortW_perm vs).trans h) (sortW_pw vs)
theorem mem_sortW {w : List Nat} {ws : List (List Nat)} : w ∈ sortW ws ↔ w ∈ ws := (sortW_perm ws).mem_iff
theorem sortW_len (ws : List (List Nat)) : (sortW ws).length = ws.length := (sortW_perm ws).length_eq
/-- each once -/
def onceW (ws : List (List Nat)) : List (List Nat) := ws.foldl (fun acc w => if w ∈ acc then acc else acc ++ [w]) []
theorem once_fold (ws : List (List Nat)) : ∀ acc : List (List Nat), acc.Nodup → (ws.foldl (fun acc w => if w ∈ acc then acc else acc ++ [w]) acc).Nodup ∧ ∀ w, w ∈ ws.foldl (fun acc w => if w ∈ acc then acc else acc ++ [w]) acc ↔ w ∈ acc ∨ w ∈ ws := by
  induction ws with
  | nil => intro acc h; exact ⟨h, fun w => by simp⟩
  | cons v ws ih =>
    intro acc h
    rw [List.foldl_cons]
    by_cases hv : v ∈ acc
    · rw [if_pos hv]
      obtain ⟨a, b⟩ := ih acc h
      refine ⟨a, fun w => ?_⟩
      rw [b, List.mem_cons]
      constructor
      · rintro (q | q)
        · exact .inl q
        · exact .inr (.inr q)
      · rintro (q | rfl | q)
        · exact .inl q
        · exact .inl hv
        · exact .inr q
    · rw [if_neg hv]
      obtain ⟨a, b⟩ := ih (acc ++ [v]) (by
        rw [List.nodup_append]
        exact ⟨h, by simp, fun x hx y hy e => hv (by rw [List.mem_singleton] at hy; rw [← hy, ← e]; exact hx)⟩)
      refine ⟨a, fun w => ?_⟩
      rw [b, List.mem_append, List.mem_singleton, List.mem_cons]
      constructor
      · rintro ((q | q) | q)
        · exact .inl q
        · exact .inr (.inl q)
        · exact .inr (.inr q)
      · rintro (q | q | q)
        · exact .inl (.inl q)
        · exact .inl (.inr q)
        · exact .inr q
theorem onceW_nodup (ws : List (List Nat)) : (onceW ws).Nodup := (once_fold ws [] List.nodup_nil).1
theorem mem_onceW {w : List Nat} {ws : List (List Nat)} : w ∈ onceW ws ↔ w ∈ ws := by
  unfold onceW
  rw [(once_fold ws [] List.nodup_nil).2]
  simp
/-- sorted(set(..)) -/
def setW (ws : List (List Nat)) : List (List Nat) := sortW (onceW ws)
theorem mem_setW {w : List Nat} {ws : List (List Nat)} : w ∈ setW ws ↔ w ∈ ws := mem_sortW.trans mem_onceW
theorem setW_nodup (ws : List (List Nat)) : (setW ws).Nodup := (sortW_perm _).nodup_iff.mpr (onceW_nodup ws)
theorem setW_ext {ws vs : List (List Nat)} (h : ∀ w, w ∈ ws ↔ w ∈ vs) : setW ws = setW vs :=
  sortW_of_perm ((List.perm_ext_iff_of_nodup (onceW_nodup ws) (onceW_nodup vs)).mpr fun w => by rw [mem_onceW, mem_onceW, h])
theorem sortW_nodup_eq {ws : List (List Nat)} (h : ws.Nodup) : setW ws = sortW ws :=
  sortW_of_perm ((List.perm_ext_iff_of_nodup (onceW_nodup ws) h).mpr fun w => mem_onceW)
theorem onceW_len (ws : List (List Nat)) : (onceW ws).length ≤ ws.length := by
  have key : ∀ (ws acc : List (List Nat)), (ws.foldl (fun acc w => if w ∈ acc then acc else acc ++ [w]) acc).length ≤ acc.length + ws.length := by
    intro ws
    induction ws with
    | nil => intro acc; simp
    | cons v ws ih =>
      intro acc
      rw [List.foldl_cons, List.length_cons]
      split
      · have := ih acc; omega
      · have := ih (acc ++ [v])
        rw [List.length_append, List.length_singleton] at this
        omega
  have := key ws []
  simpa [onceW] using this

/-! ### texts as sorted by Python -/
theorem setW_len (ws : List (List Nat)) : (setW ws).length ≤ ws.length := by
  unfold setW
  rw [(sortW_perm _).length_eq]
  exact onceW_len ws
theorem pairwise_of_sortedS : ∀ {l : List Str}, sortedS l = true → l.Pairwise (fun a b => a.cps.toList ≤ b.cps.toList) := by
  have rise : ∀ (l : List Str) (p : Str), risingS p l = true → (p :: l).Pairwise (fun a b => a.cps.toList ≤ b.cps.toList) := by
    intro l
    induction l with
    | nil => intro p _; exact List.pairwise_singleton ..
    | cons x r ih =>
      intro p h
      have h' : (!ltCps x.cps.toList p.cps.toList && risingS x r) = true := h
      rw [Bool.and_eq_true] at h'
      obtain ⟨a, b⟩ := h'
      rw [ltCps_eq, Bool.not_eq_true', decide_eq_false_iff_not] at a
      have hle : p.cps.toList ≤ x.cps.toList := List.not_lt.mp a
      have hx := ih x b
      refine List.pairwise_cons.mpr ⟨fun y hy => ?_, hx⟩
      rcases List.mem_cons.mp hy with rfl | hy
      · exact hle
      · exact List.le_trans hle (List.rel_of_pairwise_cons hx hy)
  intro l h
  cases l with
  | nil => exact List.Pairwise.nil
  | cons x r => exact rise r x h
theorem sorted_texts {ws : List (List Nat)} {ys : List Str} (h : ys.Perm (ws.map sx)) (s : sortedS ys = true) : ys = (sortW ws).map sx := by
  have e : ys.map (fun y => y.cps.toList) = sortW ws := by
    refine sortW_unique ?_ ?_
    · have q := h.map fun y => y.cps.toList
      rw [List.map_map] at q
      have : (ws.map ((fun y : Str => y.cps.toList) ∘ sx)) = ws := by
        have : ((fun y : Str => y.cps.toList) ∘ sx) = id := funext fun w => sx_list w
        rw [this, List.map_id]
      rwa [this] at q
    · exact List.pairwise_map.mpr (pairwise_of_sortedS s)
  have e2 : (sx ∘ fun y : Str => y.cps.toList) = id := funext fun y => sx_of y
  rw [← e, List.map_map, e2, List.map_id]
theorem fold_putW (ws : List (List Nat)) : ∀ acc : List (List Nat), (ws.map sx).foldl putW (acc.map sx) = (ws.foldl (fun acc w => if w ∈ acc then acc else acc ++ [w]) acc).map sx := by
  have inj : ∀ (w : List Nat) (acc : List (List Nat)), sx w ∈ acc.map sx ↔ w ∈ acc := fun w acc => by
    rw [List.mem_map]
    exact ⟨fun ⟨u, hu, e⟩ => sx_inj e ▸ hu, fun h => ⟨w, h, rfl⟩⟩
  induction ws with
  | nil => intro acc; rfl
  | cons w ws ih =>
    intro acc
    rw [List.map_cons, List.foldl_cons, List.foldl_cons, ← ih]
    congr 1
    unfold putW
    by_cases h : w ∈ acc
    · rw [if_pos h, if_pos ((inj w acc).mpr h)]
    · rw [if_neg h, if_neg (fun q => h ((inj w acc).mp q)), List.map_append]; rfl

/-! ### the rules -/
def SetWO (w : World) (a : Addr) (ks : List Str) : HO := .ext fun h => SetW w h a ks
section
variable {X : Cx}
theorem setWO_new {w : World} {P : Program} {H : Hp} {h : Heap} {a : Addr} {ks : List Str} (R : SetW w h a ks) : ObjOk P w H h a (SetWO w a ks) := by
  have ⟨o, _, _, _, ho, _⟩ := R
  exact ⟨R, ⟨o, ho⟩, fun h1 h2 p k => SetW.at p k⟩
def rSetW (K : PySem.W.Frag) (w : World) : List V → Hp → VK → Prop := fun xs H Q => ∃ (l : Addr) (ys : List Str), xs = [.ref l] ∧ SqL K H l (ys.map V.str) ∧ ys.length + 1 < scanBound ∧ ∀ p, H p = none → Q (.ref p) (upd H p (SetWO w p (ys.foldl putW [])))
theorem cr_setW (hc : X.calm = true) : CallR X (.type "set") (rSetW X.K X.w) := by
  intro pins s σ H xs us Q I r h
  obtain ⟨l, ys, rfl, hs, hb, q⟩ := h
  obtain ⟨its, rv, hl, _⟩ := I.list hs
  rw [Vals.ref1 r]
  refine call_setW (I.ok.hd hc) hl.isList (by simpa using strsAre_of rv) hb fun h' tk R k => ?_
  exact ⟨.ref s.heap.objs.size, upd H s.heap.objs.size (SetWO X.w s.heap.objs.size (ys.foldl putW [])), I.laid (t' := tk) (fun b u e => k b u (Heap.lt_size e) e) (Nat.le_refl _) (setWO_new R), rfl, q _ (I.hok.fresh (Nat.le_refl _))⟩
def rSortedW (w : World) : List V → Hp → VK → Prop := fun xs H Q => ∃ (a : Addr) (ks : List Str), xs = [.ref a] ∧ H a = some (SetWO w a ks) ∧ ks.length ≤ sizeLine ∧ ∀ ys p, ys.Perm ks → sortedS ys = true → H p = none → Q (.ref p) (upd H p (.lst (ys.map V.str)))
theorem cr_sortedW (hc : X.calm = true) : CallR X (.builtin "sorted") (rSortedW X.w) := by
  intro pins s σ H vs us Q I r h
  obtain ⟨a, ks, rfl, ha, hz, q⟩ := h
  have R : SetW X.w s.heap a ks := (I.hok a _ ha).1
  rw [Vals.ref1 r]
  refine sorted_setW R (I.ok.hd hc) fun s' p out c ys k g o hp hg hi hs hm => ?_
  have hlen : (ys.map V.str).length ≤ sizeLine := by rw [List.length_map, hs.length_eq]; exact hz
  have hn : H p = none := I.hok.fresh hp
  have J : Inv X pins σ (upd H p (.lst (ys.map V.str))) { s with heap := s'.heap, gens := s'.gens, drawn := s'.drawn, toks := s'.toks } :=
    I.call (ch := []) (Un.laid k hp hn) (I.hok.laid k hp ⟨hlen, out.toList, c, L2.vals_of_strs hi, hg⟩) (by rw [g]; exact I.bare) (fun _ z => nomatch z)
  have e : s' = { s with heap := s'.heap, gens := s'.gens, drawn := s'.drawn, toks := s'.toks } := by
    cases s'
    cases s
    cases o
    rfl
  rw [e]
  exact ⟨.ref p, _, J, rfl, q ys p hs hm hn⟩
def rLenW (w : World) : List V → Hp → VK → Prop := fun xs H Q => ∃ (a : Addr) (ks : List Str), xs = [.ref a] ∧ H a = some (SetWO w a ks) ∧ Q (.int ks.length) H
theorem cr_lenW : CallR X (.builtin "len") (rLenW X.w) := by
  intro pins s σ H vs us Q I r h
  obtain ⟨a, ks, rfl, ha, q⟩ := h
  have R : SetW X.w s.heap a ks := (I.hok a _ ha).1
  rw [Vals.ref1 r]
  obtain ⟨o, es, ep, t, ho, hex, hd, g, pm, _, hb, hf, _⟩ := R
  have hn : ks.length = es.size := by rw [← pm.length_eq, List.length_map, Array.length_toList]
  have : es.size < 2 ^ 63 := Nat.lt_trans hb (by decide)
  exact call_len_set ho hex hd hf (by omega) ⟨.int ks.length, H, I.tok _, ⟨_, by rw [hn]⟩, q⟩
/-- sorted(list of texts), any length -/
def rSortedL (K : PySem.W.Frag) : List V → Hp → VK → Prop := fun xs H Q => ∃ (a : Addr) (ks : List Str), xs = [.ref a] ∧ SqL K H a (ks.map V.str) ∧ ∀ ys p, ys.Perm ks → sortedS ys = true → H p = none → Q (.ref p) (upd H p (.lst (ys.map V.str)))
theorem cr_sortedL : CallR X (.builtin "sorted") (rSortedL X.K) := by
  intro pins s σ H vs us Q I r h
  obtain ⟨a, ks, rfl, hs, q⟩ := h
  obtain ⟨its, rv, hl, hz⟩ := I.list hs
  rw [Vals.ref1 r]
  have hil : its.length ≤ sizeLine := by rw [← rv.length]; exact hz
  refine sorted_strsAny hl.isList (strsAre_of rv) hil fun out ys hi hp hm => ?_
  obtain ⟨c, hc⟩ := sortedAll_at s.heap its out
  have hlen : (ys.map V.str).length ≤ sizeLine := by rw [List.length_map, hp.length_eq, ← List.length_map (f := V.str)]; exact hz
  exact ⟨.ref (s.heap.objs.size + 1), upd H (s.heap.objs.size + 1) (.lst (ys.map V.str)), I.laid (t' := s.toks) (fun b u e => sortedAll_old e) (Nat.le_succ _) (show ObjOk X.prog X.w _ _ _ (.lst (ys.map V.str)) from ⟨hlen, out.toList, c, L2.vals_of_strs hi, by rw [Array.toArray_toList]; exact hc⟩), rfl, q ys _ hp hm (I.hok.fresh (Nat.le_succ _))⟩
/-- sorted(dict of texts), any length -/
def rSortedDA : List V → Hp → VK → Prop := fun xs H Q => ∃ (a : Addr) (kvs : List (Key × V)) (ks : List Str), xs = [.ref a] ∧ H a = some (.dK kvs) ∧ kvs.map (·.1) = ks.map Sum.inr ∧ ∀ ys p, ys.Perm ks → sortedS ys = true → H p = none → Q (.ref p) (upd H p (.lst (ys.map V.str)))
theorem cr_sortedDA (hcalm : X.calm = true) : CallR X (.builtin "sorted") rSortedDA := by
  intro pins s σ H xs us Q I r q
  obtain ⟨a, kvs, ks, rfl, hd, hks, q⟩ := q
  rw [Vals.ref1 r]
  obtain ⟨z, lo, vs, rel, dd⟩ := dk_of I.hok hd
  obtain ⟨ep, hat⟩ := dd.dictAt
  have hkeys : vs.map (·.1) = ks.map Sum.inr := rel.keys.symm.trans hks
  have hl : vs.length = ks.length := by
    have e := congrArg List.length hkeys
    rw [List.length_map, List.length_map] at e
    exact e
  have h16 : vs.length ≤ sizeLine := by rw [← rel.length]; exact z
  refine Calls.call_function_entry PyProof.Rows.kind_sorted PyProof.Rows.plain_sorted PyProof.Rows.entry_sorted (PyProof.Rows.args_sorted1 _) ?_
  unfold Builtin.«sorted»
  refine wpAny_bind (m := checkCount "sorted" 1 1 _) (wpAny_pure ?_)
  refine wpAny_bind (PySem.W.kdu_collect (A := X.A.in1) (PySem.W.kdl_dict (knd := mixKind X.prog X.w) (kvs := vs) (ep := ep) lo) (I.ok.hd hcalm) hat h16 fun h' tk acc hk hacc => ?_)
  have hal : acc.toList.length = ks.length := by rw [Array.length_toList, hacc.1, hl]
  have hS : StrsAre acc.toList ks := L2.strs_at hal fun j v e => by
    obtain ⟨k, x, e1, e2⟩ := hacc.2 j v (by rw [← Array.getElem?_toList]; exact e)
    have e3 : (vs.map (·.1))[j]? = some k := by rw [List.getElem?_map, e1]; all_goals rfl
    rw [hkeys, List.getElem?_map] at e3
    cases e4 : ks[j]? with
    | none => rw [e4] at e3; cases e3
    | some y =>
      rw [e4] at e3
      have e5 : Sum.inr y = k := Option.some.inj e3
      subst e5
      obtain ⟨t, ev⟩ := Value.isStrOf_shape (x := y) (v := v) e2
      exact ⟨y, t, rfl, ev⟩
  have hz : acc.toList.length ≤ sizeLine := by rw [hal, ← hl]; exact h16
  have I1 : Inv X pins σ H { s with heap := h', toks := tk } := I.kept hk
  refine wpAny_bind (wpAny_newList ?_ hz)
  have hoL : (h'.push (seqObj "list" acc.toList.toArray 0)).get? h'.objs.size = some (seqObj "list" acc.toList.toArray 0) := Heap.get?_push_size _ rfl
  show wpAny _ _ _ _ _ { s with heap := h'.push (seqObj "list" acc.toList.toArray 0), toks := tk }
  refine wpAny_bind (wpAny_holding (wpAny_call_entry PyProof.Rows.slot_list_sort ⟨_, hoL, rfl⟩ PyProof.Rows.entry_list_sort
    (list_sort_treeKAny strKind_oneLt (s := { s with heap := h'.push (seqObj "list" acc.toList.toArray 0), toks := tk }) hoL hS.keysOf (fun v₁ v₂ rest e => keyKind_strs (by rw [← e]; exact hS)) hz fun st' hp hs => ⟨_, rfl, ?_⟩)
    (PyProof.Rows.args_list_sort _)))
  obtain ⟨ys, g1, g2, g3⟩ := sorted_out_str hS hp hs
  obtain ⟨e', he'⟩ := PyProof.Rows.sortedHeap_at (vs := acc.toList) (out := (arrOf st').map (·.2)) hoL
  have hlen : (ys.map V.str).length ≤ sizeLine := by
    rw [List.length_map, g2.length_eq, ← hl]
    exact h16
  refine wpAny_pure ⟨_, rfl, .ref h'.objs.size, upd H h'.objs.size (.lst (ys.map V.str)), I1.laid (t' := tk) (fun b u e => ?_) (Nat.le_refl _)
    (show ObjOk X.prog X.w _ _ _ (.lst (ys.map V.str)) from ⟨hlen, ((arrOf st').map (·.2)).toList, e', L2.vals_of_strs g1, by rw [Array.toArray_toList]; exact he'⟩), rfl, q ys _ g2 g3 (I1.hok.fresh (Nat.le_refl _))⟩
  have hb : b < h'.objs.size := Heap.lt_size e
  rw [PyProof.Rows.sortedHeap_old (Nat.ne_of_lt hb) (by rw [size_push']; exact Nat.lt_succ_of_lt hb)]
  exact Heap.get?_push_of_some _ e
end

section
variable {X : Cx} {ds : List Sl} {a : Expr} {pos p p2 pos2 : Pos} {ws : List (List Nat)}
theorem map_strs (ws : List (List Nat)) : (ws.map fun w => V.str (sx w)) = (ws.map sx).map V.str := by rw [List.map_map]; rfl
theorem CallL.sortedL : CallL X (.builtin "sorted") [.lst (ws.map D.str)] ((sortW ws).map D.str) := ⟨_, cr_sortedL, fun He H0e H0 ds σ H I vs hv Q k => by
  obtain ⟨v, rfl, h⟩ := dats1 hv
  obtain ⟨a, us, rfl, h1, h2⟩ := dat_lst.mp h
  rw [Dats.strs] at h2; subst h2
  refine ⟨a, ws.map sx, rfl, by rw [← map_strs]; exact SqL.of (I.ex _ _ h1), fun ys p hp hs hn => ?_⟩
  rw [sorted_texts hp hs, ← map_strs]
  exact k p _ H0 H I (Same.refl _) hn (Dats.strs.mpr rfl)⟩
/-- sorted(set(e)) -/
theorem EL.sortedSet (B : Bi X) (ha : E X ds a (.lst (ws.map D.str))) (hz : ws.length + 1 < 4096) (hg : Gl X "sorted" := by rfl) (hg2 : Gl X "set" := by rfl)
    (na : starEach [a] X.env = (false, eval a X.env) :: starEach [] X.env := by rfl) (nb : starEach [Expr.Call (.Name "set" p2) [a] [] pos2] X.env = (false, eval (.Call (.Name "set" p2) [a] [] pos2) X.env) :: starEach [] X.env := by rfl)
    (hpl : (backTo pos (starEach [] X.env)).any (·.1) = false := by rfl) (hpl2 : (backTo pos2 (starEach [] X.env)).any (·.1) = false := by rfl) :
    EL X ds (.Call (.Name "sorted" p) [.Call (.Name "set" p2) [a] [] pos2] [] pos) ((setW ws).map D.str) :=
  EL.of (pe_callB (cr_sortedW B.calm) hg B.sorted (by decide +kernel) (pa_cons (pe_callTy (cr_setW B.calm) hg2 B.set (by decide +kernel) (pa_cons pe_W pa_nil na) (by decide) (by decide) na hpl2) pa_nil nb) (by decide) (by decide) nb hpl) fun He H0e H0 σ H I Q q =>
    ha He H0e H0 σ H I _ fun v H1 H' I1 e1 d1 => by
      obtain ⟨a, us, rfl, h1, h2⟩ := dat_lst.mp d1
      rw [Dats.strs] at h2; subst h2
      refine ⟨a, ws.map sx, rfl, by rw [← map_strs]; exact SqL.of (I1.ex _ _ h1), by rw [List.length_map]; exact hz, fun p hp => ?_⟩
      have ef : (ws.map sx).foldl putW [] = (onceW ws).map sx := fold_putW ws []
      refine ⟨p, _, rfl, upd_same, by rw [ef, List.length_map, sizeLine_eq]; have := onceW_len ws; omega, fun ys r hys hs hr => ?_⟩
      rw [ef] at hys
      rw [sorted_texts hys hs, ← map_strs]
      exact q r _ (upd H1 p _) _ (I1.new hp) (e1.trans (Same.new (I1.h0none hp))) hr (Dats.strs.mpr rfl)
/-- len(set(e)) -/
theorem E.lenSet (B : Bi X) (ha : E X ds a (.lst (ws.map D.str))) (hz : ws.length + 1 < 4096) (hg : Gl X "len" := by rfl) (hg2 : Gl X "set" := by rfl)
    (na : starEach [a] X.env = (false, eval a X.env) :: starEach [] X.env := by rfl) (nb : starEach [Expr.Call (.Name "set" p2) [a] [] pos2] X.env = (false, eval (.Call (.Name "set" p2) [a] [] pos2) X.env) :: starEach [] X.env := by rfl)
    (hpl : (backTo pos (starEach [] X.env)).any (·.1) = false := by rfl) (hpl2 : (backTo pos2 (starEach [] X.env)).any (·.1) = false := by rfl) :
    E X ds (.Call (.Name "len" p) [.Call (.Name "set" p2) [a] [] pos2] [] pos) (.int (onceW ws).length) :=
  E.of (pe_callB cr_lenW hg B.len PySem.boot_len (pa_cons (pe_callTy (cr_setW B.calm) hg2 B.set (by decide +kernel) (pa_cons pe_W pa_nil na) (by decide) (by decide) na hpl2) pa_nil nb) (by decide) (by decide) nb hpl) fun He H0e H0 σ H I Q q =>
    ha He H0e H0 σ H I _ fun v H1 H' I1 e1 d1 => by
      obtain ⟨a, us, rfl, h1, h2⟩ := dat_lst.mp d1
      rw [Dats.strs] at h2; subst h2
      refine ⟨a, ws.map sx, rfl, by rw [← map_strs]; exact SqL.of (I1.ex _ _ h1), by rw [List.length_map]; exact hz, fun p hp => ?_⟩
      have ef : (ws.map sx).foldl putW [] = (onceW ws).map sx := fold_putW ws []
      refine ⟨p, _, rfl, upd_same, q _ (upd H1 p _) _ (I1.new hp) (e1.trans (Same.new (I1.h0none hp))) (dat_int.mpr ?_)⟩
      rw [ef, List.length_map]
end
end Wm

set_option Elab.async false
set_option linter.all false
set_option maxRecDepth 100000
set_option maxHeartbeats 4000000
/-! WmM: words, rules, what the program reckons, in plain Lean. -/
namespace Wm
open PySem PySem.Spec PyProof.Rows L2

abbrev Wo := List Nat
abbrev Ru := Wo × Wo
def rd (r : Ru) : D := .tup [.str r.1, .str r.2]
def rsd (rs : List Ru) : D := .tup (rs.map rd)
/-- letters a, b, c -/
def Lw (w : Wo) : Prop := ∀ c ∈ w, c = 97 ∨ c = 98 ∨ c = 99
/-- by length, then letters -/
def ltW (a b : Wo) : Prop := a.length < b.length ∨ (a.length = b.length ∧ a < b)
instance (a b : Wo) : Decidable (ltW a b) := inferInstanceAs (Decidable (_ ∨ _))
structure Rl (r : Ru) : Prop where
  pos : 1 ≤ r.1.length
  most : r.1.length ≤ 12
  lw1 : Lw r.1
  lw2 : Lw r.2
  lt : ltW r.2 r.1
structure Rs (rs : List Ru) : Prop where
  few : rs.length ≤ 20
  all : ∀ r ∈ rs, Rl r
structure Wd (w : Wo) : Prop where
  few : w.length ≤ 100
  lw : Lw w
theorem Rl.le {r : Ru} (h : Rl r) : r.2.length ≤ r.1.length := by
  rcases h.lt with q | q
  · omega
  · omega
theorem Lw.fine {w : Wo} (h : Lw w) : (w.all fun c => decide (c < 1114112)) = true := by
  rw [List.all_eq_true]
  intro c hc
  have := h c hc
  rw [decide_eq_true_eq]
  omega
theorem Lw.app {u w : Wo} (h : Lw u) (g : Lw w) : Lw (u ++ w) := fun c hc => (List.mem_append.mp hc).elim (h c) (g c)
theorem Lw.drop {w : Wo} (h : Lw w) (n : Nat) : Lw (w.drop n) := fun c hc => h c (List.mem_of_mem_drop hc)
theorem Lw.take {w : Wo} (h : Lw w) (n : Nat) : Lw (w.take n) := fun c hc => h c (List.mem_of_mem_take hc)

/-! slices -/
theorem cutA_nn {α : Type} (w : List α) (p q : Nat) : cutA w (some (p : Int)) (some (q : Int)) = (w.drop p).take (q - p) := by
  unfold cutA
  rw [HT.sIx_nat, HT.sIx_nat]
  by_cases h : p ≤ w.length
  · rw [Nat.min_eq_left h]
    by_cases g : q ≤ w.length
    · rw [Nat.min_eq_left g]
    · rw [Nat.min_eq_right (by omega), List.take_of_length_le (by rw [List.length_drop]; omega), List.take_of_length_le (by rw [List.length_drop]; omega)]
  · rw [Nat.min_eq_right (a := p) (by omega), List.drop_length, List.take_nil, List.drop_eq_nil_of_le (by omega), List.take_nil]
theorem cutA_0n {α : Type} (w : List α) (q : Nat) : cutA w none (some (q : Int)) = w.take q := by
  unfold cutA
  rw [HT.sIx_nat, HT.sIx_none, Nat.sub_zero, List.drop_zero]
  by_cases h : q ≤ w.length
  · rw [Nat.min_eq_left h]
  · rw [Nat.min_eq_right (by omega), List.take_of_length_le (Nat.le_refl _), List.take_of_length_le (by omega)]
theorem cutA_n0 {α : Type} (w : List α) (p : Nat) : cutA w (some (p : Int)) none = w.drop p := by
  unfold cutA
  rw [HT.sIx_nat, HT.sIx_none]
  by_cases h : p ≤ w.length
  · rw [Nat.min_eq_left h, List.take_of_length_le (by rw [List.length_drop]; omega)]
  · rw [Nat.min_eq_right (by omega), List.drop_length, List.take_nil, List.drop_eq_nil_of_le (by omega)]

/-! what is reckoned -/
def standsAt (l w : Wo) (p : Nat) : Bool := decide ((w.drop p).take l.length = l)
def placesM (rs : List Ru) (w : Wo) : List (Nat × Nat) := (List.range w.length).flatMap fun p => (rs.zipIdx.filter fun q => standsAt q.1.1 w p).map fun q => (p, q.2)
def chg (r : Ru) (w : Wo) (p : Nat) : Wo := w.take p ++ r.2 ++ w.drop (p + r.1.length)
def changedM (rs : List Ru) (w : Wo) (p k : Nat) : Wo := chg (rs.getD k ([], [])) w p
def nextsM (rs : List Ru) (w : Wo) : List Wo := setW ((placesM rs w).map fun q => changedM rs w q.1 q.2)
def pd (q : Nat × Nat) : D := .tup [.int (q.1 : Nat), .int (q.2 : Nat)]
theorem mem_places {rs : List Ru} {w : Wo} {p k : Nat} : (p, k) ∈ placesM rs w ↔ p < w.length ∧ ∃ r, rs[k]? = some r ∧ standsAt r.1 w p = true := by
  unfold placesM
  rw [List.mem_flatMap]
  constructor
  · rintro ⟨p', hp', h⟩
    obtain ⟨q, hq, e⟩ := List.mem_map.mp h
    obtain ⟨rfl, rfl⟩ := Prod.mk.inj e
    rw [List.mem_filter] at hq
    refine ⟨List.mem_range.mp hp', q.1, ?_, hq.2⟩
    exact List.mem_zipIdx_iff_getElem?.mp hq.1
  · rintro ⟨h, r, hr, hs⟩
    refine ⟨p, List.mem_range.mpr h, List.mem_map.mpr ⟨(r, k), List.mem_filter.mpr ⟨List.mem_zipIdx_iff_getElem?.mpr hr, hs⟩, rfl⟩⟩
theorem placesM_len (rs : List Ru) (w : Wo) : (placesM rs w).length ≤ w.length * rs.length := by
  unfold placesM
  rw [List.length_flatMap]
  have : ∀ (n : Nat), ((List.range n).map fun p => ((rs.zipIdx.filter fun q => standsAt q.1.1 w p).map fun q => (p, q.2)).length).sum ≤ n * rs.length := by
    intro n
    induction n with
    | zero => simp
    | succ n ih =>
      rw [List.range_succ, List.map_append, List.sum_append, Nat.succ_mul]
      have h := List.length_filter_le (fun q => standsAt q.1.1 w n) rs.zipIdx
      rw [List.length_zipIdx] at h
      refine Nat.add_le_add ih ?_
      simp only [List.map_cons, List.map_nil, List.sum_cons, List.sum_nil, List.length_map, Nat.add_zero]
      exact h
  exact this w.length
theorem changed_len {rs : List Ru} {w : Wo} {p k : Nat} (h : Rs rs) (hp : (p, k) ∈ placesM rs w) : (changedM rs w p k).length ≤ w.length := by
  obtain ⟨h1, r, hr, hs⟩ := mem_places.mp hp
  have hrl := h.all r (List.mem_of_getElem? hr)
  have e : rs.getD k ([], []) = r := by rw [List.getD_eq_getElem?_getD, hr]; rfl
  unfold changedM chg
  rw [e]
  have hs' := of_decide_eq_true hs
  have hl := congrArg List.length hs'
  rw [List.length_take, List.length_drop] at hl
  have := hrl.le
  simp only [List.length_append, List.length_take, List.length_drop]
  omega
theorem changed_lw {rs : List Ru} {w : Wo} {p k : Nat} (h : Rs rs) (hw : Lw w) (hp : (p, k) ∈ placesM rs w) : Lw (changedM rs w p k) := by
  obtain ⟨h1, r, hr, hs⟩ := mem_places.mp hp
  have hrl := h.all r (List.mem_of_getElem? hr)
  have e : rs.getD k ([], []) = r := by rw [List.getD_eq_getElem?_getD, hr]; rfl
  unfold changedM chg
  rw [e]
  exact ((hw.take _).app hrl.lw2).app (hw.drop _)
theorem changed_wd {rs : List Ru} {w : Wo} {p k : Nat} (h : Rs rs) (hw : Wd w) (hp : (p, k) ∈ placesM rs w) : Wd (changedM rs w p k) :=
  ⟨Nat.le_trans (changed_len h hp) hw.few, changed_lw h hw.lw hp⟩
theorem mem_nexts {rs : List Ru} {w v : Wo} : v ∈ nextsM rs w ↔ ∃ q ∈ placesM rs w, changedM rs w q.1 q.2 = v := by
  unfold nextsM
  rw [mem_setW, List.mem_map]
theorem nexts_wd {rs : List Ru} {w v : Wo} (h : Rs rs) (hw : Wd w) (hv : v ∈ nextsM rs w) : Wd v := by
  obtain ⟨q, hq, rfl⟩ := mem_nexts.mp hv
  exact changed_wd h hw hq
end Wm

set_option Elab.async false
set_option linter.all false
set_option maxRecDepth 100000
set_option maxHeartbeats 4000000
/-! WmM2: data of places and words; each next word is less. -/
namespace Wm
open PySem PySem.Spec PyProof.Rows L2
theorem fine_int (k : Nat) (i : Int) : fine k (.int i) = true := by cases k <;> rfl
theorem fine_non (k : Nat) : fine k .non = true := by cases k <;> rfl
theorem fine_bl (k : Nat) (b : Bool) : fine k (.bl b) = true := by cases k <;> rfl
theorem fine_wo {w : Wo} (h : Lw w) (k : Nat) : fine k (.str w) = true := by
  cases k <;> exact h.fine
theorem fine_tup {k : Nat} {xs : List D} (h : ∀ x ∈ xs, fine k x = true) : fine (k + 1) (.tup xs) = true := by
  show xs.all (fine k) = true
  exact List.all_eq_true.mpr h
theorem fine_lst {k : Nat} {xs : List D} (h : ∀ x ∈ xs, fine k x = true) : fine (k + 1) (.lst xs) = true := by
  show xs.all (fine k) = true
  exact List.all_eq_true.mpr h
theorem fine_pii (k : Nat) (i j : Int) : fine (k + 1) (.tup [.int i, .int j]) = true := fine_tup fun x hx => by
  simp only [List.mem_cons, List.not_mem_nil, or_false] at hx
  rcases hx with rfl | rfl <;> exact fine_int _ _
theorem fine_pd (k : Nat) (q : Nat × Nat) : fine (k + 1) (pd q) = true := fine_pii k _ _
theorem fine_map {α : Type} {k : Nat} {f : α → D} {xs : List α} (h : ∀ x ∈ xs, fine k (f x) = true) : ∀ y ∈ xs.map f, fine k y = true := fun y hy => by
  obtain ⟨x, hx, rfl⟩ := List.mem_map.mp hy
  exact h x hx
theorem fine_rd {r : Ru} (h : Rl r) (k : Nat) : fine (k + 1) (rd r) = true := fine_tup fun x hx => by
  simp only [List.mem_cons, List.not_mem_nil, or_false] at hx
  rcases hx with rfl | rfl
  · exact fine_wo h.lw1 _
  · exact fine_wo h.lw2 _
theorem nob_map {α : Type} {f : α → D} {xs : List α} (h : ∀ x ∈ xs, nob (f x) = true) : nobs (xs.map f) = true := nobs_iff.mpr fun y hy => by
  obtain ⟨x, hx, rfl⟩ := List.mem_map.mp hy
  exact h x hx
theorem nob_pd (q : Nat × Nat) : nob (pd q) = true := rfl
theorem nob_rd (r : Ru) : nob (rd r) = true := rfl
theorem nob_strs (ws : List Wo) : nobs (ws.map D.str) = true := nob_map fun _ _ => rfl
theorem nob_pds (qs : List (Nat × Nat)) : nobs (qs.map pd) = true := nob_map fun _ _ => rfl
theorem nob_rds (rs : List Ru) : nobs (rs.map rd) = true := nob_map fun _ _ => rfl
theorem eqv_tup {xs ys : List D} (hx : nobs xs = true) (hy : nobs ys = true) : D.eqv (.tup xs) (.tup ys) = true ↔ xs = ys := by
  rw [D.eqv_iff (by simpa only [nob] using hx) (by simpa only [nob] using hy)]
  exact ⟨fun h => by injection h, fun h => by rw [h]⟩
theorem eqv_lst {xs ys : List D} (hx : nobs xs = true) (hy : nobs ys = true) : D.eqv (.lst xs) (.lst ys) = true ↔ xs = ys := by
  rw [D.eqv_iff (by simpa only [nob] using hx) (by simpa only [nob] using hy)]
  exact ⟨fun h => by injection h, fun h => by rw [h]⟩
/-- p, k stand among the places -/
def hasPl (qs : List (Nat × Nat)) (p k : Int) : Prop := 0 ≤ p ∧ 0 ≤ k ∧ (p.toNat, k.toNat) ∈ qs
instance (qs : List (Nat × Nat)) (p k : Int) : Decidable (hasPl qs p k) := inferInstanceAs (Decidable (_ ∧ _ ∧ _))
theorem any_pd (qs : List (Nat × Nat)) (p k : Int) : ((qs.map pd).any fun z => D.eqv z (.tup [.int p, .int k])) = decide (hasPl qs p k) := by
  rw [Bool.eq_iff_iff, decide_eq_true_iff, List.any_eq_true]
  constructor
  · rintro ⟨z, hz, he⟩
    obtain ⟨q, hq, rfl⟩ := List.mem_map.mp hz
    have := (D.eqv_iff (nob_pd q) (show nob (.tup [.int p, .int k]) = true from rfl)).mp he
    unfold pd at this
    injection this with this
    injection this with a this
    injection this with b _
    injection a with a
    injection b with b
    refine ⟨by omega, by omega, ?_⟩
    have e1 : p.toNat = q.1 := by omega
    have e2 : k.toNat = q.2 := by omega
    rw [e1, e2]; exact hq
  · rintro ⟨h1, h2, h3⟩
    refine ⟨pd (p.toNat, k.toNat), List.mem_map.mpr ⟨_, h3, rfl⟩, ?_⟩
    refine (D.eqv_iff (nob_pd _) rfl).mpr ?_
    unfold pd
    simp only
    rw [Int.toNat_of_nonneg h1, Int.toNat_of_nonneg h2]
theorem lt_app : ∀ (u a b c : Wo), a.length = b.length → a < b → u ++ a ++ c < u ++ b ++ c
  | x :: u, a, b, c, hl, h => by
    rw [List.cons_append, List.cons_append, List.cons_append, List.cons_append]
    exact List.cons_lt_cons_iff.mpr (.inr ⟨rfl, lt_app u a b c hl h⟩)
  | [], [], [], c, hl, h => absurd h (List.lt_irrefl _)
  | [], x :: a, y :: b, c, hl, h => by
    rw [List.nil_append, List.nil_append, List.cons_append, List.cons_append]
    rcases List.cons_lt_cons_iff.mp h with q | ⟨rfl, q⟩
    · exact List.cons_lt_cons_iff.mpr (.inl q)
    · refine List.cons_lt_cons_iff.mpr (.inr ⟨rfl, ?_⟩)
      have := lt_app [] a b c (by simpa using hl) q
      simpa using this
theorem stands_split {l w : Wo} {p : Nat} (h : standsAt l w p = true) : w = w.take p ++ l ++ w.drop (p + l.length) := by
  have h' := of_decide_eq_true h
  conv => lhs; rw [← List.take_append_drop p w, ← List.take_append_drop l.length (w.drop p), h', List.drop_drop]
  rw [List.append_assoc]
theorem chg_lt {r : Ru} {w : Wo} {p : Nat} (hr : Rl r) (h : standsAt r.1 w p = true) : ltW (chg r w p) w := by
  have e := stands_split h
  have el := congrArg List.length e
  simp only [List.length_append] at el
  unfold chg
  rcases hr.lt with q | ⟨q, q2⟩
  · refine .inl ?_
    simp only [List.length_append]
    omega
  · refine .inr ⟨?_, ?_⟩
    · simp only [List.length_append]
      omega
    · conv => rhs; rw [e]
      exact lt_app _ _ _ _ q q2
theorem changed_of {rs : List Ru} {w : Wo} {p k : Nat} {r : Ru} (hr : rs[k]? = some r) : changedM rs w p k = chg r w p := by
  unfold changedM
  rw [List.getD_eq_getElem?_getD, hr]; rfl
theorem nexts_lt {rs : List Ru} {w v : Wo} (h : Rs rs) (hv : v ∈ nextsM rs w) : ltW v w := by
  obtain ⟨q, hq, rfl⟩ := mem_nexts.mp hv
  obtain ⟨_, r, hr, hs⟩ := (mem_places (p := q.1) (k := q.2)).mp hq
  rw [changed_of hr]
  exact chg_lt (h.all r (List.mem_of_getElem? hr)) hs
end Wm

set_option Elab.async false
set_option linter.all false
set_option maxRecDepth 100000
set_option maxHeartbeats 4000000
/-! WmF: more operators: text * int, < of (int, text), startswith, find, in a text, in a tuple, isinstance. -/
namespace Wm
open PySem PySem.Spec PyProof.Rows L2
section
variable {X : Cx}
/-! text constants -/
def cs (s : Str) : List Nat := s.cps.toList
theorem E.lit {ds : List Sl} {pos : Pos} {i : Str} {j} : E X ds (.Constant (.str i) j pos) (.str (cs i)) := E.str (sx_of i).symm

/-! text * int -/
theorem foldlN (its : List Nat) : ∀ (k : Nat) (acc : List Nat), List.foldl (fun x1 x2 => x1 ++ x2) acc.toArray (List.replicate k its.toArray) = (acc ++ (List.replicate k its).flatten).toArray
  | 0, acc => by simp
  | k + 1, acc => by
    have e : acc.toArray ++ its.toArray = (acc ++ its).toArray := by simp
    have e2 : (acc ++ its) ++ (List.replicate k its).flatten = acc ++ (List.replicate (k + 1) its).flatten := by
      rw [List.replicate_succ, List.flatten_cons, List.append_assoc]
    rw [← e2, ← foldlN its k (acc ++ its), ← e, List.replicate_succ, List.foldl_cons]
def rMulS : R2 := fun x y H Q => ∃ (w : List Nat) (k : Int), x = .str (sx w) ∧ y = .int k ∧ 0 ≤ k ∧ k ≤ 1000 ∧ w.length ≤ 1000 ∧ Q (.str (sx (List.replicate k.toNat w).flatten)) H
theorem op_mulS : OpR X (binaryOp .Mult) rMulS := by
  intro pins s σ H x y v u Q I rx ry h
  obtain ⟨w, k, rfl, rfl, h0, h1, hz, q⟩ := h
  obtain ⟨t, rfl⟩ := rx
  obtain ⟨t', rfl⟩ := ry
  have flen : (List.replicate k.toNat w).flatten.length ≤ 1000000 := by
    rw [PyProof.Rows.lm_len_rep_flat]
    have a1 : k.toNat * w.length ≤ 1000 * 1000 := Nat.mul_le_mul (by omega) hz
    omega
  have hsl := sizeLine_eq
  have cpsw : (sx w).cps = w.toArray := rfl
  have eqf : (⟨(List.replicate k.toNat (sx w).cps).foldl (· ++ ·) #[]⟩ : Str) = sx (List.replicate k.toNat w).flatten := by
    rw [cpsw]
    have := foldlN w k.toNat []
    rw [List.nil_append] at this
    show Str.mk _ = Str.mk _
    exact congrArg Str.mk this
  refine PySem.P.mul_str ?_ ?_ ?_ ?_
  · rw [decide_eq_false (by omega), decide_eq_false (by omega)]; rfl
  · intro c1 c2
    rw [sx_len]
    have : (2 ^ 63 - 1 : Int) / k ≥ 1000 := by
      rw [ge_iff_le, Int.le_ediv_iff_mul_le (by omega)]
      omega
    omega
  · intro c1 c2
    unfold Builtin.Str.tooLong
    rw [sx_len, decide_eq_false]
    have a1 : w.length * k.toNat ≤ 1000 * 1000 := Nat.mul_le_mul hz (by omega)
    omega
  · by_cases c : k < 1
    · rw [if_pos c]
      have e0 : k = 0 := by omega
      subst e0
      refine ⟨by show 0 ≤ sizeLine; omega, ⟨V.str (sx (List.replicate (0 : Int).toNat w).flatten), H, I.tok _, ⟨s.toks, rfl⟩, q⟩⟩
    · rw [if_neg c]
      by_cases c2 : (k == 1 || (sx w).length == 0) = true
      · rw [if_pos c2]
        refine ⟨V.str (sx (List.replicate k.toNat w).flatten), H, I, ⟨t, ?_⟩, q⟩
        rw [Bool.or_eq_true] at c2
        rcases c2 with c2 | c2
        · have : k = 1 := by simpa using c2
          subst this
          simp
        · rw [sx_len] at c2
          have : w = [] := by simpa using c2
          subst this
          simp
      · rw [if_neg c2]
        rw [eqf]
        exact ⟨by rw [sx_len]; omega, ⟨V.str (sx (List.replicate k.toNat w).flatten), H, I.tok _, ⟨s.toks, rfl⟩, q⟩⟩
theorem Op2.mulS {w : List Nat} {k : Int} (h0 : 0 ≤ k) (h1 : k ≤ 1000) (hz : w.length ≤ 1000) : Op2 X (binaryOp .Mult) (.str w) (.int k) (.str (List.replicate k.toNat w).flatten) := Op2.of op_mulS fun H0 H e u v hu hv Q q => by
  rw [dat_str] at hu; rw [dat_int] at hv; subst hu hv
  exact ⟨w, k, rfl, rfl, h0, h1, hz, q _ (dat_str.mpr rfl)⟩

/-! < of (int, text) -/
def rLtP (K : PySem.W.Frag) : R2 := fun x y H Q => ∃ (a b : Int) (u w : List Nat), Dp K H x (.tuple [.int a, .str (sx u)]) ∧ Dp K H y (.tuple [.int b, .str (sx w)]) ∧ Q (.bl (decide (a < b ∨ (a = b ∧ u < w)))) H
theorem ltP_eq (a b : Int) (u w : List Nat) : PySem.W.dataLt (.tuple [.int a, .str (sx u)]) (.tuple [.int b, .str (sx w)]) = decide (a < b ∨ (a = b ∧ u < w)) := by
  rw [PySem.W.dataLt_tuple]
  have al1 : PySem.W.alike (.int a) (.int b) = true := by simp [PySem.W.alike]
  have al2 : PySem.W.alike (.str (sx u)) (.str (sx w)) = true := by simp [PySem.W.alike]
  by_cases h : a = b
  · subst h
    rw [PySem.W.dataLt_all_yes al1 (by simp [PyData.eqv])]
    by_cases g : u = w
    · subst g
      rw [PySem.W.dataLt_all_yes al2 (by simp [PyData.eqv])]
      have : ¬ (u < u) := List.lt_irrefl _
      rw [decide_eq_false (by rintro (q | q); exact Int.lt_irrefl _ q; exact this q.2)]
      decide
    · rw [PySem.W.dataLt_all_no al2 (by simp [PyData.eqv, sx_eq, g]), PySem.W.dataLt_str, sx_list, sx_list]
      rw [Bool.eq_iff_iff, decide_eq_true_iff, decide_eq_true_iff]
      constructor
      · intro q; exact .inr ⟨rfl, q⟩
      · rintro (q | q); exact absurd q (Int.lt_irrefl _); exact q.2
  · rw [PySem.W.dataLt_all_no al1 (by simp [PyData.eqv, h]), PySem.W.dataLt_int]
    rw [Bool.eq_iff_iff, decide_eq_true_iff, decide_eq_true_iff]
    constructor
    · intro q; exact .inl q
    · rintro (q | q); exact q; exact absurd q.1 h
theorem op_ltP (hu : X.A.units + 64 < cLine) : OpR X (compareOp .Lt) (rLtP X.K) := by
  intro pins s σ H x y v u Q I rx ry h
  obtain ⟨a, b, p, w, hd, he, q⟩ := h
  obtain ⟨as, r1⟩ := Dp.reads I _ x v hd rx
  obtain ⟨bs, r2⟩ := Dp.reads I _ y u he ry
  have hal : PySem.W.alike (.tuple [.int a, .str (sx p)]) (.tuple [.int b, .str (sx w)]) = true := by simp [PySem.W.alike, PySem.W.alikeAll]
  have dep : min (PyData.depth (.tuple [.int a, .str (sx p)])) (PyData.depth (.tuple [.int b, .str (sx w)])) ≤ 2 := by simp [PyData.depth, PyData.depthAll]
  refine PySem.W.rcLt_alike _ _ X.A s v u as bs r1 r2 hal (by simp) (by omega) X.prog X.w X.xe _ ?_
  rw [ltP_eq]
  exact ⟨.bl _, H, I, rfl, q⟩
theorem Op2.ltP (B : Bi X) {a b : Int} {u w : List Nat} : Op2 X (compareOp .Lt) (.tup [.int a, .str u]) (.tup [.int b, .str w]) (.bl (decide (a < b ∨ (a = b ∧ u < w)))) := Op2.of (op_ltP (by have := B.un; omega)) fun H0 H e x y hx hy Q q => by
  have h1 := Dat.dp _ (Dat.mono e _ hx)
  have h2 := Dat.dp _ (Dat.mono e _ hy)
  simp only [pyd, pyds] at h1 h2
  exact ⟨a, b, u, w, h1, h2, q _ (dat_bl.mpr rfl)⟩

/-! methods of texts -/
theorem MtD.of {id : String} {x z : D} {ys : List D} {r} (h : MtR X id r) (q : ∀ (H0 H : Hp), Same H0 H → ∀ v vs, Dat X.K H0 x v → Dats X.K H0 ys vs → ∀ Q : VK, (∀ v, Dat X.K H0 z v → Q v H) → r v vs H Q) : MtD X id x ys z :=
  ⟨r, h, fun He H0e H0 ds σ H I v vs hv hvs Q k => q H0 H I.ex v vs hv hvs Q fun w hw => k w H0 H I (Same.refl _) hw⟩
theorem startswith_sx (u w : List Nat) : Txt.startswith (sx u) (sx w) = decide (u.take w.length = w) := by
  unfold Txt.startswith
  rw [PySem.StrLaws.subAt_eq, sx_len, sx_len, sx_list, sx_list, List.drop_zero]
  by_cases h : u.take w.length = w
  · have : w.length ≤ u.length := by
      have := congrArg List.length h
      rw [List.length_take] at this
      omega
    rw [h]; simp [this]
  · simp [h]
theorem MtD.startswith {u w : List Nat} : MtD X "str.startswith" (.str u) [.str w] (.bl (decide (u.take w.length = w))) := MtD.of mt_startswith fun H0 H e v vs hv hvs Q q => by
  rw [dat_str] at hv; subst hv
  obtain ⟨v', rfl, h⟩ := dats1 hvs
  rw [dat_str] at h; subst h
  exact ⟨_, _, rfl, rfl, q _ (dat_bl.mpr (by rw [startswith_sx]))⟩
/-- u stands in w -/
def findM (w u : List Nat) : Int := Txt.find (sx w) (sx u)
theorem findM_ge {w u : List Nat} : 0 ≤ findM w u ↔ ∃ i, (w.drop i).take u.length = u ∧ i + u.length ≤ w.length := by
  have key := PySem.StrLaws.found_iff (sx w) (sx u)
  unfold findM Txt.find
  simp only [sx_len] at key ⊢
  have e : ∀ i, Builtin.Str.subAt (sx w) (sx u) i = true ↔ (w.drop i).take u.length = u := fun i => by
    rw [PySem.StrLaws.subAt_eq, sx_list, sx_list, sx_len]; simp
  cases h : Builtin.Str.occurrences (sx w) (sx u) 0 w.length 1 with
  | nil =>
    rw [h] at key
    constructor
    · intro q; exact absurd q (by decide)
    · rintro ⟨i, h1, h2⟩
      exact absurd (key.mpr ⟨i, h2, (e i).mpr h1⟩) (by decide)
  | cons a l =>
    rw [h] at key
    constructor
    · intro _
      obtain ⟨i, h1, h2⟩ := key.mp rfl
      exact ⟨i, (e i).mp h2, h1⟩
    · intro _; exact Int.natCast_nonneg a
theorem MtD.find {u w : List Nat} : MtD X "str.find" (.str u) [.str w] (.int (findM u w)) := MtD.of mt_find fun H0 H e v vs hv hvs Q q => by
  rw [dat_str] at hv; subst hv
  obtain ⟨v', rfl, h⟩ := dats1 hvs
  rw [dat_str] at h; subst h
  exact ⟨_, _, rfl, rfl, q _ (dat_int.mpr rfl)⟩
/-- one sign in a text -/
theorem Op2.inS1 {c : Nat} {w : List Nat} : Op2 X (compareOp .In) (.str [c]) (.str w) (.bl (decide (c ∈ w))) := Op2.of op_in_sign fun H0 H e u v hu hv Q q => by
  rw [dat_str] at hu hv; subst hu hv
  exact ⟨c, sx w, rfl, rfl, q _ (dat_bl.mpr (by rw [sx_list]))⟩

/-! data in a tuple -/
theorem op_inDT (hu : X.A.units + 65 < cLine) : OpR X (compareOp .In) (fun x y H Q => ∃ d ds, Dp X.K H x d ∧ Dp X.K H y (.tuple ds) ∧ SeqAt.shaped d = true ∧ SeqAt.shaped (.tuple ds) = true ∧ Q (.bl (ds.any fun z => PyData.eqv z d)) H) := by
  intro pins s σ H x y v u Q I rx ry h
  obtain ⟨d, ds, hd, he, sd, se, q⟩ := h
  obtain ⟨as, r1⟩ := Dp.reads I d x v hd rx
  obtain ⟨bs, r2⟩ := Dp.reads I (.tuple ds) y u he ry
  exact SeqAt.in_tuple_reads r2 r1 (SeqAt.canLay_of_shaped se) (SeqAt.canLay_of_shaped sd) (room_in_shaped sd hu) ⟨.bl _, H, I, rfl, q⟩
theorem op_notInDT (hu : X.A.units + 65 < cLine) : OpR X (compareOp .NotIn) (fun x y H Q => ∃ d ds, Dp X.K H x d ∧ Dp X.K H y (.tuple ds) ∧ SeqAt.shaped d = true ∧ SeqAt.shaped (.tuple ds) = true ∧ Q (.bl (!ds.any fun z => PyData.eqv z d)) H) := by
  intro pins s σ H x y v u Q I rx ry h
  obtain ⟨d, ds, hd, he, sd, se, q⟩ := h
  obtain ⟨as, r1⟩ := Dp.reads I d x v hd rx
  obtain ⟨bs, r2⟩ := Dp.reads I (.tuple ds) y u he ry
  exact SeqAt.notIn_tuple_reads r2 r1 (SeqAt.canLay_of_shaped se) (SeqAt.canLay_of_shaped sd) (room_in_shaped sd hu) ⟨.bl _, H, I, rfl, q⟩
theorem Op2.inT (B : Bi X) {x : D} {xs : List D} (hx : fine 64 x = true) (hy : fine 64 (.tup xs) = true) : Op2 X (compareOp .In) x (.tup xs) (.bl (xs.any fun z => D.eqv z x)) :=
  Op2.of (op_inDT (by have := B.un; omega)) fun H0 H e u v hu hv Q k => by
    have q := Dat.dp _ (Dat.mono e _ hv)
    rw [pyd] at q
    have s := fine_shaped hy
    rw [pyd] at s
    refine ⟨_, _, Dat.dp x (Dat.mono e x hu), q, fine_shaped hx, s, k _ (dat_bl.mpr ?_)⟩
    rw [pyds_map, List.any_map]; rfl
theorem Op2.notInT (B : Bi X) {x : D} {xs : List D} (hx : fine 64 x = true) (hy : fine 64 (.tup xs) = true) : Op2 X (compareOp .NotIn) x (.tup xs) (.bl (!xs.any fun z => D.eqv z x)) :=
  Op2.of (op_notInDT (by have := B.un; omega)) fun H0 H e u v hu hv Q k => by
    have q := Dat.dp _ (Dat.mono e _ hv)
    rw [pyd] at q
    have s := fine_shaped hy
    rw [pyd] at s
    refine ⟨_, _, Dat.dp x (Dat.mono e x hu), q, fine_shaped hx, s, k _ (dat_bl.mpr ?_)⟩
    rw [pyds_map, List.any_map]; rfl

/-! isinstance -/
def D.ty : D → String
  | .non => "NoneType"
  | .bl _ => "bool"
  | .int _ => "int"
  | .str _ => "str"
  | .tup _ => "tuple"
  | .lst _ => "list"
  | .scr _ => "list"
theorem Dat.tyx {K : PySem.W.Frag} {H : Hp} {d : D} {v : V} (h : Dat K H d v) : TyX K H v (.type d.ty) := by
  cases d with
  | non => rw [dat_non.mp h]; exact .base .non
  | bl b => rw [dat_bl.mp h]; exact .base (.bl b)
  | int i => rw [dat_int.mp h]; exact .base (.int i)
  | str w => rw [dat_str.mp h]; exact .base (.str _)
  | tup xs =>
    obtain ⟨a, vs, rfl, h1, _⟩ := dat_tup.mp h
    rcases h1 with (h1 | ⟨o, h1⟩) | ⟨o, its, n, h1, h2, _⟩
    · exact .base (.tup h1)
    · exact .fTuple h1
    · exact .kTuple h1 h2
  | lst xs => obtain ⟨a, vs, rfl, h1, _⟩ := dat_lst.mp h; exact .base (.lst h1)
  | scr ns =>
    obtain ⟨a, rfl, h1⟩ := dat_scr.mp h
    rcases h1 with (h1 | ⟨o, h1⟩) | ⟨o, its, n, h1, h2, _⟩
    · exact .base (.lst h1)
    · exact .base (.frz h1)
    · exact .kList h1 h2
variable {ds : List Sl} {a : Expr} {x : D} {pos p p3 : Pos} {tn : Str} {ty : String} {b : Bool}
theorem E.isi (B : Bi X) (ha : E X ds a x) (hm : X.mg tn = none) (hv : bootBuiltins tn = some (.type ty)) (hk : kitB x.ty ty = some b) (hg : Gl X "isinstance" := by rfl) (hgc : Gl X tn := by rfl) (hn : tn ≠ "__name__" := by decide) (hdc : (tn == ("__debug__" : Str)) = false := by decide)
    (hs : starEach [a, Expr.Name tn p3] X.env = (false, eval a X.env) :: starEach [Expr.Name tn p3] X.env := by rfl) (hs2 : starEach [Expr.Name tn p3] X.env = (false, eval (.Name tn p3) X.env) :: starEach [] X.env := by rfl)
    (hpl : (backTo pos (starEach [Expr.Name tn p3] X.env)).any (·.1) = false := by rfl) : E X ds (.Call (.Name "isinstance" p) [a, .Name tn p3] [] pos) (.bl b) :=
  E.of (pe_callB call_isi hg B.isinstance (by decide +kernel) (pa_cons pe_W (pa_cons (pe_bltn hgc hm hv (v := .ty ty) rfl hn hdc) pa_nil hs2) hs) (by decide) (by decide) hs hpl) fun He H0e H0 σ H I Q q => ha He H0e H0 σ H I _ fun v H1 H' I1 e1 d1 => by
    exact ⟨v, .ty ty, .type x.ty, .type ty, b, rfl, .ty ty, (Dat.tyx (Dat.mono I1.ex x d1)), kit_ty hk, q _ H1 H' I1 e1 (dat_bl.mpr rfl)⟩
end
/-! the types that are asked for -/
theorem kit_NoneType_bool : kitB "NoneType" "bool" = some false := by decide +kernel
theorem kit_NoneType_str : kitB "NoneType" "str" = some false := by decide +kernel
theorem kit_NoneType_tuple : kitB "NoneType" "tuple" = some false := by decide +kernel
theorem kit_bool_bool : kitB "bool" "bool" = some true := by decide +kernel
theorem kit_bool_str : kitB "bool" "str" = some false := by decide +kernel
theorem kit_bool_tuple : kitB "bool" "tuple" = some false := by decide +kernel
theorem kit_int_bool : kitB "int" "bool" = some false := by decide +kernel
theorem kit_int_str : kitB "int" "str" = some false := by decide +kernel
theorem kit_int_tuple : kitB "int" "tuple" = some false := by decide +kernel
theorem kit_str_bool : kitB "str" "bool" = some false := by decide +kernel
theorem kit_str_str : kitB "str" "str" = some true := by decide +kernel
theorem kit_str_tuple : kitB "str" "tuple" = some false := by decide +kernel
theorem kit_tuple_bool : kitB "tuple" "bool" = some false := by decide +kernel
theorem kit_tuple_str : kitB "tuple" "str" = some false := by decide +kernel
theorem kit_tuple_tuple : kitB "tuple" "tuple" = some true := by decide +kernel
theorem kit_list_bool : kitB "list" "bool" = some false := by decide +kernel
theorem kit_list_str : kitB "list" "str" = some false := by decide +kernel
theorem kit_list_tuple : kitB "list" "tuple" = some false := by decide +kernel
theorem bb_bool : bootBuiltins "bool" = some (.type "bool") := by decide +kernel
theorem bb_str : bootBuiltins "str" = some (.type "str") := by decide +kernel
theorem bb_tuple : bootBuiltins "tuple" = some (.type "tuple") := by decide +kernel
end Wm

set_option Elab.async false
set_option linter.all false
set_option maxRecDepth 100000
set_option maxHeartbeats 4000000
/-! WmG: what the laws draw of a script, in plain Lean. -/
namespace Wm
open PySem PySem.Spec PyProof.Rows L2

def cellM (ns : List Int) (k : Nat) : Int := if k < ns.length then ns.getD k 0 else 0
def mixedD (ns : List Int) (k : Nat) : Int := (cellM ns k + 7919 * (k : Int) + 1) * 48271 % 2147483647
def mixedM (ns : List Int) (k : Nat) : Int := (mixedD ns k * mixedD ns k + 7 * mixedD ns k + (k : Int)) % 2147483629
def drawnD (n k : Int) : Int := (n + 104729 * k + 17) * 69621 % 2147483647
def drawnM (n k : Int) : Int := (drawnD n k * drawnD n k + 3 * drawnD n k + k) % 2147483629
theorem mixedD_lt (ns : List Int) (k : Nat) : 0 ≤ mixedD ns k ∧ mixedD ns k < 2147483647 := ⟨Int.emod_nonneg _ (by decide), Int.emod_lt_of_pos _ (by decide)⟩
theorem drawnD_lt (n k : Int) : 0 ≤ drawnD n k ∧ drawnD n k < 2147483647 := ⟨Int.emod_nonneg _ (by decide), Int.emod_lt_of_pos _ (by decide)⟩
theorem mixedM_lt (ns : List Int) (k : Nat) : 0 ≤ mixedM ns k ∧ mixedM ns k < 2147483629 := ⟨Int.emod_nonneg _ (by decide), Int.emod_lt_of_pos _ (by decide)⟩
theorem drawnM_lt (n k : Int) : 0 ≤ drawnM n k ∧ drawnM n k < 2147483629 := ⟨Int.emod_nonneg _ (by decide), Int.emod_lt_of_pos _ (by decide)⟩
theorem atI_of {α : Type} [Inhabited α] {xs : List α} {i : Int} (h : 0 ≤ i) (h2 : i < xs.length) : L2.atI xs i = some (xs.getD i.toNat default) := by
  unfold L2.atI
  have e : ixN xs.length i = some i.toNat := by
    unfold ixN
    simp only [h, h2, and_self, if_true]
  rw [e]
  show xs[i.toNat]? = _
  rw [List.getD_eq_getElem?_getD]
  have : i.toNat < xs.length := by omega
  rw [List.getElem?_eq_getElem this]; rfl
def letterM (ls : Wo) (i : Int) : Nat := ls.getD (i % ls.length).toNat 0
theorem letter_at {ls : Wo} (i : Int) (h : ls ≠ []) : L2.atI ls (i % ls.length) = some (letterM ls i) := by
  have hl : 0 < ls.length := List.length_pos_iff.mpr h
  exact atI_of (Int.emod_nonneg _ (by omega)) (Int.emod_lt_of_pos _ (by omega))
theorem letter_mem {ls : Wo} (i : Int) (h : ls ≠ []) : letterM ls i ∈ ls := by
  have hl : 0 < ls.length := List.length_pos_iff.mpr h
  have h1 := Int.emod_nonneg i (show (ls.length : Int) ≠ 0 by omega)
  have h2 := Int.emod_lt_of_pos i (show (0 : Int) < ls.length by omega)
  have : (i % ls.length).toNat < ls.length := by omega
  unfold letterM
  rw [List.getD_eq_getElem?_getD, List.getElem?_eq_getElem this]
  exact List.getElem_mem this
def wordM (n : Int) (ls : Wo) (m : Int) : Wo := (List.range (n % (m + 1)).toNat).map fun k => letterM ls (drawnM n (k : Nat) / 8)
theorem wordM_len {n m : Int} {ls : Wo} (h : 0 ≤ m) : ((wordM n ls m).length : Int) ≤ m := by
  unfold wordM
  rw [List.length_map, List.length_range]
  have h1 := Int.emod_nonneg n (show m + 1 ≠ 0 by omega)
  have h2 := Int.emod_lt_of_pos n (show 0 < m + 1 by omega)
  omega
theorem wordM_lw {n m : Int} {ls : Wo} (h : ls ≠ []) (hl : Lw ls) : Lw (wordM n ls m) := fun c hc => by
  unfold wordM at hc
  obtain ⟨k, _, rfl⟩ := List.mem_map.mp hc
  exact hl _ (letter_mem _ h)
/-- the letters that rules are made of -/
structure Ls (ls : Wo) : Prop where
  lw : Lw ls
  le : ls.length ≤ 3
  ge : 2 ≤ ls.length
theorem Ls.ne {ls : Wo} (h : Ls ls) : ls ≠ [] := fun e => by have := h.ge; rw [e] at this; simp at this
def left0M (n : Int) (ls : Wo) : Wo := wordM (3 * (n / 4) + 1 + n % 3) ls 2 ++ [letterM ls (n / 12)]
def leftM (six : Bool) (n : Int) (ls : Wo) : Wo := if n / 48 % 6 = 1 then (if six then ((List.replicate 6 (left0M n ls)).flatten.take (4 + n / 288 % 3).toNat) else ((List.replicate 4 (left0M n ls)).flatten.take 4)) else left0M n ls
def rightM (n : Int) (ls left : Wo) : Wo := if ltW (wordM (drawnM n 50) ls left.length) left then wordM (drawnM n 50) ls left.length else ((wordM (drawnM n 50) ls left.length).drop 1).take (left.length - 1)
def ruleM (six : Bool) (n : Int) (ls : Wo) : Ru := (leftM six n ls, rightM n ls (leftM six n ls))
theorem left0_len (n : Int) (ls : Wo) : 1 ≤ (left0M n ls).length ∧ (left0M n ls).length ≤ 3 := by
  unfold left0M
  have := wordM_len (n := 3 * (n / 4) + 1 + n % 3) (ls := ls) (show (0 : Int) ≤ 2 by decide)
  rw [List.length_append, List.length_singleton]
  omega
theorem left0_lw {n : Int} {ls : Wo} (h : Ls ls) : Lw (left0M n ls) := by
  unfold left0M
  refine (wordM_lw h.ne h.lw).app ?_
  intro c hc
  rw [List.mem_singleton.mp hc]
  exact h.lw _ (letter_mem _ h.ne)
theorem rep_len {α : Type} (k : Nat) (w : List α) : (List.replicate k w).flatten.length = k * w.length := PyProof.Rows.lm_len_rep_flat _ _
theorem rep_lw {k : Nat} {w : Wo} (h : Lw w) : Lw (List.replicate k w).flatten := fun c hc => by
  obtain ⟨u, hu, hc⟩ := List.mem_flatten.mp hc
  rw [List.eq_of_mem_replicate hu] at hc
  exact h c hc
theorem left_len (six : Bool) (n : Int) (ls : Wo) : 1 ≤ (leftM six n ls).length ∧ (leftM six n ls).length ≤ 6 := by
  have h := left0_len n ls
  unfold leftM
  split
  · have h1 := Int.emod_nonneg (n / 288) (show (3 : Int) ≠ 0 by decide)
    have h2 := Int.emod_lt_of_pos (n / 288) (show (0 : Int) < 3 by decide)
    split
    · rw [List.length_take, rep_len]; omega
    · rw [List.length_take, rep_len]; omega
  · omega
theorem left_lw {six : Bool} {n : Int} {ls : Wo} (h : Ls ls) : Lw (leftM six n ls) := by
  unfold leftM
  split
  · split
    · exact (rep_lw (left0_lw h)).take _
    · exact (rep_lw (left0_lw h)).take _
  · exact left0_lw h
theorem right_ok {n : Int} {ls left : Wo} (h : Ls ls) (hl : 1 ≤ left.length) : ltW (rightM n ls left) left ∧ Lw (rightM n ls left) := by
  unfold rightM
  split
  · rename_i q
    exact ⟨q, wordM_lw h.ne h.lw⟩
  · refine ⟨.inl ?_, ((wordM_lw h.ne h.lw).drop _).take _⟩
    rw [List.length_take]
    omega
theorem rule_ok {six : Bool} {n : Int} {ls : Wo} (h : Ls ls) : Rl (ruleM six n ls) := by
  have l := left_len six n ls
  have r := right_ok (n := n) (left := leftM six n ls) h l.1
  exact ⟨l.1, Nat.le_trans l.2 (by decide), left_lw h, r.2, r.1⟩
def tame0 (n : Int) (ls : Wo) : List Ru := let f : List Ru := [([98, 97], [97, 98]), ([99, 97], [97, 99]), ([99, 98], [98, 99])].take (2 * ls.length - 3); if n % 2 = 1 then f.take (n / 2 % 2).toNat else f
def tame1 (n : Int) (k : Nat) (c : Nat) : List Ru := if 0 < drawnM n k % 3 then [(List.replicate (2 + drawnM n k / 3 % 2).toNat c, List.replicate (drawnM n k / 6 % 2).toNat c)] else []
def tameM (n : Int) (ls : Wo) : List Ru := tame0 n ls ++ ls.zipIdx.flatMap fun q => tame1 n q.2 q.1
theorem Rl.of (r : Ru) (h1 : 1 ≤ r.1.length) (h2 : r.1.length ≤ 12) (h3 : Lw r.1) (h4 : Lw r.2) (h5 : ltW r.2 r.1) : Rl r := ⟨h1, h2, h3, h4, h5⟩
theorem tame0_ok {n : Int} {ls : Wo} : (tame0 n ls).length ≤ 3 ∧ ∀ r ∈ tame0 n ls, Rl r := by
  have key : ∀ r ∈ ([([98, 97], [97, 98]), ([99, 97], [97, 99]), ([99, 98], [98, 99])] : List Ru), Rl r := by
    intro r hr
    simp only [List.mem_cons, List.not_mem_nil, or_false] at hr
    rcases hr with rfl | rfl | rfl <;> exact Rl.of _ (by decide) (by decide) (by unfold Lw; decide) (by unfold Lw; decide) (by decide)
  have hl : ([([98, 97], [97, 98]), ([99, 97], [97, 99]), ([99, 98], [98, 99])] : List Ru).length = 3 := rfl
  unfold tame0
  simp only
  split
  · refine ⟨?_, fun r hr => key r (List.mem_of_mem_take (List.mem_of_mem_take hr))⟩
    rw [List.length_take, List.length_take, hl]; omega
  · refine ⟨?_, fun r hr => key r (List.mem_of_mem_take hr)⟩
    rw [List.length_take, hl]; omega
theorem tame1_ok {n : Int} {k c : Nat} (hc : c = 97 ∨ c = 98 ∨ c = 99) : (tame1 n k c).length ≤ 1 ∧ ∀ r ∈ tame1 n k c, Rl r := by
  unfold tame1
  have h1 := Int.emod_nonneg (drawnM n k / 3) (show (2 : Int) ≠ 0 by decide)
  have h2 := Int.emod_lt_of_pos (drawnM n k / 3) (show (0 : Int) < 2 by decide)
  have h3 := Int.emod_nonneg (drawnM n k / 6) (show (2 : Int) ≠ 0 by decide)
  have h4 := Int.emod_lt_of_pos (drawnM n k / 6) (show (0 : Int) < 2 by decide)
  split
  · refine ⟨by simp, fun r hr => ?_⟩
    rw [List.mem_singleton.mp hr]
    refine Rl.of _ ?_ ?_ (fun x hx => ?_) (fun x hx => ?_) (.inl ?_)
    · simp only [List.length_replicate]; omega
    · simp only [List.length_replicate]; omega
    · rw [List.eq_of_mem_replicate hx]; exact hc
    · rw [List.eq_of_mem_replicate hx]; exact hc
    · simp only [List.length_replicate]; omega
  · simp
theorem flatMap_len {α β : Type} {f : α → List β} : ∀ (xs : List α), (∀ x ∈ xs, (f x).length ≤ 1) → (xs.flatMap f).length ≤ xs.length
  | [], _ => by simp
  | x :: xs, h => by
    rw [List.flatMap_cons, List.length_append, List.length_cons]
    have := h x List.mem_cons_self
    have := flatMap_len xs fun y hy => h y (List.mem_cons_of_mem _ hy)
    omega
theorem tame_ok {n : Int} {ls : Wo} (h : Ls ls) : (tameM n ls).length ≤ 6 ∧ ∀ r ∈ tameM n ls, Rl r := by
  unfold tameM
  have key : ∀ q ∈ ls.zipIdx, q.1 = 97 ∨ q.1 = 98 ∨ q.1 = 99 := fun q hq => h.lw _ (List.fst_mem_of_mem_zipIdx hq)
  constructor
  · rw [List.length_append]
    have h1 := (tame0_ok (n := n) (ls := ls)).1
    have h2 := flatMap_len (f := fun q : Nat × Nat => tame1 n q.2 q.1) ls.zipIdx fun q hq => (tame1_ok (key q hq)).1
    rw [List.length_zipIdx] at h2
    have := h.le
    omega
  · intro r hr
    rcases List.mem_append.mp hr with hr | hr
    · exact tame0_ok.2 r hr
    · obtain ⟨q, hq, hr⟩ := List.mem_flatMap.mp hr
      exact (tame1_ok (key q hq)).2 r hr
def lettersM (n : Int) : Wo := if n / 4 % 2 = 0 then [97, 98] else [97, 98, 99]
theorem letters_ok (n : Int) : Ls (lettersM n) := by
  unfold lettersM
  split
  · exact ⟨by unfold Lw; decide, by decide, by decide⟩
  · exact ⟨by unfold Lw; decide, by decide, by decide⟩
def found2M (six : Bool) (most : Int) (n : Int) : List Ru :=
  if 1 < n % 4 then (List.range (n / 8 % most).toNat).map fun k => ruleM six (drawnM n (9 + (k : Nat))) (lettersM n)
  else if n % 4 = 1 then tameM (n / 8) (lettersM n) ++ [ruleM six (drawnM n 9) (lettersM n)] else tameM (n / 8) (lettersM n)
def rulesM (six : Bool) (most : Int) (n : Int) : List Ru := (found2M six most n).drop (n / 640 % 5).toNat ++ (found2M six most n).take (n / 640 % 5).toNat
theorem found2_ok {six : Bool} {most : Int} {n : Int} (hm : 0 < most ∧ most ≤ 9) : (found2M six most n).length ≤ 8 ∧ ∀ r ∈ found2M six most n, Rl r := by
  unfold found2M
  split
  · have h1 := Int.emod_nonneg (n / 8) (show most ≠ 0 by omega)
    have h2 := Int.emod_lt_of_pos (n / 8) (show 0 < most by omega)
    refine ⟨by rw [List.length_map, List.length_range]; omega, fun r hr => ?_⟩
    obtain ⟨k, _, rfl⟩ := List.mem_map.mp hr
    exact rule_ok (letters_ok n)
  · have t := tame_ok (n := n / 8) (letters_ok n)
    split
    · refine ⟨by rw [List.length_append, List.length_singleton]; omega, fun r hr => ?_⟩
      rcases List.mem_append.mp hr with hr | hr
      · exact t.2 r hr
      · rw [List.mem_singleton.mp hr]; exact rule_ok (letters_ok n)
    · exact ⟨by omega, t.2⟩
theorem rules_ok {six : Bool} {most : Int} {n : Int} (hm : 0 < most ∧ most ≤ 9) : Rs (rulesM six most n) := by
  have f := found2_ok (six := six) (n := n) hm
  unfold rulesM
  constructor
  · rw [List.length_append, List.length_drop, List.length_take]; omega
  · intro r hr
    rcases List.mem_append.mp hr with hr | hr
    · exact f.2 r (List.mem_of_mem_drop hr)
    · exact f.2 r (List.mem_of_mem_take hr)
theorem rules_len {six : Bool} {most : Int} {n : Int} (hm : 0 < most ∧ most ≤ 9) : (rulesM six most n).length ≤ 8 := by
  have f := found2_ok (six := six) (n := n) hm
  unfold rulesM
  rw [List.length_append, List.length_drop, List.length_take]; omega
theorem rulesM_left6 {six : Bool} {most : Int} {n : Int} : True := trivial
/-- a word as the laws draw it -/
theorem word_wd {n m : Int} (h : 0 ≤ m ∧ m ≤ 100) : Wd (wordM n [97, 98, 99] m) := by
  have := wordM_len (n := n) (ls := [97, 98, 99]) h.1
  exact ⟨by omega, wordM_lw (by decide) (by unfold Lw; decide)⟩
end Wm

set_option Elab.async false
set_option linter.all false
set_option maxRecDepth 100000
set_option maxHeartbeats 4000000
/-! WmR: what steps reach, the ends, the rank of a word. -/
namespace Wm
open PySem PySem.Spec PyProof.Rows L2

/-! the rank of a word -/
def rankF (acc : Nat) (c : Nat) : Nat := acc * 4 + (c - 96)
def rankW (w : Wo) : Nat := w.foldl rankF 0
theorem rank_acc : ∀ (w : Wo) (a : Nat), w.foldl rankF a = a * 4 ^ w.length + rankW w
  | [], a => by simp [rankW]
  | c :: w, a => by
    unfold rankW
    rw [List.foldl_cons, List.foldl_cons, rank_acc w (rankF a c), rank_acc w (rankF 0 c), List.length_cons, Nat.pow_succ]
    unfold rankF
    rw [Nat.zero_mul, Nat.zero_add, Nat.add_mul]
    have : a * (4 ^ w.length * 4) = a * 4 * 4 ^ w.length := by rw [Nat.mul_comm (4 ^ w.length) 4, Nat.mul_assoc]
    omega
theorem rank_cons (c : Nat) (w : Wo) : rankW (c :: w) = (c - 96) * 4 ^ w.length + rankW w := by
  have := rank_acc w (rankF 0 c)
  unfold rankW
  rw [List.foldl_cons, this]
  unfold rankF
  rw [Nat.zero_mul, Nat.zero_add]
  rfl
theorem rank_lt : ∀ {w : Wo}, Lw w → rankW w < 4 ^ w.length
  | [], _ => by decide
  | c :: w, h => by
    rw [rank_cons, List.length_cons, Nat.pow_succ]
    have ih := rank_lt (w := w) fun x hx => h x (List.mem_cons_of_mem _ hx)
    have hc := h c List.mem_cons_self
    have h3 : (c - 96) * 4 ^ w.length ≤ 3 * 4 ^ w.length := Nat.mul_le_mul_right _ (by omega)
    omega
theorem rank_ge : ∀ {w : Wo}, Lw w → w ≠ [] → 4 ^ (w.length - 1) ≤ rankW w
  | [], _, h => absurd rfl h
  | c :: w, h, _ => by
    rw [rank_cons, List.length_cons, Nat.add_sub_cancel]
    have hc := h c List.mem_cons_self
    have h3 : 1 * 4 ^ w.length ≤ (c - 96) * 4 ^ w.length := Nat.mul_le_mul_right _ (by omega)
    omega
theorem rank_lex : ∀ {a b : Wo}, Lw a → Lw b → a.length = b.length → a < b → rankW a < rankW b
  | [], [], _, _, _, h => absurd h (List.lt_irrefl _)
  | x :: a, y :: b, ha, hb, hl, h => by
    have hl' : a.length = b.length := by simpa using hl
    have ha' : Lw a := fun c hc => ha c (List.mem_cons_of_mem _ hc)
    have hb' : Lw b := fun c hc => hb c (List.mem_cons_of_mem _ hc)
    have hx := ha x List.mem_cons_self
    have hy := hb y List.mem_cons_self
    rw [rank_cons, rank_cons, hl']
    rcases List.cons_lt_cons_iff.mp h with q | ⟨rfl, q⟩
    · have r := rank_lt ha'
      rw [hl'] at r
      have h3 : (x - 96 + 1) * 4 ^ b.length ≤ (y - 96) * 4 ^ b.length := Nat.mul_le_mul_right _ (by omega)
      rw [Nat.add_mul, Nat.one_mul] at h3
      omega
    · have := rank_lex ha' hb' hl' q
      omega
theorem rank_ltW {a b : Wo} (ha : Lw a) (hb : Lw b) (h : ltW a b) : rankW a < rankW b := by
  rcases h with h | ⟨h, q⟩
  · have r := rank_lt ha
    have s := rank_ge hb (by rintro rfl; simp at h)
    have : 4 ^ a.length ≤ 4 ^ (b.length - 1) := Nat.pow_le_pow_right (by decide) (by omega)
    omega
  · exact rank_lex ha hb h q

/-! what steps reach -/
inductive Reach (rs : List Ru) : Wo → Wo → Prop
  | refl (w : Wo) : Reach rs w w
  | step {u v w : Wo} : v ∈ nextsM rs u → Reach rs v w → Reach rs u w
theorem Reach.trans {rs : List Ru} {u v w : Wo} (h : Reach rs u v) (g : Reach rs v w) : Reach rs u w := by
  induction h with
  | refl => exact g
  | step h _ ih => exact .step h (ih g)
theorem Reach.snoc {rs : List Ru} {u v w : Wo} (h : Reach rs u v) (g : w ∈ nextsM rs v) : Reach rs u w := h.trans (.step g (.refl _))
theorem next_len {rs : List Ru} {w v : Wo} (h : Rs rs) (hv : v ∈ nextsM rs w) : v.length ≤ w.length := by
  obtain ⟨q, hq, rfl⟩ := mem_nexts.mp hv
  exact changed_len h hq
theorem next_lw {rs : List Ru} {w v : Wo} (h : Rs rs) (hw : Lw w) (hv : v ∈ nextsM rs w) : Lw v := by
  obtain ⟨q, hq, rfl⟩ := mem_nexts.mp hv
  exact changed_lw h hw hq
theorem Reach.ok {rs : List Ru} {u v : Wo} (h : Rs rs) (r : Reach rs u v) : (Lw u → Lw v) ∧ v.length ≤ u.length := by
  induction r with
  | refl => exact ⟨id, Nat.le_refl _⟩
  | step s _ ih => exact ⟨fun q => ih.1 (next_lw h q s), Nat.le_trans ih.2 (next_len h s)⟩
theorem next_rank {rs : List Ru} {w v : Wo} (h : Rs rs) (hw : Lw w) (hv : v ∈ nextsM rs w) : rankW v < rankW w := rank_ltW (next_lw h hw hv) hw (nexts_lt h hv)

/-! all words -/
def wordsN : Nat → List Wo
  | 0 => [[]]
  | n + 1 => (wordsN n).flatMap fun w => [97 :: w, 98 :: w, 99 :: w]
def allW (n : Nat) : List Wo := (List.range (n + 1)).flatMap wordsN
theorem mem_wordsN : ∀ {n : Nat} {w : Wo}, Lw w → w.length = n → w ∈ wordsN n
  | 0, [], _, _ => by simp [wordsN]
  | n + 1, c :: w, h, hl => by
    have ih := mem_wordsN (n := n) (w := w) (fun x hx => h x (List.mem_cons_of_mem _ hx)) (by simpa using hl)
    unfold wordsN
    refine List.mem_flatMap.mpr ⟨w, ih, ?_⟩
    rcases h c List.mem_cons_self with rfl | rfl | rfl <;> simp
theorem mem_allW {n : Nat} {w : Wo} (h : Lw w) (hl : w.length ≤ n) : w ∈ allW n :=
  List.mem_flatMap.mpr ⟨w.length, List.mem_range.mpr (by omega), mem_wordsN h rfl⟩
theorem wordsN_len : ∀ n, (wordsN n).length = 3 ^ n
  | 0 => rfl
  | n + 1 => by
    unfold wordsN
    have : ∀ l : List Wo, (l.flatMap fun w => [97 :: w, 98 :: w, 99 :: w]).length = l.length * 3 := fun l => by
      induction l with
      | nil => rfl
      | cons x l ih => rw [List.flatMap_cons, List.length_append, ih, List.length_cons, List.length_cons, List.length_cons, List.length_cons, List.length_nil]; omega
    rw [this, wordsN_len n, Nat.pow_succ]
theorem allW_len : (allW 12).length = 797161 := by
  unfold allW
  rw [List.length_flatMap]
  simp only [wordsN_len]
  decide
theorem len_of_subset {α : Type} [DecidableEq α] : ∀ {xs ys : List α}, xs.Nodup → (∀ x ∈ xs, x ∈ ys) → xs.length ≤ ys.length
  | [], ys, _, _ => Nat.zero_le _
  | x :: xs, ys, h, s => by
    have hx := s x List.mem_cons_self
    have hn := List.nodup_cons.mp h
    have ih := len_of_subset (xs := xs) (ys := ys.erase x) hn.2 fun y hy => (List.mem_erase_of_ne (fun e => hn.1 (by rw [← e]; exact hy))).mpr (s y (List.mem_cons_of_mem _ hy))
    rw [List.length_erase_of_mem hx] at ih
    have := List.length_pos_of_mem hx
    rw [List.length_cons]
    omega
/-- a list of words, each once -/
theorem words_few {xs : List Wo} (h : xs.Nodup) (hw : ∀ x ∈ xs, Lw x ∧ x.length ≤ 12) : xs.length ≤ 797161 := by
  rw [← allW_len]
  exact len_of_subset h fun x hx => mem_allW (hw x hx).1 (hw x hx).2

/-! the ends -/
def isEnd (rs : List Ru) (w v : Wo) : Prop := Reach rs w v ∧ nextsM rs v = []
noncomputable instance (rs : List Ru) (w v : Wo) : Decidable (isEnd rs w v) := Classical.propDecidable _
noncomputable def endsM (rs : List Ru) (w : Wo) : List Wo :=
  setW ((allW w.length).filter fun v => decide (isEnd rs w v))
theorem mem_endsM {rs : List Ru} {w v : Wo} (h : Rs rs) (hw : Lw w) : v ∈ endsM rs w ↔ isEnd rs w v := by
  unfold endsM
  rw [mem_setW, List.mem_filter]
  constructor
  · rintro ⟨_, q⟩
    exact of_decide_eq_true q
  · intro q
    have r := q.1.ok h
    exact ⟨mem_allW (r.1 hw) r.2, decide_eq_true q⟩
theorem endsM_nodup (rs : List Ru) (w : Wo) : (endsM rs w).Nodup := setW_nodup _
/-- whatever lists the ends each once: sorted, it is theirs -/
theorem endsM_of {rs : List Ru} {w : Wo} (h : Rs rs) (hw : Lw w) {xs : List Wo} (hn : xs.Nodup) (hm : ∀ v, v ∈ xs ↔ isEnd rs w v) : sortW xs = endsM rs w := by
  have e : sortW xs = setW xs := (sortW_nodup_eq hn).symm
  rw [e]
  unfold endsM
  refine setW_ext fun v => ?_
  rw [hm, List.mem_filter]
  constructor
  · intro q
    have r := q.1.ok h
    exact ⟨mem_allW (r.1 hw) r.2, decide_eq_true q⟩
  · rintro ⟨_, q⟩
    exact of_decide_eq_true q

/-! the end by the first places -/
def endM (rs : List Ru) (w : Wo) : Wo := match placesM rs w with
  | [] => w
  | q :: _ => if h : rankW (changedM rs w q.1 q.2) < rankW w then endM rs (changedM rs w q.1 q.2) else w
termination_by rankW w
theorem endM_nil {rs : List Ru} {w : Wo} (h : placesM rs w = []) : endM rs w = w := by
  rw [endM]; rw [h]
theorem endM_cons {rs : List Ru} {w : Wo} {q : Nat × Nat} {l : List (Nat × Nat)} (hr : Rs rs) (hw : Lw w) (h : placesM rs w = q :: l) : endM rs w = endM rs (changedM rs w q.1 q.2) := by
  have hq : changedM rs w q.1 q.2 ∈ nextsM rs w := mem_nexts.mpr ⟨q, by rw [h]; exact List.mem_cons_self, rfl⟩
  have hlt := next_rank hr hw hq
  conv => lhs; rw [endM]
  rw [h]
  exact dif_pos hlt
theorem nexts_nil {rs : List Ru} {w : Wo} : nextsM rs w = [] ↔ placesM rs w = [] := by
  constructor
  · intro h
    cases e : placesM rs w with
    | nil => rfl
    | cons q l =>
      have : changedM rs w q.1 q.2 ∈ nextsM rs w := mem_nexts.mpr ⟨q, by rw [e]; exact List.mem_cons_self, rfl⟩
      rw [h] at this
      cases this
  · intro h
    unfold nextsM
    rw [h]
    exact List.eq_nil_of_length_eq_zero (Nat.le_zero.mp (setW_len []))
theorem endM_end {rs : List Ru} (hr : Rs rs) : ∀ (n : Nat) {w : Wo}, Lw w → rankW w < n → isEnd rs w (endM rs w)
  | 0, _, _, h => absurd h (Nat.not_lt_zero _)
  | n + 1, w, hw, h => by
    cases e : placesM rs w with
    | nil => rw [endM_nil e]; exact ⟨.refl _, nexts_nil.mpr e⟩
    | cons q l =>
      have hq : changedM rs w q.1 q.2 ∈ nextsM rs w := mem_nexts.mpr ⟨q, by rw [e]; exact List.mem_cons_self, rfl⟩
      have hlt := next_rank hr hw hq
      rw [endM_cons hr hw e]
      have ih := endM_end hr n (w := changedM rs w q.1 q.2) (next_lw hr hw hq) (by omega)
      exact ⟨.step hq ih.1, ih.2⟩
theorem endM_isEnd {rs : List Ru} {w : Wo} (hr : Rs rs) (hw : Lw w) : isEnd rs w (endM rs w) := endM_end hr (rankW w + 1) hw (Nat.lt_succ_self _)
theorem endM_mem {rs : List Ru} {w : Wo} (hr : Rs rs) (hw : Lw w) : endM rs w ∈ endsM rs w := (mem_endsM hr hw).mpr (endM_isEnd hr hw)
theorem endsM_ne {rs : List Ru} {w : Wo} (hr : Rs rs) (hw : Lw w) : endsM rs w ≠ [] := fun e => by
  have := endM_mem hr hw
  rw [e] at this
  cases this
theorem endM_lw {rs : List Ru} {w : Wo} (hr : Rs rs) (hw : Lw w) : Lw (endM rs w) := ((endM_isEnd hr hw).1.ok hr).1 hw
theorem endM_len {rs : List Ru} {w : Wo} (hr : Rs rs) (hw : Lw w) : (endM rs w).length ≤ w.length := ((endM_isEnd hr hw).1.ok hr).2
theorem endsM_lw {rs : List Ru} {w v : Wo} (hr : Rs rs) (hw : Lw w) (h : v ∈ endsM rs w) : Lw v ∧ v.length ≤ w.length := by
  have q := (mem_endsM hr hw).mp h
  exact ⟨(q.1.ok hr).1 hw, (q.1.ok hr).2⟩
end Wm

set_option Elab.async false
set_option linter.all false
set_option maxRecDepth 100000
set_option maxHeartbeats 4000000
/-! WmO: pop, dicts of texts that a def makes. -/
namespace Wm
open PySem PySem.Spec PyProof.Rows L2
section
variable {X : Cx} {ds : List Sl} {e a b c : Expr} {d x y : D} {xs : List D} {pos pos' p p1 p2 p3 apos cpos : Pos} {rest : List Stmt} {O : Outs} {n m : Str} {i j : Nat}
/-- n = m.pop(), m the list in slot j -/
theorem S.pop (i j : Nat) (hj : ds[j]? = some (.ol (xs ++ [d]))) (k : S X rest ((ds.set j (.ol xs)).set i (.d d)) O) (hN : X.N.Nodup := by first | assumption | decide +kernel) (hi : X.N[i]? = some n := by rfl) (hNj : X.N[j]? = some m := by rfl)
    (hx : Loc X.env.scope n := by first | exact Or.inl rfl | exact Or.inr rfl) (hv : Vis X.env.scope m := by first | exact Or.inl rfl | exact Or.inr (Or.inl rfl) | exact Or.inr (Or.inr rfl))
    (hd : (m == ("__debug__" : Str)) = false := by decide) (hcd : (m == ("__classdict__" : Str)) = false := by decide) (hbase : attributeBase (.Name m p1) "pop" X.env (eval (.Name m p1) X.env) = eval (.Name m p1) X.env := by rfl) (hline : (apos.endLine == cpos.line) = true := by rfl)
    (hs : swapsWith (.Call (.Attribute (.Name m p1) "pop" apos) [] [] cpos) (some (.Name n pos')) pos.line X.env = pure false := by rfl)
    (hf : X.fn n = true ∨ X.env.scope.names.lookup n = some .local := by first | exact .inl rfl | exact .inr rfl) : S X (.Assign [.Name n pos'] (.Call (.Attribute (.Name m p1) "pop" apos) [] [] cpos) pos :: rest) ds O := S.mk fun He H0e H0 σ H I D M =>
  WSs_of (pss_cons (ps_set hN hi hx (pe_bm0 PySem.F.plainAttrs_list PySem.F.slot_list_pop PySem.F.type_list_pop mt_pop (pe_var hNj hv hd hcd) hbase hline) hs hf) (pss_WS (sts := rest))) (by
    obtain ⟨p, vs, e1, e2, e3, e4, e5⟩ := I.sl j _ hj
    have hl := e5.len
    rw [List.length_append, List.length_singleton] at hl
    obtain ⟨v, hv1, hv2⟩ := e5.at (i := xs.length) (d := d) (by simp)
    have hd1 := e5.dropLast
    rw [List.dropLast_concat] at hd1
    refine ⟨_, e1, .inl ⟨rfl, _, SqL.of e4⟩, p, vs, v, rfl, rfl, e4, by rw [← hl, Nat.add_sub_cancel]; exact hv1, ?_⟩
    exact k He H0e H0 _ _ ((I.mut hj rfl e1 (s' := .ol xs) (fun H2 h2 => ⟨p, _, rfl, e2, e3, h2, hd1⟩) rfl).set i hv2) D M)

/-! dicts of texts -/
def insW (ks : List (List Nat)) (w : List Nat) : List (List Nat) := if w ∈ ks then ks else ks ++ [w]
theorem val_od (ks : List (List Nat)) (w : List Nat) : valV (odKv ks) (Sum.inr (sx w) : Key) = if w ∈ ks then some (.bl true) else none := by
  induction ks with
  | nil => rfl
  | cons u ks ih =>
    unfold odKv
    rw [List.map_cons]
    by_cases h : u = w
    · subst h
      rw [valV_pos rfl, if_pos List.mem_cons_self]
    · rw [valV_neg (fun e => h (sx_inj (Sum.inr.inj e)))]
      have ih' := ih
      unfold odKv at ih'
      rw [ih']
      by_cases g : w ∈ ks
      · rw [if_pos g, if_pos (List.mem_cons_of_mem _ g)]
      · rw [if_neg g, if_neg (fun z => (List.mem_cons.mp z).elim (fun z => h z.symm) g)]
theorem put_od (ks : List (List Nat)) (w : List Nat) : putK (odKv ks) (Sum.inr (sx w) : Key) (.bl true) = odKv (insW ks w) := by
  unfold insW
  by_cases h : w ∈ ks
  · rw [if_pos h]
    unfold putK
    have e : ((odKv ks).any fun kv => decide (kv.1 = (Sum.inr (sx w) : Key))) = true := by
      rw [valV_any, val_od, if_pos h]; rfl
    rw [if_pos e]
    unfold odKv
    rw [List.map_map]
    refine List.map_congr_left fun u hu => ?_
    show (if (Sum.inr (sx u) : Key) = Sum.inr (sx w) then _ else _) = _
    split <;> rfl
  · rw [if_neg h, putK_new _ (by rw [val_od, if_neg h])]
    unfold odKv
    rw [List.map_append]; rfl
theorem mem_insW {ks : List (List Nat)} {w v : List Nat} : v ∈ insW ks w ↔ v ∈ ks ∨ v = w := by
  unfold insW
  split
  · rename_i h
    constructor
    · exact .inl
    · rintro (q | rfl); exact q; exact h
  · simp
theorem insW_nodup {ks : List (List Nat)} {w : List Nat} (h : ks.Nodup) : (insW ks w).Nodup := by
  unfold insW
  split
  · exact h
  · rename_i g
    rw [List.nodup_append]
    exact ⟨h, by simp, fun a ha b hb e => g (by rw [List.mem_singleton.mp hb] at e; rw [← e]; exact ha)⟩
/-- n = {} -/
theorem S.asgD0 (i : Nat) (k : S X rest (ds.set i (.od [])) O) (hN : X.N.Nodup := by first | assumption | decide +kernel) (hi : X.N[i]? = some n := by rfl) (hx : Loc X.env.scope n := by first | exact Or.inl rfl | exact Or.inr rfl) (hs : swapsWith (.Dict [] [] p) (some (.Name n pos')) pos.line X.env = pure false := by rfl)
    (hf : X.fn n = true ∨ X.env.scope.names.lookup n = some .local := by first | exact .inl rfl | exact .inr rfl) : S X (.Assign [.Name n pos'] (.Dict [] [] p) pos :: rest) ds O := S.mk fun He H0e H0 σ H I D M =>
  WSs_of (pss_cons (ps_set hN hi hx pe_dnewK hs hf) (pss_WS (sts := rest))) fun q hq => k He H0e H0 _ _ (I.setO i hq fun H2 h2 => ⟨q, rfl, I.henone hq, I.h0none hq, h2⟩) D M
/-- n = {m: True} -/
theorem S.asgD1 (i : Nat) {w : List Nat} {z : Nat} (hj : ds[j]? = some (.d (.str w))) (k : S X rest (ds.set i (.od [w])) O) (hN : X.N.Nodup := by first | assumption | decide +kernel) (hi : X.N[i]? = some n := by rfl) (hNj : X.N[j]? = some m := by rfl)
    (hx : Loc X.env.scope n := by first | exact Or.inl rfl | exact Or.inr rfl) (hv : Vis X.env.scope m := by first | exact Or.inl rfl | exact Or.inr (Or.inl rfl) | exact Or.inr (Or.inr rfl)) (hd : (m == ("__debug__" : Str)) = false := by decide) (hcd : (m == ("__classdict__" : Str)) = false := by decide)
    (hs : swapsWith (.Dict [some (.Name m p1)] [.Constant (.bool true) z p2] p) (some (.Name n pos')) pos.line X.env = pure false := by rfl)
    (hf : X.fn n = true ∨ X.env.scope.names.lookup n = some .local := by first | exact .inl rfl | exact .inr rfl) : S X (.Assign [.Name n pos'] (.Dict [some (.Name m p1)] [.Constant (.bool true) z p2] p) pos :: rest) ds O := S.mk fun He H0e H0 σ H I D M =>
  WSs_of (pss_cons (ps_set hN hi hx (pe_disp (pps_cons (pe_var hNj hv hd hcd) pe_bl pps_nil) (by rfl) (by rfl) (fun z => by cases z) (Nat.le_of_ble_eq_true rfl)) hs hf) (pss_WS (sts := rest))) (by
    obtain ⟨v, h1, h2⟩ := I.sl j _ hj
    rw [dat_str] at h2; subst h2
    refine fun q hq => ⟨_, h1, upd_same, [(Sum.inr (sx w), .bl true)], rfl, Nat.le_add_left 1 14, ?_⟩
    rw [upd_upd]
    exact k He H0e H0 _ _ (I.setO i hq fun H2 h2 => ⟨q, rfl, I.henone hq, I.h0none hq, h2⟩) D M)
/-- m[e] = True -/
theorem S.dput (j : Nat) {ks : List (List Nat)} {w : List Nat} {z : Nat} (B : Bi X) (hj : ds[j]? = some (.od ks)) (h : E X ds e (.str w)) (hz : ks.length < 16777216) (k : S X rest (ds.set j (.od (insW ks w))) O) (hN : X.N[j]? = some m := by rfl) (hv : Vis X.env.scope m := by first | exact Or.inl rfl | exact Or.inr (Or.inl rfl) | exact Or.inr (Or.inr rfl))
    (hd : (m == ("__debug__" : Str)) = false := by decide) (hcd : (m == ("__classdict__" : Str)) = false := by decide) (hs : swapsWith (.Constant (.bool true) z p2) (some (.Subscript (.Name m p1) e pos')) pos.line X.env = pure false := by rfl) :
    S X (.Assign [.Subscript (.Name m p1) e pos'] (.Constant (.bool true) z p2) pos :: rest) ds O := S.mk fun He H0e H0 σ H I D M =>
  WSs_of (pss_cons (ps_dput (by have := B.un; omega) (pe_var hN hv hd hcd) pe_W pe_bl hs) (pss_WS (sts := rest))) (by
    obtain ⟨q, e1, e2, e3, e4⟩ := I.sl j _ hj
    refine ⟨_, e1, h He H0e H0 σ H I _ fun v H1 H' I1 f1 d1 => ?_⟩
    rw [dat_str] at d1; subst d1
    obtain ⟨q', g1, g2, g3, g4⟩ := I1.sl j _ hj
    rw [e1] at g1
    obtain rfl : q = q' := by simpa using g1
    refine ⟨q, _, rfl, DPut.k (k := Sum.inr (sx w)) g4 (by unfold odKv; rw [List.length_map, sizeLine_eq]; exact hz), ?_⟩
    rw [put_od]
    exact k He H0e H1 σ _ (I1.mut hj rfl e1 (s' := .od (insW ks w)) (fun H2 h2 => ⟨q, rfl, g2, g3, h2⟩) rfl) D (M.mono f1))
/-- e in m, e not in m -/
theorem T.inOD (j : Nat) {ks : List (List Nat)} {w : List Nat} (B : Bi X) (h : E X ds e (.str w)) (hj : ds[j]? = some (.od ks)) (hN : X.N[j]? = some m := by rfl) (hv : Vis X.env.scope m := by first | exact Or.inl rfl | exact Or.inr (Or.inl rfl) | exact Or.inr (Or.inr rfl))
    (hd : (m == ("__debug__" : Str)) = false := by decide) (hcd : (m == ("__classdict__" : Str)) = false := by decide) (h1 : behindInMarks .In (.Name m p1) = false := by first | exact nobehind _ (by decide) (by decide) | rfl) : T X ds (.Compare e [.In] [.Name m p1] pos) (decide (w ∈ ks)) :=
  T.of (pt_cmp (pc_din (by have := B.un; omega) pe_W (pe_var hN hv hd hcd)) h1) fun He H0e H0 σ H I Q q => h He H0e H0 σ H I _ fun v H1 H' I1 f1 d1 => by
    rw [dat_str] at d1; subst d1
    obtain ⟨p, g1, g2, g3, g4⟩ := I1.sl j _ hj
    refine ⟨_, g1, p, _, rfl, DGet.k (k := Sum.inr (sx w)) g4, _, rfl, ?_⟩
    rw [val_od]
    by_cases c : w ∈ ks
    · rw [if_pos c]; rw [decide_eq_true c] at q; exact q H1 H' I1 f1
    · rw [if_neg c]; rw [decide_eq_false c] at q; exact q H1 H' I1 f1
theorem T.notInOD (j : Nat) {ks : List (List Nat)} {w : List Nat} (B : Bi X) (h : E X ds e (.str w)) (hj : ds[j]? = some (.od ks)) (hN : X.N[j]? = some m := by rfl) (hv : Vis X.env.scope m := by first | exact Or.inl rfl | exact Or.inr (Or.inl rfl) | exact Or.inr (Or.inr rfl))
    (hd : (m == ("__debug__" : Str)) = false := by decide) (hcd : (m == ("__classdict__" : Str)) = false := by decide) (h1 : behindInMarks .NotIn (.Name m p1) = false := by first | exact nobehind _ (by decide) (by decide) | rfl) : T X ds (.Compare e [.NotIn] [.Name m p1] pos) (!decide (w ∈ ks)) :=
  T.of (pt_cmp (pc_dnotin (by have := B.un; omega) pe_W (pe_var hN hv hd hcd)) h1) fun He H0e H0 σ H I Q q => h He H0e H0 σ H I _ fun v H1 H' I1 f1 d1 => by
    rw [dat_str] at d1; subst d1
    obtain ⟨p, g1, g2, g3, g4⟩ := I1.sl j _ hj
    refine ⟨_, g1, p, _, rfl, DGet.k (k := Sum.inr (sx w)) g4, _, rfl, ?_⟩
    rw [val_od]
    by_cases c : w ∈ ks
    · rw [if_pos c]; rw [decide_eq_true c] at q; exact q H1 H' I1 f1
    · rw [if_neg c]; rw [decide_eq_false c] at q; exact q H1 H' I1 f1
/-- sorted(m) -/
theorem EL.sortedOD (j : Nat) {ks : List (List Nat)} (B : Bi X) (hj : ds[j]? = some (.od ks)) (hN : X.N[j]? = some m := by rfl) (hv : Vis X.env.scope m := by first | exact Or.inl rfl | exact Or.inr (Or.inl rfl) | exact Or.inr (Or.inr rfl)) (hg : Gl X "sorted" := by rfl)
    (hd : (m == ("__debug__" : Str)) = false := by decide) (hcd : (m == ("__classdict__" : Str)) = false := by decide) (hs : starEach [Expr.Name m p1] X.env = (false, eval (.Name m p1) X.env) :: starEach [] X.env := by rfl) (hpl : (backTo pos (starEach [] X.env)).any (·.1) = false := by rfl) :
    EL X ds (.Call (.Name "sorted" p) [.Name m p1] [] pos) ((sortW ks).map D.str) :=
  EL.of (pe_callB (cr_sortedDA B.calm) hg B.sorted (by decide +kernel) (pa_cons (pe_var hN hv hd hcd) pa_nil hs) (by decide) (by decide) hs hpl) fun He H0e H0 σ H I Q q => by
    obtain ⟨r, h1, h2, h3, h4⟩ := I.sl j _ hj
    refine ⟨_, h1, r, odKv ks, ks.map sx, rfl, h4, by unfold odKv; rw [List.map_map, List.map_map]; rfl, fun ys t hp hs hn => ?_⟩
    rw [sorted_texts hp hs, ← map_strs]
    exact q t _ H0 H I (Same.refl _) hn (Dats.strs.mpr rfl)
end
end Wm

set_option Elab.async false
set_option linter.all false
set_option maxRecDepth 100000
set_option maxHeartbeats 4000000
/-! WmQ: the search of all ends, in plain Lean. -/
namespace Wm
open PySem PySem.Spec PyProof.Rows L2
/-- met: the words that were met; todo: those not looked at; cur: those that are looked at; found: the ends so far -/
structure Srch (rs : List Ru) (w : Wo) (met todo found cur : List Wo) : Prop where
  wm : w ∈ met
  mn : met.Nodup
  mr : ∀ v ∈ met, Reach rs w v
  tn : todo.Nodup
  tm : ∀ v ∈ todo, v ∈ met
  fn : found.Nodup
  fm : ∀ v, v ∈ found ↔ v ∈ met ∧ v ∉ todo ∧ nextsM rs v = []
  dn : ∀ v ∈ met, v ∉ todo → v ∉ cur → ∀ x ∈ nextsM rs v, x ∈ met
section
variable {rs : List Ru} {w h x : Wo} {met todo todo' found cur : List Wo}
theorem Srch.init : Srch rs w [w] [w] [] [] where
  wm := List.mem_singleton.mpr rfl
  mn := by simp
  mr := fun v hv => by rw [List.mem_singleton.mp hv]; exact .refl _
  tn := by simp
  tm := fun v hv => hv
  fn := List.nodup_nil
  fm := fun v => by
    constructor
    · intro q; cases q
    · rintro ⟨q, r, _⟩; exact absurd q r
  dn := fun v q r => absurd q r
theorem Srch.pop (S : Srch rs w met todo found []) (ht : ∀ v, v ∈ todo ↔ v ∈ todo' ∨ v = h) (hn : h ∉ todo') (tn : todo'.Nodup) : Srch rs w met todo' (if nextsM rs h = [] then found ++ [h] else found) [h] where
  wm := S.wm
  mn := S.mn
  mr := S.mr
  tn := tn
  tm := fun v hv => S.tm v ((ht v).mpr (.inl hv))
  fn := by
    split
    · rw [List.nodup_append]
      refine ⟨S.fn, by simp, fun a ha b hb e => ?_⟩
      rw [List.mem_singleton.mp hb] at e
      rw [e] at ha
      exact ((S.fm h).mp ha).2.1 ((ht h).mpr (.inr rfl))
    · exact S.fn
  fm := fun v => by
    have key : v ∈ found ↔ v ∈ met ∧ v ∉ todo ∧ nextsM rs v = [] := S.fm v
    have hm : h ∈ met := S.tm h ((ht h).mpr (.inr rfl))
    by_cases c : nextsM rs h = []
    · rw [if_pos c, List.mem_append, List.mem_singleton, key]
      constructor
      · rintro (⟨a, b, d⟩ | rfl)
        · exact ⟨a, fun z => b ((ht v).mpr (.inl z)), d⟩
        · exact ⟨hm, hn, c⟩
      · rintro ⟨a, b, d⟩
        by_cases e : v = h
        · exact .inr e
        · exact .inl ⟨a, fun z => ((ht v).mp z).elim b e, d⟩
    · rw [if_neg c, key]
      constructor
      · rintro ⟨a, b, d⟩
        exact ⟨a, fun z => b ((ht v).mpr (.inl z)), d⟩
      · rintro ⟨a, b, d⟩
        refine ⟨a, fun z => ((ht v).mp z).elim b fun e => ?_, d⟩
        rw [e] at d
        exact c d
  dn := fun v hv h1 h2 => S.dn v hv (fun z => ((ht v).mp z).elim h1 fun e => h2 (by rw [e]; exact List.mem_singleton.mpr rfl)) (by simp)
theorem Srch.addAll (S : Srch rs w met todo found cur) (hh : h ∈ met) {xs : List Wo} (hx : ∀ x ∈ xs, x ∈ nextsM rs h ∧ x ∉ met) (hn : xs.Nodup) : Srch rs w (met ++ xs) (todo ++ xs) found cur where
  wm := List.mem_append_left _ S.wm
  mn := by
    rw [List.nodup_append]
    exact ⟨S.mn, hn, fun a ha b hb e => (hx b hb).2 (by rw [← e]; exact ha)⟩
  mr := fun v hv => (List.mem_append.mp hv).elim (S.mr v) fun q => (S.mr h hh).snoc (hx v q).1
  tn := by
    rw [List.nodup_append]
    exact ⟨S.tn, hn, fun a ha b hb e => (hx b hb).2 (by rw [← e]; exact S.tm a ha)⟩
  tm := fun v hv => (List.mem_append.mp hv).elim (fun q => List.mem_append_left _ (S.tm v q)) fun q => List.mem_append_right _ q
  fn := S.fn
  fm := fun v => by
    rw [S.fm v]
    constructor
    · rintro ⟨a, b, c⟩
      exact ⟨List.mem_append_left _ a, fun z => (List.mem_append.mp z).elim b fun q => (hx v q).2 a, c⟩
    · rintro ⟨a, b, c⟩
      have nx : v ∉ xs := fun q => b (List.mem_append_right _ q)
      exact ⟨(List.mem_append.mp a).elim id fun q => absurd q nx, fun z => b (List.mem_append_left _ z), c⟩
  dn := fun v hv h1 h2 x hx' => by
    have nx : v ∉ xs := fun q => h1 (List.mem_append_right _ q)
    have vm : v ∈ met := (List.mem_append.mp hv).elim id fun q => absurd q nx
    exact List.mem_append_left _ (S.dn v vm (fun z => h1 (List.mem_append_left _ z)) h2 x hx')
theorem Srch.add (S : Srch rs w met todo found cur) (hh : h ∈ met) (hx : x ∈ nextsM rs h) (hn : x ∉ met) : Srch rs w (met ++ [x]) (todo ++ [x]) found cur :=
  S.addAll hh (fun y hy => by rw [List.mem_singleton.mp hy]; exact ⟨hx, hn⟩) (by simp)
theorem Srch.done (S : Srch rs w met todo found [h]) (hd : ∀ x ∈ nextsM rs h, x ∈ met) : Srch rs w met todo found [] where
  wm := S.wm
  mn := S.mn
  mr := S.mr
  tn := S.tn
  tm := S.tm
  fn := S.fn
  fm := S.fm
  dn := fun v hv h1 _ => by
    by_cases e : v = h
    · rw [e]; exact hd
    · exact S.dn v hv h1 (fun z => e (List.mem_singleton.mp z))
theorem Srch.all (S : Srch rs w met [] found []) : ∀ {u v : Wo}, Reach rs u v → u ∈ met → v ∈ met := fun r => by
  induction r with
  | refl => exact id
  | step s _ ih => exact fun q => ih (S.dn _ q (by simp) (by simp) _ s)
theorem Srch.fin (S : Srch rs w met [] found []) (v : Wo) : v ∈ found ↔ isEnd rs w v := by
  rw [S.fm v]
  constructor
  · rintro ⟨a, _, c⟩; exact ⟨S.mr v a, c⟩
  · rintro ⟨a, c⟩; exact ⟨S.all a S.wm, by simp, c⟩
theorem Srch.words (S : Srch rs w met todo found cur) (hr : Rs rs) (hw : Lw w) (hl : w.length ≤ 12) : ∀ v ∈ met, Lw v ∧ v.length ≤ 12 := fun v hv => by
  have q := (S.mr v hv).ok hr
  exact ⟨q.1 hw, Nat.le_trans q.2 hl⟩
theorem Srch.few (S : Srch rs w met todo found cur) (hr : Rs rs) (hw : Lw w) (hl : w.length ≤ 12) : met.length ≤ 797161 := words_few S.mn (S.words hr hw hl)
theorem Srch.tfew (S : Srch rs w met todo found cur) (hr : Rs rs) (hw : Lw w) (hl : w.length ≤ 12) : todo.length ≤ 797161 := words_few S.tn fun v hv => S.words hr hw hl v (S.tm v hv)
theorem Srch.ffew (S : Srch rs w met todo found cur) (hr : Rs rs) (hw : Lw w) (hl : w.length ≤ 12) : found.length ≤ 797161 := words_few S.fn fun v hv => S.words hr hw hl v ((S.fm v).mp hv).1
end
theorem insW_new {ks : List Wo} {w : Wo} (h : w ∉ ks) : insW ks w = ks ++ [w] := if_neg h
theorem nextsM_nodup (rs : List Ru) (w : Wo) : (nextsM rs w).Nodup := setW_nodup _
theorem nextsM_few {rs : List Ru} {w : Wo} (h : Rs rs) (hw : w.length ≤ 100) : (nextsM rs w).length ≤ 2000 := by
  refine Nat.le_trans (setW_len _) ?_
  rw [List.length_map]
  exact Nat.le_trans (placesM_len rs w) (Nat.mul_le_mul hw h.few)
end Wm

set_option Elab.async false
set_option linter.all false
set_option maxRecDepth 100000
set_option maxHeartbeats 4000000
/-! WmU: clashes; where each clash has one end, each word has. -/
namespace Wm
open PySem PySem.Spec PyProof.Rows L2
def overN (one other : Wo) (p : Nat) : Nat := min (one.length - p) other.length
def overC (one other : Wo) (p : Nat) : Bool := decide ((one.drop p).take (overN one other p) = other.take (overN one other p))
def overW (one other : Wo) (p : Nat) : Wo := one.take p ++ other ++ one.drop (p + other.length)
def overM (one other : Wo) : List (Nat × Wo) := ((List.range one.length).filter (overC one other)).map fun p => (p, overW one other p)
def clashQ (a b : Ru × Nat) (q : Nat × Wo) : Bool := !decide ((a.2 : Int) = (b.2 : Int)) || decide ((0 : Int) < (q.1 : Int))
def clashPair (a b : Ru × Nat) : List Wo := ((overM a.1.1 b.1.1).filter (clashQ a b)).map (·.2)
def clashL (rs : List Ru) : List Wo := rs.zipIdx.flatMap fun a => rs.zipIdx.flatMap fun b => clashPair a b
def clashesM (rs : List Ru) : List Wo := setW (clashL rs)
/-- rules as a program's are: no left has more than six letters -/
structure R6 (rs : List Ru) : Prop where
  ok : Rs rs
  six : ∀ r ∈ rs, r.1.length ≤ 6
theorem mem_clashes {rs : List Ru} {c : Wo} : c ∈ clashesM rs ↔ ∃ (k n : Nat) (r s : Ru) (p : Nat), rs[k]? = some r ∧ rs[n]? = some s ∧ p < r.1.length ∧ overC r.1 s.1 p = true ∧ (k ≠ n ∨ 0 < p) ∧ c = overW r.1 s.1 p := by
  unfold clashesM
  rw [mem_setW]
  unfold clashL
  simp only [List.mem_flatMap]
  constructor
  · rintro ⟨a, ha, b, hb, h⟩
    unfold clashPair at h
    obtain ⟨q, hq, rfl⟩ := List.mem_map.mp h
    obtain ⟨h1, h2⟩ := List.mem_filter.mp hq
    unfold overM at h1
    obtain ⟨p, hp, rfl⟩ := List.mem_map.mp h1
    obtain ⟨h3, h4⟩ := List.mem_filter.mp hp
    refine ⟨a.2, b.2, a.1, b.1, p, List.mem_zipIdx_iff_getElem?.mp ha, List.mem_zipIdx_iff_getElem?.mp hb, List.mem_range.mp h3, h4, ?_, rfl⟩
    unfold clashQ at h2
    simp only [Bool.or_eq_true, Bool.not_eq_true', decide_eq_false_iff_not, decide_eq_true_eq] at h2
    rcases h2 with q | q
    · exact .inl fun z => q (by rw [z])
    · exact .inr (by omega)
  · rintro ⟨k, n, r, s, p, h1, h2, h3, h4, h5, rfl⟩
    refine ⟨(r, k), List.mem_zipIdx_iff_getElem?.mpr h1, (s, n), List.mem_zipIdx_iff_getElem?.mpr h2, ?_⟩
    unfold clashPair
    refine List.mem_map.mpr ⟨(p, overW r.1 s.1 p), List.mem_filter.mpr ⟨List.mem_map.mpr ⟨p, List.mem_filter.mpr ⟨List.mem_range.mpr h3, h4⟩, rfl⟩, ?_⟩, rfl⟩
    unfold clashQ
    simp only [Bool.or_eq_true, Bool.not_eq_true', decide_eq_false_iff_not, decide_eq_true_eq]
    rcases h5 with q | q
    · exact .inl (by omega)
    · exact .inr (by omega)
theorem over_len {one other : Wo} {p : Nat} (h1 : one.length ≤ 6) (h2 : other.length ≤ 6) (hp : p < one.length) : (overW one other p).length ≤ 11 := by
  unfold overW
  rw [List.length_append, List.length_append, List.length_take, List.length_drop]
  omega
theorem over_lw {one other : Wo} {p : Nat} (h1 : Lw one) (h2 : Lw other) : Lw (overW one other p) := ((h1.take _).app h2).app (h1.drop _)
theorem clash_ok {rs : List Ru} {c : Wo} (h : R6 rs) (hc : c ∈ clashesM rs) : Lw c ∧ c.length ≤ 11 := by
  obtain ⟨k, n, r, s, p, h1, h2, h3, h4, h5, rfl⟩ := mem_clashes.mp hc
  have m1 := List.mem_of_getElem? h1
  have m2 := List.mem_of_getElem? h2
  exact ⟨over_lw (h.ok.all r m1).lw1 (h.ok.all s m2).lw1, over_len (h.six r m1) (h.six s m2) h3⟩

/-! steps, with what stands around -/
theorem next_iff {rs : List Ru} {w v : Wo} (h : Rs rs) : v ∈ nextsM rs w ↔ ∃ (k : Nat) (r : Ru) (u z : Wo), rs[k]? = some r ∧ w = u ++ r.1 ++ z ∧ v = u ++ r.2 ++ z := by
  constructor
  · intro hv
    obtain ⟨q, hq, rfl⟩ := mem_nexts.mp hv
    obtain ⟨hp, r, hr, hs⟩ := (mem_places (p := q.1) (k := q.2)).mp hq
    refine ⟨q.2, r, w.take q.1, w.drop (q.1 + r.1.length), hr, stands_split hs, ?_⟩
    rw [changed_of hr]
    rfl
  · rintro ⟨k, r, u, z, hr, rfl, rfl⟩
    have pos := (h.all r (List.mem_of_getElem? hr)).pos
    refine mem_nexts.mpr ⟨(u.length, k), (mem_places).mpr ⟨?_, r, hr, ?_⟩, ?_⟩
    · rw [List.length_append, List.length_append]; omega
    · unfold standsAt
      refine decide_eq_true ?_
      rw [List.append_assoc, List.drop_left, List.take_left]
    · rw [changed_of hr]
      unfold chg
      show (u ++ r.1 ++ z).take u.length ++ r.2 ++ (u ++ r.1 ++ z).drop (u.length + r.1.length) = _
      rw [← List.length_append, List.drop_left, List.append_assoc u, List.take_left]
theorem next_ctx {rs : List Ru} {w v : Wo} (h : Rs rs) (u z : Wo) (hv : v ∈ nextsM rs w) : u ++ v ++ z ∈ nextsM rs (u ++ w ++ z) := by
  obtain ⟨k, r, a, b, hr, rfl, rfl⟩ := (next_iff h).mp hv
  exact (next_iff h).mpr ⟨k, r, u ++ a, b ++ z, hr, by simp only [List.append_assoc], by simp only [List.append_assoc]⟩
theorem Reach.ctx {rs : List Ru} {w v : Wo} (h : Rs rs) (u z : Wo) (r : Reach rs w v) : Reach rs (u ++ w ++ z) (u ++ v ++ z) := by
  induction r with
  | refl => exact .refl _
  | step s _ ih => exact .step (next_ctx h u z s) ih

/-- one end at most -/
def OneEnd (rs : List Ru) (w : Wo) : Prop := ∀ e f, isEnd rs w e → isEnd rs w f → e = f
theorem OneEnd.meet {rs : List Ru} {c a b : Wo} (h : Rs rs) (hc : Lw c) (o : OneEnd rs c) (ha : a ∈ nextsM rs c) (hb : b ∈ nextsM rs c) : ∃ e, Reach rs a e ∧ Reach rs b e := by
  have la := next_lw h hc ha
  have lb := next_lw h hc hb
  have ea := endM_isEnd h la
  have eb := endM_isEnd h lb
  have e : endM rs a = endM rs b := o _ _ ⟨.step ha ea.1, ea.2⟩ ⟨.step hb eb.1, eb.2⟩
  exact ⟨endM rs a, ea.1, by rw [e]; exact eb.1⟩
/-- two steps of a word, the first at or ahead of the second -/
theorem meet_at {rs : List Ru} (h : Rs rs) (hcl : ∀ c ∈ clashesM rs, ∀ a b, a ∈ nextsM rs c → b ∈ nextsM rs c → ∃ e, Reach rs a e ∧ Reach rs b e) {k n : Nat} {r s : Ru} (hr : rs[k]? = some r) (hs : rs[n]? = some s) {u z1 t z2 : Wo} (e : r.1 ++ z1 = t ++ (s.1 ++ z2)) :
    ∃ d, Reach rs (u ++ r.2 ++ z1) d ∧ Reach rs (u ++ t ++ s.2 ++ z2) d := by
  have pr := (h.all r (List.mem_of_getElem? hr)).pos
  have ps := (h.all s (List.mem_of_getElem? hs)).pos
  have clash : ∀ {y y' z : Wo}, overC r.1 s.1 t.length = true → t.length < r.1.length → (k ≠ n ∨ 0 < t.length) → overW r.1 s.1 t.length = r.1 ++ y → overW r.1 s.1 t.length = t ++ s.1 ++ y' → z1 = y ++ z → z2 = y' ++ z →
      ∃ d, Reach rs (u ++ r.2 ++ z1) d ∧ Reach rs (u ++ t ++ s.2 ++ z2) d := by
    intro y y' z h1 h2 h3 h4 h5 h6 h7
    have hc := mem_clashes.mpr ⟨k, n, r, s, t.length, hr, hs, h2, h1, h3, rfl⟩
    have ha : r.2 ++ y ∈ nextsM rs (overW r.1 s.1 t.length) := (next_iff h).mpr ⟨k, r, [], y, hr, by rw [h4]; rfl, by simp⟩
    have hb : t ++ s.2 ++ y' ∈ nextsM rs (overW r.1 s.1 t.length) := (next_iff h).mpr ⟨n, s, t, y', hs, h5, rfl⟩
    obtain ⟨d, d1, d2⟩ := hcl _ hc _ _ ha hb
    refine ⟨u ++ d ++ z, ?_, ?_⟩
    · have := d1.ctx h u z
      rw [h6]
      simpa only [List.append_assoc] using this
    · have := d2.ctx h u z
      rw [h7]
      simpa only [List.append_assoc] using this
  rcases List.append_eq_append_iff.mp e with ⟨t', ht, hz⟩ | ⟨q, hq, hz⟩
  · -- apart
    subst ht hz
    refine ⟨u ++ r.2 ++ t' ++ s.2 ++ z2, .step ((next_iff h).mpr ⟨n, s, u ++ r.2 ++ t', z2, hs, by simp only [List.append_assoc], rfl⟩) (.refl _), .step ((next_iff h).mpr ⟨k, r, u, t' ++ s.2 ++ z2, hr, by simp only [List.append_assoc], by simp only [List.append_assoc]⟩) (.refl _)⟩
  · by_cases q0 : q = []
    · -- side by side
      subst q0
      rw [List.append_nil] at hq
      rw [List.nil_append] at hz
      subst hz
      refine ⟨u ++ r.2 ++ s.2 ++ z2, .step ((next_iff h).mpr ⟨n, s, u ++ r.2, z2, hs, by simp only [List.append_assoc], rfl⟩) (.refl _), .step ((next_iff h).mpr ⟨k, r, u, s.2 ++ z2, hr, by rw [hq]; simp only [List.append_assoc], by simp only [List.append_assoc]⟩) (.refl _)⟩
    · have ql : 0 < q.length := List.length_pos_iff.mpr q0
      have tl : t.length < r.1.length := by rw [hq, List.length_append]; omega
      rcases List.append_eq_append_iff.mp hz with ⟨y', h1, h2⟩ | ⟨y, h1, h2⟩
      · -- the second stands within the first
        have eW : overW r.1 s.1 t.length = r.1 := by
          unfold overW
          rw [hq, h1, List.take_left, ← List.append_assoc, ← List.length_append, List.drop_left]
        have eC : overC r.1 s.1 t.length = true := by
          unfold overC overN
          refine decide_eq_true ?_
          rw [hq, List.drop_left, List.length_append, Nat.add_sub_cancel_left, h1, List.length_append, Nat.min_eq_right (by omega), List.take_left, List.take_length]
        by_cases c : k = n ∧ t.length = 0
        · obtain ⟨rfl, t0⟩ := c
          obtain rfl : t = [] := List.length_eq_zero_iff.mp t0
          rw [hs] at hr
          obtain rfl := Option.some.inj hr
          rw [List.nil_append] at hq
          have : s.1 ++ z1 = s.1 ++ z2 := by simpa using e
          have z12 := List.append_cancel_left this
          subst z12
          refine ⟨u ++ s.2 ++ z1, .refl _, ?_⟩
          rw [List.append_nil]
          exact .refl _
        · refine clash (y := []) (y' := y') (z := z1) eC tl ?_ (by rw [eW, List.append_nil]) (by rw [eW, hq, h1, List.append_assoc]) rfl h2
          rcases Nat.eq_zero_or_pos t.length with w | w
          · exact .inl fun z => c ⟨z, w⟩
          · exact .inr w
      · -- the second goes beyond the first
        have eW : overW r.1 s.1 t.length = t ++ s.1 := by
          unfold overW
          rw [hq, List.take_left, List.drop_eq_nil_of_le (by rw [List.length_append, h1, List.length_append]; omega), List.append_nil]
        have eC : overC r.1 s.1 t.length = true := by
          unfold overC overN
          refine decide_eq_true ?_
          rw [hq, List.drop_left, List.length_append, Nat.add_sub_cancel_left, h1, List.length_append, Nat.min_eq_left (by omega), List.take_length, List.take_left]
        by_cases c : k = n ∧ t.length = 0
        · obtain ⟨rfl, t0⟩ := c
          obtain rfl : t = [] := List.length_eq_zero_iff.mp t0
          rw [hs] at hr
          obtain rfl := Option.some.inj hr
          have : s.1 ++ z1 = s.1 ++ z2 := by simpa using e
          have z12 := List.append_cancel_left this
          subst z12
          refine ⟨u ++ s.2 ++ z1, .refl _, ?_⟩
          rw [List.append_nil]
          exact .refl _
        · refine clash (y := y) (y' := []) (z := z2) eC tl ?_ (by rw [eW, hq, h1, List.append_assoc]) (by rw [eW, List.append_nil]) h2 rfl
          rcases Nat.eq_zero_or_pos t.length with w | w
          · exact .inl fun z => c ⟨z, w⟩
          · exact .inr w
theorem meet_next {rs : List Ru} (h : Rs rs) (hcl : ∀ c ∈ clashesM rs, ∀ a b, a ∈ nextsM rs c → b ∈ nextsM rs c → ∃ e, Reach rs a e ∧ Reach rs b e) {w a b : Wo} (ha : a ∈ nextsM rs w) (hb : b ∈ nextsM rs w) : ∃ d, Reach rs a d ∧ Reach rs b d := by
  obtain ⟨k, r, u1, z1, hr, hw1, rfl⟩ := (next_iff h).mp ha
  obtain ⟨n, s, u2, z2, hs, hw2, rfl⟩ := (next_iff h).mp hb
  rw [hw1, List.append_assoc, List.append_assoc] at hw2
  rcases List.append_eq_append_iff.mp hw2 with ⟨t, ht, hz⟩ | ⟨t, ht, hz⟩
  · subst ht
    exact meet_at h hcl hr hs hz
  · subst ht
    obtain ⟨d, d1, d2⟩ := meet_at h hcl (u := u2) hs hr hz
    exact ⟨d, d2, d1⟩
/-- where the steps of each clash meet again, each word has one end -/
theorem newman {rs : List Ru} (h : Rs rs) (hcl : ∀ c ∈ clashesM rs, ∀ a b, a ∈ nextsM rs c → b ∈ nextsM rs c → ∃ e, Reach rs a e ∧ Reach rs b e) : ∀ (m : Nat) {w : Wo}, Lw w → rankW w < m → OneEnd rs w
  | 0, _, _, hm => absurd hm (Nat.not_lt_zero _)
  | m + 1, w, hw, hm => by
    rintro e f ⟨re, ee⟩ ⟨rf, ef⟩
    cases re with
    | refl =>
      cases rf with
      | refl => rfl
      | step s _ => rw [ee] at s; cases s
    | step s1 r1 =>
      cases rf with
      | refl => rw [ef] at s1; cases s1
      | step s2 r2 =>
        obtain ⟨d, d1, d2⟩ := meet_next h hcl s1 s2
        have l1 := next_lw h hw s1
        have l2 := next_lw h hw s2
        have k1 := next_rank h hw s1
        have k2 := next_rank h hw s2
        have ld := (d1.ok h).1 l1
        have ed := endM_isEnd h ld
        have o1 := newman h hcl m l1 (by omega) _ _ ⟨r1, ee⟩ ⟨d1.trans ed.1, ed.2⟩
        have o2 := newman h hcl m l2 (by omega) _ _ ⟨r2, ef⟩ ⟨d2.trans ed.1, ed.2⟩
        rw [o1, o2]
theorem len_one {rs : List Ru} {w : Wo} (h : Rs rs) (hw : Lw w) : (endsM rs w).length = 1 ↔ OneEnd rs w := by
  have ne := endsM_ne h hw
  constructor
  · intro hl e f he hf
    obtain ⟨x, hx⟩ := List.length_eq_one_iff.mp hl
    have h1 := (mem_endsM h hw).mpr he
    have h2 := (mem_endsM h hw).mpr hf
    rw [hx, List.mem_singleton] at h1 h2
    rw [h1, h2]
  · intro o
    have nd := endsM_nodup rs w
    have key : ∀ x ∈ endsM rs w, x = endM rs w := fun x hx => o _ _ ((mem_endsM h hw).mp hx) (endM_isEnd h hw)
    have sub := len_of_subset (ys := [endM rs w]) nd fun x hx => by rw [key x hx]; exact List.mem_singleton.mpr rfl
    have := List.length_pos_iff.mpr ne
    simp at sub
    omega
/-- the rules are sure -/
def SureM (rs : List Ru) : Prop := ∀ w, Lw w → OneEnd rs w
theorem doubt_none {rs : List Ru} (h : R6 rs) : (clashesM rs).find? (fun c => decide (1 < (endsM rs c).length)) = none ↔ SureM rs := by
  rw [List.find?_eq_none]
  constructor
  · intro q w hw
    refine newman h.ok (fun c hc a b ha hb => ?_) (rankW w + 1) hw (Nat.lt_succ_self _)
    have lc := (clash_ok h hc).1
    refine OneEnd.meet h.ok lc ((len_one h.ok lc).mp ?_) ha hb
    have := List.length_pos_iff.mpr (endsM_ne h.ok lc)
    have r := q c hc
    simp at r
    omega
  · intro q c hc
    have lc := (clash_ok h hc).1
    have := (len_one h.ok lc).mpr (q c lc)
    simp
    omega
noncomputable def doubtM (rs : List Ru) : Option Wo := (clashesM rs).find? fun c => decide (1 < (endsM rs c).length)
end Wm

set_option Elab.async false
set_option linter.all false
set_option maxRecDepth 100000
set_option maxHeartbeats 4000000
/-! WmV: roads, in plain Lean. -/
namespace Wm
open PySem PySem.Spec PyProof.Rows L2
theorem atI_last {α : Type} (xs : List α) (x : α) : L2.atI (xs ++ [x]) (-1) = some x := by
  unfold L2.atI
  have e : ixN (xs ++ [x]).length (-1) = some xs.length := by
    unfold ixN
    rw [List.length_append, List.length_singleton]
    simp only [show ¬ (0 : Int) ≤ -1 by decide, if_false]
    rw [if_pos (by omega)]
    congr 1
    omega
  rw [e]
  simp
theorem cutA_init {α : Type} (xs : List α) : cutA xs none (some (-1)) = xs.dropLast := by
  unfold cutA
  rw [HT.sIx_none]
  show (xs.drop 0).take ((if (-1 : Int) < 0 then ((-1 : Int) + (xs.length : Int)).toNat else min (-1 : Int).toNat xs.length) - 0) = _
  rw [if_pos (by decide), List.drop_zero, List.dropLast_eq_take]
  congr 1
  omega
theorem cutA_tail {α : Type} (xs : List α) : cutA xs (some 1) none = xs.tail := by
  have := cutA_n0 xs 1
  rw [List.drop_one] at this
  exact this
/-! the way down -/
def downM (rs : List Ru) (w : Wo) : List Wo := match placesM rs w with
  | [] => [w]
  | q :: _ => if h : rankW (changedM rs w q.1 q.2) < rankW w then w :: downM rs (changedM rs w q.1 q.2) else [w]
termination_by rankW w
theorem downM_nil {rs : List Ru} {w : Wo} (h : placesM rs w = []) : downM rs w = [w] := by
  rw [downM]; rw [h]
theorem downM_cons {rs : List Ru} {w : Wo} {q : Nat × Nat} {l : List (Nat × Nat)} (hr : Rs rs) (hw : Lw w) (h : placesM rs w = q :: l) : downM rs w = w :: downM rs (changedM rs w q.1 q.2) := by
  have hq : changedM rs w q.1 q.2 ∈ nextsM rs w := mem_nexts.mpr ⟨q, by rw [h]; exact List.mem_cons_self, rfl⟩
  have hlt := next_rank hr hw hq
  conv => lhs; rw [downM]
  rw [h]
  exact dif_pos hlt
def Adj (rs : List Ru) (x y : Wo) : Prop := y ∈ nextsM rs x ∨ x ∈ nextsM rs y
def Ch (rs : List Ru) : List Wo → Prop
  | [] => True
  | [_] => True
  | x :: y :: l => Adj rs x y ∧ Ch rs (y :: l)
theorem Adj.symm {rs : List Ru} {x y : Wo} (h : Adj rs x y) : Adj rs y x := Or.symm h
theorem Ch.glue {rs : List Ru} : ∀ {xs : List Wo} {m : Wo} {ys : List Wo}, Ch rs (xs ++ [m]) → Ch rs (m :: ys) → Ch rs (xs ++ m :: ys)
  | [], _, _, _, h => h
  | [x], m, ys, h, g => ⟨h.1, g⟩
  | x :: y :: l, m, ys, h, g => ⟨h.1, Ch.glue (xs := y :: l) h.2 g⟩
theorem Ch.rev {rs : List Ru} : ∀ {xs : List Wo}, Ch rs xs → Ch rs xs.reverse
  | [], _ => trivial
  | [_], _ => trivial
  | x :: y :: l, h => by
    have ih := Ch.rev h.2
    rw [List.reverse_cons] at ih ⊢
    rw [List.reverse_cons, List.append_assoc]
    exact Ch.glue ih ⟨h.1.symm, trivial⟩
theorem Ch.pairs {rs : List Ru} : ∀ {xs : List Wo}, Ch rs xs → ∀ q ∈ xs.dropLast.zip xs.tail, Adj rs q.1 q.2
  | [], _, q, hq => by simp at hq
  | [_], _, q, hq => by simp at hq
  | x :: y :: l, h, q, hq => by
    have e : (x :: y :: l).dropLast.zip (x :: y :: l).tail = (x, y) :: (y :: l).dropLast.zip (y :: l).tail := by
      simp [List.dropLast]
    rw [e] at hq
    rcases List.mem_cons.mp hq with rfl | hq
    · exact h.1
    · exact Ch.pairs h.2 q hq
/-- what the way down is -/
structure Dn (rs : List Ru) (w : Wo) (xs : List Wo) : Prop where
  ex : ∃ ys zs, xs = w :: ys ∧ xs = zs ++ [endM rs w]
  ch : Ch rs xs
  ok : ∀ x ∈ xs, Lw x ∧ x.length ≤ w.length
  few : xs.length ≤ rankW w + 1
theorem downM_ok {rs : List Ru} (hr : Rs rs) : ∀ (n : Nat) {w : Wo}, Lw w → rankW w < n → Dn rs w (downM rs w)
  | 0, _, _, h => absurd h (Nat.not_lt_zero _)
  | n + 1, w, hw, h => by
    cases e : placesM rs w with
    | nil =>
      rw [downM_nil e]
      exact ⟨⟨[], [], rfl, by rw [endM_nil e]; rfl⟩, trivial, fun x hx => by rw [List.mem_singleton.mp hx]; exact ⟨hw, Nat.le_refl _⟩, by simp⟩
    | cons q l =>
      have hq : changedM rs w q.1 q.2 ∈ nextsM rs w := mem_nexts.mpr ⟨q, by rw [e]; exact List.mem_cons_self, rfl⟩
      have hlt := next_rank hr hw hq
      have ih := downM_ok hr n (w := changedM rs w q.1 q.2) (next_lw hr hw hq) (by omega)
      rw [downM_cons hr hw e]
      obtain ⟨⟨ys, zs, h1, h2⟩, h3, h4, h5⟩ := ih
      refine ⟨⟨_, w :: zs, rfl, by rw [endM_cons hr hw e, h2]; rfl⟩, ?_, fun x hx => ?_, ?_⟩
      · rw [h1] at h3 ⊢
        exact ⟨.inl hq, h3⟩
      · rcases List.mem_cons.mp hx with rfl | hx
        · exact ⟨hw, Nat.le_refl _⟩
        · exact ⟨(h4 x hx).1, Nat.le_trans (h4 x hx).2 (next_len hr hq)⟩
      · rw [List.length_cons]; omega
theorem downM_dn {rs : List Ru} {w : Wo} (hr : Rs rs) (hw : Lw w) : Dn rs w (downM rs w) := downM_ok hr (rankW w + 1) hw (Nat.lt_succ_self _)
theorem rank_small {w : Wo} (hw : Lw w) (h : w.length ≤ 10) : rankW w < 1048576 := by
  have h1 := rank_lt hw
  have h2 : 4 ^ w.length ≤ 4 ^ 10 := Nat.pow_le_pow_right (by decide) h
  have h3 : (4 : Nat) ^ 10 = 1048576 := by decide
  omega
def roadM (rs : List Ru) (a b : Wo) : List Wo := downM rs a ++ (downM rs b).dropLast.reverse
theorem road_ok {rs : List Ru} {a b : Wo} (hr : Rs rs) (ha : Lw a) (hb : Lw b) (he : endM rs a = endM rs b) : (∃ ys, roadM rs a b = a :: ys) ∧ (∃ zs, roadM rs a b = zs ++ [b]) ∧ Ch rs (roadM rs a b) ∧ (∀ x ∈ roadM rs a b, Lw x ∧ (x.length ≤ a.length ∨ x.length ≤ b.length)) := by
  obtain ⟨⟨ys, zs, h1, h2⟩, h3, h4, _⟩ := downM_dn hr ha
  obtain ⟨⟨ys', zs', g1, g2⟩, g3, g4, _⟩ := downM_dn hr hb
  have e1 : (downM rs b).dropLast = zs' := by rw [g2, List.dropLast_concat]
  have e2 : roadM rs a b = zs ++ endM rs a :: zs'.reverse := by
    unfold roadM
    rw [e1, h2, List.append_assoc]; rfl
  have e3 : (downM rs b).reverse = endM rs a :: zs'.reverse := by rw [g2, List.reverse_append, he]; rfl
  refine ⟨⟨ys ++ (downM rs b).dropLast.reverse, by unfold roadM; rw [h1]; rfl⟩, ?_, ?_, ?_⟩
  · have : (downM rs b).reverse = ys'.reverse ++ [b] := by rw [g1, List.reverse_cons]
    rw [e3] at this
    exact ⟨zs ++ ys'.reverse, by rw [e2, this, List.append_assoc]⟩
  · rw [e2]
    have c2 := g3.rev
    rw [e3] at c2
    rw [h2] at h3
    exact Ch.glue h3 c2
  · intro x hx
    unfold roadM at hx
    rcases List.mem_append.mp hx with hx | hx
    · exact ⟨(h4 x hx).1, .inl (h4 x hx).2⟩
    · have := List.dropLast_subset _ (List.mem_reverse.mp hx)
      exact ⟨(g4 x this).1, .inr (g4 x this).2⟩
/-! steps back -/
def backP (r : Ru) (w : Wo) (ps : List Nat) : List Wo := (ps.filter fun p => standsAt r.2 w p).map fun p => w.take p ++ r.1 ++ w.drop (p + r.2.length)
def backM (rs : List Ru) (w : Wo) : List Wo := rs.flatMap fun r => backP r w (List.range (w.length + 1))
theorem back_next {rs : List Ru} {w v : Wo} (hr : Rs rs) (hv : v ∈ backM rs w) : w ∈ nextsM rs v := by
  unfold backM at hv
  obtain ⟨r, hrm, hv⟩ := List.mem_flatMap.mp hv
  obtain ⟨p, hp, rfl⟩ := List.mem_map.mp hv
  have hs := (List.mem_filter.mp hp).2
  obtain ⟨k, hk⟩ := List.getElem?_of_mem hrm
  exact (next_iff hr).mpr ⟨k, r, w.take p, w.drop (p + r.2.length), hk, rfl, stands_split hs⟩
theorem back_lw {rs : List Ru} {w v : Wo} (hr : Rs rs) (hw : Lw w) (hv : v ∈ backM rs w) : Lw v := by
  unfold backM at hv
  obtain ⟨r, hrm, hv⟩ := List.mem_flatMap.mp hv
  obtain ⟨p, hp, rfl⟩ := List.mem_map.mp hv
  exact ((hw.take _).app (hr.all r hrm).lw1).app (hw.drop _)
def pickM (ws : List Wo) (here : Wo) (i : Int) : Wo := if ws = [] then here else ws.getD (i % ws.length).toNat []
def stepW (rs : List Ru) (n : Int) (here : Wo) (k : Nat) : Wo := pickM (if drawnM n k % 2 = 1 then (backM rs here).filter (fun v => decide ((v.length : Int) < 7)) else nextsM rs here) here (drawnM n k / 2)
def walkedM (rs : List Ru) (w : Wo) (ks : List Nat) (n : Int) : Wo := ks.foldl (stepW rs n) w
theorem pick_mem {ws : List Wo} {here : Wo} {i : Int} : pickM ws here i = here ∨ pickM ws here i ∈ ws := by
  unfold pickM
  by_cases h : ws = []
  · rw [if_pos h]; exact .inl rfl
  · rw [if_neg h]
    right
    have hl : 0 < ws.length := List.length_pos_iff.mpr h
    have h1 := Int.emod_nonneg i (show (ws.length : Int) ≠ 0 by omega)
    have h2 := Int.emod_lt_of_pos i (show (0 : Int) < ws.length by omega)
    have : (i % ws.length).toNat < ws.length := by omega
    rw [List.getD_eq_getElem?_getD, List.getElem?_eq_getElem this]
    exact List.getElem_mem this
/-- one end in common -/
theorem next_end {rs : List Ru} {a b : Wo} (hr : Rs rs) (hs : SureM rs) (ha : Lw a) (h : b ∈ nextsM rs a) : endM rs a = endM rs b := by
  have eb := endM_isEnd hr (next_lw hr ha h)
  exact hs a ha _ _ (endM_isEnd hr ha) ⟨.step h eb.1, eb.2⟩
theorem step_ok {rs : List Ru} {n : Int} {here : Wo} {k : Nat} (hr : Rs rs) (hw : Lw here) (hl : here.length ≤ 6) : Lw (stepW rs n here k) ∧ (stepW rs n here k).length ≤ 6 ∧ (SureM rs → endM rs (stepW rs n here k) = endM rs here) := by
  unfold stepW
  split
  · rcases pick_mem (ws := (backM rs here).filter (fun v => decide ((v.length : Int) < 7))) (here := here) (i := drawnM n k / 2) with e | e
    · rw [e]; exact ⟨hw, hl, fun _ => rfl⟩
    · obtain ⟨h1, h2⟩ := List.mem_filter.mp e
      have l := back_lw hr hw h1
      exact ⟨l, by have := of_decide_eq_true h2; omega, fun s => next_end hr s l (back_next hr h1)⟩
  · rcases pick_mem (ws := nextsM rs here) (here := here) (i := drawnM n k / 2) with e | e
    · rw [e]; exact ⟨hw, hl, fun _ => rfl⟩
    · exact ⟨next_lw hr hw e, Nat.le_trans (next_len hr e) hl, fun s => (next_end hr s hw e).symm⟩
theorem walked_ok {rs : List Ru} {n : Int} (hr : Rs rs) : ∀ (ks : List Nat) {w : Wo}, Lw w → w.length ≤ 6 → Lw (walkedM rs w ks n) ∧ (walkedM rs w ks n).length ≤ 6 ∧ (SureM rs → endM rs (walkedM rs w ks n) = endM rs w)
  | [], w, hw, hl => ⟨hw, hl, fun _ => rfl⟩
  | k :: ks, w, hw, hl => by
    obtain ⟨a, b, c⟩ := step_ok (n := n) (k := k) hr hw hl
    obtain ⟨a', b', c'⟩ := walked_ok hr ks a b
    exact ⟨a', b', fun s => (c' s).trans (c s)⟩
theorem walked_snoc (rs : List Ru) (w : Wo) (ks : List Nat) (k : Nat) (n : Int) : walkedM rs w (ks ++ [k]) n = stepW rs n (walkedM rs w ks n) k := by
  unfold walkedM
  rw [List.foldl_append]; rfl
theorem backP_len (r : Ru) (w : Wo) (ps : List Nat) : (backP r w ps).length ≤ ps.length := by
  unfold backP
  rw [List.length_map]; exact List.length_filter_le _ _
end Wm

set_option Elab.async false
set_option linter.all false
set_option maxRecDepth 100000
set_option maxHeartbeats 4000000
/-! WmY: the same rules in another order; lean rules. -/
namespace Wm
open PySem PySem.Spec PyProof.Rows L2
/-- the same rules, whatever their order -/
def SameR (rs os : List Ru) : Prop := ∀ r, r ∈ rs ↔ r ∈ os
theorem SameR.symm {rs os : List Ru} (h : SameR rs os) : SameR os rs := fun r => (h r).symm
theorem next_mem {rs : List Ru} {w v : Wo} (h : Rs rs) : v ∈ nextsM rs w ↔ ∃ r ∈ rs, ∃ u z, w = u ++ r.1 ++ z ∧ v = u ++ r.2 ++ z := by
  rw [next_iff h]
  constructor
  · rintro ⟨k, r, u, z, hr, h1, h2⟩
    exact ⟨r, List.mem_of_getElem? hr, u, z, h1, h2⟩
  · rintro ⟨r, hr, u, z, h1, h2⟩
    obtain ⟨k, hk⟩ := List.getElem?_of_mem hr
    exact ⟨k, r, u, z, hk, h1, h2⟩
theorem SameR.nexts {rs os : List Ru} (s : SameR rs os) (h : Rs rs) (g : Rs os) (w : Wo) : nextsM rs w = nextsM os w := by
  have key : ∀ v, v ∈ nextsM rs w ↔ v ∈ nextsM os w := fun v => by
    rw [next_mem h, next_mem g]
    constructor
    · rintro ⟨r, hr, q⟩; exact ⟨r, (s r).mp hr, q⟩
    · rintro ⟨r, hr, q⟩; exact ⟨r, (s r).mpr hr, q⟩
  unfold nextsM at key ⊢
  refine setW_ext fun v => ?_
  have := key v
  rw [mem_setW, mem_setW] at this
  exact this
theorem SameR.reach {rs os : List Ru} (s : SameR rs os) (h : Rs rs) (g : Rs os) {u v : Wo} (r : Reach rs u v) : Reach os u v := by
  induction r with
  | refl => exact .refl _
  | step q _ ih => exact .step (by rw [← s.nexts h g]; exact q) ih
theorem SameR.isEnd {rs os : List Ru} (s : SameR rs os) (h : Rs rs) (g : Rs os) (w v : Wo) : isEnd rs w v ↔ isEnd os w v := by
  unfold Wm.isEnd
  rw [s.nexts h g]
  exact ⟨fun q => ⟨s.reach h g q.1, q.2⟩, fun q => ⟨s.symm.reach g h q.1, q.2⟩⟩
theorem SameR.ends {rs os : List Ru} (s : SameR rs os) (h : Rs rs) (g : Rs os) {w : Wo} (hw : Lw w) : endsM rs w = endsM os w := by
  have n1 := endsM_nodup rs w
  rw [← endsM_of g hw n1 (fun v => by rw [mem_endsM h hw, s.isEnd h g])]
  refine (endsM_of h hw n1 fun v => mem_endsM h hw).symm
theorem SameR.sure {rs os : List Ru} (s : SameR rs os) (h : Rs rs) (g : Rs os) : SureM rs ↔ SureM os := by
  constructor
  · intro q w hw e f he hf
    exact q w hw e f ((s.isEnd h g w e).mpr he) ((s.isEnd h g w f).mpr hf)
  · intro q w hw e f he hf
    exact q w hw e f ((s.isEnd h g w e).mp he) ((s.isEnd h g w f).mp hf)
theorem SameR.doubt {rs os : List Ru} (s : SameR rs os) (h : R6 rs) (g : R6 os) : (doubtM rs).isNone = (doubtM os).isNone := by
  rw [Bool.eq_iff_iff, Option.isNone_iff_eq_none, Option.isNone_iff_eq_none]
  exact (doubt_none h).trans ((s.sure h.ok g.ok).trans (doubt_none g).symm)
/-! the same rule at two places -/
theorem two_of_count {r : Ru} : ∀ {xs : List Ru}, 2 ≤ xs.count r → ∃ i j : Nat, i ≠ j ∧ xs[i]? = some r ∧ xs[j]? = some r
  | [], h => by simp at h
  | x :: xs, h => by
    by_cases e : x = r
    · subst e
      rw [List.count_cons_self] at h
      have hm : x ∈ xs := List.count_pos_iff.mp (by omega)
      obtain ⟨j, hj⟩ := List.getElem?_of_mem hm
      exact ⟨0, j + 1, by omega, by simp, by simpa using hj⟩
    · rw [List.count_cons_of_ne e] at h
      obtain ⟨i, j, h1, h2, h3⟩ := two_of_count h
      exact ⟨i + 1, j + 1, by omega, by simpa using h2, by simpa using h3⟩
theorem count_of_two {r : Ru} : ∀ {xs : List Ru} {i j : Nat}, i < j → xs[i]? = some r → xs[j]? = some r → 2 ≤ xs.count r
  | [], i, j, _, h, _ => by simp at h
  | x :: xs, i, 0, h, _, _ => absurd h (Nat.not_lt_zero _)
  | x :: xs, 0, j + 1, _, h1, h2 => by
    have e : x = r := by simpa using h1
    subst e
    rw [List.count_cons_self]
    have : x ∈ xs := List.mem_of_getElem? (i := j) (by simpa using h2)
    have := List.count_pos_iff.mpr this
    omega
  | x :: xs, i + 1, j + 1, h, h1, h2 => by
    have ih := count_of_two (xs := xs) (i := i) (j := j) (by omega) (by simpa using h1) (by simpa using h2)
    exact Nat.le_trans ih List.count_le_count_cons
theorem SameR.clash {rs os : List Ru} (s : SameR rs os) (hc : ∀ r, rs.count r ≤ os.count r) {c : Wo} (h : c ∈ clashesM rs) : c ∈ clashesM os := by
  obtain ⟨k, n, r, t, p, h1, h2, h3, h4, h5, rfl⟩ := mem_clashes.mp h
  by_cases e : r = t
  · subst e
    rcases Nat.eq_zero_or_pos p with q | q
    · have kn : k ≠ n := h5.resolve_right (by omega)
      have two : 2 ≤ rs.count r := by
        rcases Nat.lt_or_gt_of_ne kn with z | z
        · exact count_of_two z h1 h2
        · exact count_of_two z h2 h1
      obtain ⟨i, j, g1, g2, g3⟩ := two_of_count (Nat.le_trans two (hc r))
      exact mem_clashes.mpr ⟨i, j, r, r, p, g2, g3, h3, h4, .inl g1, rfl⟩
    · obtain ⟨i, hi⟩ := List.getElem?_of_mem ((s r).mp (List.mem_of_getElem? h1))
      exact mem_clashes.mpr ⟨i, i, r, r, p, hi, hi, h3, h4, .inr q, rfl⟩
  · obtain ⟨i, hi⟩ := List.getElem?_of_mem ((s r).mp (List.mem_of_getElem? h1))
    obtain ⟨j, hj⟩ := List.getElem?_of_mem ((s t).mp (List.mem_of_getElem? h2))
    refine mem_clashes.mpr ⟨i, j, r, t, p, hi, hj, h3, h4, .inl fun z => ?_, rfl⟩
    subst z
    rw [hi] at hj
    exact e (Option.some.inj hj)
/-! lean -/
def leftsM (rs : List Ru) : List Wo := setW (rs.map (·.1))
def inM (l o : Wo) : Bool := (!decide (o = l)) && decide ((0 : Int) ≤ findM l o)
def keepM (ls : List Wo) (l : Wo) : Bool := !((ls.map (inM l)).any fun b => b)
def leanM (rs : List Ru) : List Ru := ((leftsM rs).filter (keepM (leftsM rs))).map fun l => (l, endM rs l)
theorem SameR.lefts {rs os : List Ru} (s : SameR rs os) : leftsM rs = leftsM os := setW_ext fun l => by
  rw [List.mem_map, List.mem_map]
  constructor
  · rintro ⟨r, hr, q⟩; exact ⟨r, (s r).mp hr, q⟩
  · rintro ⟨r, hr, q⟩; exact ⟨r, (s r).mpr hr, q⟩
theorem lefts_lw {rs : List Ru} (h : R6 rs) {l : Wo} (hl : l ∈ leftsM rs) : Lw l ∧ l.length ≤ 6 ∧ 1 ≤ l.length := by
  unfold leftsM at hl
  rw [mem_setW] at hl
  obtain ⟨r, hr, rfl⟩ := List.mem_map.mp hl
  exact ⟨(h.ok.all r hr).lw1, h.six r hr, (h.ok.all r hr).pos⟩
theorem lefts_len {rs : List Ru} (h : R6 rs) : (leftsM rs).length ≤ 20 := Nat.le_trans (setW_len _) (by rw [List.length_map]; exact h.ok.few)
theorem SameR.lean {rs os : List Ru} (s : SameR rs os) (h : R6 rs) (g : R6 os) (hs : SureM rs) : leanM rs = leanM os := by
  unfold leanM
  rw [s.lefts]
  refine List.map_congr_left fun l hl => ?_
  have hl' := (List.mem_filter.mp hl).1
  have lw := (lefts_lw g hl').1
  have e1 := endM_isEnd h.ok lw
  have e2 := (s.isEnd h.ok g.ok l _).mpr (endM_isEnd g.ok lw)
  rw [hs l lw _ _ e1 e2]
end Wm

set_option Elab.async false
set_option linter.all false
set_option maxRecDepth 100000
set_option maxHeartbeats 4000000
/-! WmI: a module's constants, a < b < c as a value, tuple * int, upper. -/
namespace Wm
open PySem PySem.Spec PyProof.Rows L2
section
variable {X : Cx} {ds : List Sl} {a b c : Expr} {x y z : D} {xs : List D} {pos p : Pos} {n : Str}
theorem E.globI {i : Int} {t : Tok} (hm : X.mg n = some (.int i t)) (hg : Gl X n := by rfl) (hd : (n == ("__debug__" : Str)) = false := by decide) : E X ds (.Name n pos) (.int i) :=
  E.of (pe_glob (v := .int i) hg hm ⟨t, rfl⟩ hd) fun He H0e H0 σ H I Q q => q _ H0 H I (Same.refl _) (dat_int.mpr rfl)
theorem E.globS {s : Str} {t : Tok} (hm : X.mg n = some (.str s t)) (hg : Gl X n := by rfl) (hd : (n == ("__debug__" : Str)) = false := by decide) : E X ds (.Name n pos) (.str (cs s)) :=
  E.of (pe_glob (v := .str s) hg hm ⟨t, rfl⟩ hd) fun He H0e H0 σ H I Q q => q _ H0 H I (Same.refl _) (dat_str.mpr (by rw [show sx (cs s) = s from sx_of s]))
/-- a < b < c, as a value -/
theorem E.chain {op op' : CmpOp} {k l : Bool} (ha : E X ds a x) (hb : E X ds b y) (hc : E X ds c z) (ho : Op2 X (compareOp op) x y (.bl k)) (ho' : Op2 X (compareOp op') y z (.bl l)) (hm : lastMarks [op, op'] [b, c] = false := by with_unfolding_all rfl) : E X ds (.Compare a [op, op'] [b, c] pos) (.bl (k && l)) := by
  obtain ⟨r, h1, h2⟩ := ho
  obtain ⟨r', h1', h2'⟩ := ho'
  refine E.of (pe_chain h1 h1' pe_W pe_W pe_W hm) fun He H0e H0 σ H I Q q => ha He H0e H0 σ H I _ fun v H1 H' I1 e1 d1 => hb He H0e H1 σ H' I1 _ fun u H2 H'' I2 e2 d2 =>
    h2 He H0e H2 ds σ H'' I2 v u (Dat.mono e2 x d1) d2 _ fun w H3 H3' I3 e3 d3 => ⟨k, dat_bl.mp d3, ?_⟩
  cases k with
  | false => exact iteF (q _ H3 H3' I3 ((e1.trans e2).trans e3) (dat_bl.mpr rfl))
  | true => exact iteT (hc He H0e H3 σ H3' I3 _ fun t H4 H4' I4 e4 d4 => h2' He H0e H4 ds σ H4' I4 u t (Dat.mono (e3.trans e4) y d2) d4 _ fun w H5 H5' I5 e5 d5 => q w H5 H5' I5 ((((e1.trans e2).trans e3).trans e4).trans e5) d5)
theorem Dats.rep {K : PySem.W.Frag} {H : Hp} {ds : List D} {vs : List V} (h : Dats K H ds vs) : ∀ k : Nat, Dats K H (List.replicate k ds).flatten (List.replicate k vs).flatten
  | 0 => Dats.nil
  | k + 1 => by
    rw [List.replicate_succ, List.replicate_succ, List.flatten_cons, List.flatten_cons]
    exact h.app (Dats.rep h k)
/-- tuple * int -/
theorem E.repT {k : Int} (ha : E X ds a (.tup xs)) (hb : E X ds b (.int k)) (hne : xs ≠ []) (h2 : 2 ≤ k) (h3 : k ≤ 1000) (hl : xs.length ≤ 1000) : E X ds (.BinOp a .Mult b pos) (.tup (List.replicate k.toNat xs).flatten) :=
  E.of (pe_op op_repT pe_W pe_W) fun He H0e H0 σ H I Q q => ha He H0e H0 σ H I _ fun v H1 H' I1 e1 d1 => hb He H0e H1 σ H' I1 _ fun u H2 H'' I2 e2 d2 => by
    obtain ⟨p, vs, rfl, g1, g2⟩ := dat_tup.mp (Dat.mono e2 _ d1)
    rw [dat_int] at d2
    refine ⟨p, k, vs, rfl, d2, Same.sqt I2.ex g1, fun e => hne ?_, h2, h3, by rw [← g2.len]; exact hl, fun r hr => q _ (upd H2 r (.tup _)) _ (I2.new hr) ((e1.trans e2).trans (Same.new (I2.h0none hr))) (dat_tup.mpr ⟨r, _, rfl, SqT.of upd_same, Dats.mono (Same.new (I2.h0none hr)) _ (g2.rep k.toNat)⟩)⟩
    have := g2.len
    rw [e] at this
    exact List.length_eq_zero_iff.mp this
/-- text.upper() -/
theorem E.upper {w : List Nat} {apos : Pos} (ha : E X ds a (.str w)) (hl : w.length ≤ 5592405) (hbase : attributeBase a "upper" X.env (eval a X.env) = eval a X.env := by rfl) (hline : (apos.endLine == pos.line) = true := by rfl) :
    E X ds (.Call (.Attribute a "upper" apos) [] [] pos) (.str (Txt.upper (sx w)).cps.toList) :=
  E.of (pe_upper pe_W hbase hline) fun He H0e H0 σ H I Q q => ha He H0e H0 σ H I _ fun v H1 H' I1 e1 d1 => by
    rw [dat_str] at d1
    refine ⟨⟨_, d1⟩, sx w, d1, rfl, by rw [sx_len]; exact hl, q _ H1 H' I1 e1 (dat_str.mpr (by rw [sx_of]))⟩
end
/-! text[::-1] -/
def tRevS (te : TE) : TE := fun σ H Q => te σ H fun x H1 => ∃ w : List Nat, x = .str (sx w) ∧ w.length ≤ 16777216 ∧ Q (.str (sx w.reverse)) H1
section
variable {X : Cx}
theorem rev_made (w : List Nat) : (⟨((Builtin.Str.strSliceIndices none none (-1) (sx w).length).filterMap ((sx w).cps[·]?)).toArray⟩ : Str) = sx w.reverse := by
  rw [PyProof.Rows.picked_rev, PySem.W.krv_range, List.filterMap_reverse, sx_len]
  have e : (List.range w.length).filterMap ((sx w).cps[·]?) = w := by
    have := PySem.W.krv_all (sx w).cps
    have sz : (sx w).cps.size = w.length := by simp [sx]
    rw [sz] at this
    rw [this, sx_list]
  rw [e]
  rfl
theorem pe_revS {e : Expr} {te : TE} {k : Nat} {p1 p2 p3 pos : Pos} (he : PE X e te) : PE X (.Subscript e (.Slice none none (some (.UnaryOp .USub (.Constant (.int 1) k p1) p2)) p3) pos) (tRevS te) := by
  refine ⟨fun pins s σ H Q I h => ?_⟩
  refine Subscript_ (thn (he.run pins s σ H _ I h) fun v s1 ⟨x, H1, I1, r1, q1⟩ => ?_)
  obtain ⟨w, ex, hz, q⟩ := q1
  subst ex
  obtain ⟨t, rfl⟩ := r1
  have hst : PO X (some (.UnaryOp .USub (.Constant (.int 1) k p1) p2)) (tPart (tUn (rU fun i => .int (-i)) (tC (.int 1)))) := po_some (pe_un un_neg pe_int)
  refine wpAny_Slice (thn (po_none.run pins s1 σ H1 (fun o H2 => o = none ∧ H2 = H1) I1 ⟨rfl, rfl⟩) fun vl s2 ⟨l, H2, I2, pl, el, e2⟩ => ?_)
  subst el e2
  refine thn (po_none.run pins s2 σ H2 (fun o H3 => o = none ∧ H3 = H2) I2 ⟨rfl, rfl⟩) fun vu s3 ⟨u, H3, I3, pu, eu, e3⟩ => ?_
  subst eu e3
  refine thn (hst.run pins s3 σ H3 (fun o H4 => o = some (-1) ∧ H4 = H3) I3 ⟨1, rfl, -1, rfl, rfl, rfl⟩) fun vs s4 ⟨o, H4, I4, ps, eo, e4⟩ => ?_
  subst eo e4
  have I5 : Inv X pins σ H4 { s4 with heap := s4.heap.push { cls := .type "slice", data := .fields #[vl, vu, vs] } } := I4.kept (t' := s4.toks) fun b ob q => Heap.get?_push_of_some _ q
  show wpAny (model X.prog X.w) X.A (subscriptTail e (.Slice none none (some (.UnaryOp .USub (.Constant (.int 1) k p1) p2)) p3) (.str (sx w) t) (.ref s4.heap.objs.size)) (EP X pins σ Q) X.xe { s4 with heap := s4.heap.push { cls := .type "slice", data := .fields #[vl, vu, vs] } }
  refine tail_any (ops := [.ref s4.heap.objs.size, .str (sx w) t]) (typeIs_str _ _ _) PySem.F.slot_str_getitem.lookup ?_ (by with_unfolding_all rfl)
  obtain ⟨os, hos, hcs, hds⟩ := Heap.IsSliceOf.new s4.heap vl vu vs
  obtain ⟨l', rfl, hl'⟩ := IsPart.raw pl
  obtain ⟨u', rfl, hu'⟩ := IsPart.raw pu
  obtain ⟨st, rfl, hst'⟩ := IsPart.raw ps
  have el : l' = none := by cases l' with | none => rfl | some _ => cases hl'
  have eu : u' = none := by cases u' with | none => rfl | some _ => cases hu'
  subst el eu
  refine wpAny_getItem_str_slice (l := none) (u := none) (st := st) ⟨os, hos, hcs, hds⟩ (by rw [hst']; rfl) ?_
  have made : PySem.sliceMade (sx w) t none none st = .str (sx w.reverse) := by
    unfold PySem.sliceMade PySem.slicePicked
    rw [hst']
    show (if ((-1 : Int) == 1 && _) = true then _ else Made.str ⟨((Builtin.Str.strSliceIndices none none (-1) (sx w).length).filterMap ((sx w).cps[·]?)).toArray⟩) = _
    rw [rev_made]
    rfl
  rw [made]
  exact ⟨by rw [sx_len, List.length_reverse, sizeLine_eq]; exact hz, .str (sx w.reverse), H4, I5.tok _, ⟨_, rfl⟩, q⟩
theorem E.revS {ds : List Sl} {a : Expr} {w : List Nat} {k : Nat} {p1 p2 p3 pos : Pos} (ha : E X ds a (.str w)) (hl : w.length ≤ 16777216) : E X ds (.Subscript a (.Slice none none (some (.UnaryOp .USub (.Constant (.int 1) k p1) p2)) p3) pos) (.str w.reverse) :=
  E.of (pe_revS pe_W) fun He H0e H0 σ H I Q q => ha He H0e H0 σ H I _ fun v H1 H' I1 e1 d1 => ⟨w, dat_str.mp d1, hl, q _ H1 H' I1 e1 (dat_str.mpr rfl)⟩
end
/-! tuple[::-1] -/
section
open PySem.SeqAt PySem.MeetsSeq PySem.MeetsSeq2 PySem.MeetsSeq3
variable {prog : Program} {w : World} {A : Around} {E1 : Value → Shared → Prop} {s : Shared}
theorem rev_places (n : Nat) : Builtin.Slice.slicePlaces ((n : Int) - 1) (-1) (-1) = n := by
  unfold Builtin.Slice.slicePlaces
  have h1 : ¬ ((-1 : Int) > 0) := by decide
  have h2 : (- -1 : Int) = 1 := by decide
  simp only [h1, if_false, h2, Int.ediv_one]
  split <;> omega
theorem filterMap_same {α β : Type} {f g : α → Option β} : ∀ {l : List α}, (∀ x ∈ l, f x = g x) → l.filterMap f = l.filterMap g
  | [], _ => rfl
  | x :: l, h => by
    rw [List.filterMap_cons, List.filterMap_cons, h x List.mem_cons_self, filterMap_same fun y hy => h y (List.mem_cons_of_mem _ hy)]
theorem rev_pick (xs : Array Value) : ((List.range xs.size).filterMap fun (m : Nat) => xs[((xs.size : Int) - 1 + (m : Int) * -1).toNat]?).toArray = xs.toList.reverse.toArray := by
  have e : ((List.range xs.size).filterMap fun (m : Nat) => xs[((xs.size : Int) - 1 + (m : Int) * -1).toNat]?) = ((List.range xs.size).map fun k => xs.size - 1 - k).filterMap (xs[·]?) := by
    rw [List.filterMap_map]
    refine filterMap_same fun m hm => ?_
    have hm' := List.mem_range.mp hm
    have : ((xs.size : Int) - 1 + (m : Int) * -1).toNat = xs.size - 1 - m := by omega
    rw [this]
    rfl
  rw [e, PySem.W.krv_range, List.filterMap_reverse, PySem.W.krv_all]
theorem getItem_tup_rev {t sl : Addr} {items : Array Value} {vl vu vs : Value} {Q : Value → Shared → Prop} (ht : IsTup s.heap t items) (hs : s.heap.IsSliceOf sl vl vu vs) (pl : IsPart vl none) (pu : IsPart vu none) (ps : IsPart vs (some (-1)))
    (h : Q (.ref s.heap.objs.size) { s with heap := s.heap.push { cls := .type "tuple", data := .seq items.toList.reverse.toArray } }) (hsz : items.size ≤ sizeLine) : wpAny (model prog w) A (getItem (.ref t) (.ref sl)) Q E1 s := by
  have big : sizeOk (.seq items.toList.reverse.toArray) := by
    show items.toList.reverse.toArray.size ≤ sizeLine
    rw [List.size_toArray, List.length_reverse, Array.length_toList]
    exact hsz
  obtain ⟨os, hos, hcs, hds⟩ := id hs
  have isSl : s.TypeIs (.ref sl) "slice" := ⟨os, hos, hcs⟩
  unfold getItem
  try with_reducible refine wpAny_holding ?_
  first | refine wpAny_bind (wpAny_pure ?_) | skip
  refine wpAny_bind (wpAny_sequenceKey ht.typeIs (by decide) ?_)
  refine wpAny_bind (wpAny_callSpecial?_slot (name := Str.ofString "__getitem__") ht.typeIs PyProof.Rows.slot_tuple_getitem (wpAny_call_entry PyProof.Rows.slot_tuple_getitem ht.typeIs entry_tuple_getitem ?_ (args_tuple_getitem _ _)))
  show wpAny _ _ (Builtin.Tuple.tupleItemsOf (.ref t) >>= _) _ _ s
  refine wpAny_bind (tupleItemsOf_ ht (wpAny_bind (wpAny_typeOf isSl ?_)))
  rw [if_pos (by decide)]
  unfold Builtin.Slice.sliceApplied Builtin.Slice.sliceFields
  refine wpAny_bind (wpAny_bind (wpAny_bind (wpAny_field hos hds (x := vl) rfl (wpAny_bind (wpAny_field hos hds (x := vu) rfl (wpAny_bind (wpAny_field hos hds (x := vs) rfl (wpAny_pure ?_))))))))
  refine wpAny_bind (HT.slicePart_ ps ?_)
  show wpAny _ _ (if ((-1 : Int) == 0) = true then _ else _) _ _ s
  rw [if_neg (by decide)]
  refine wpAny_bind (HT.slicePart_ pl (wpAny_bind (HT.slicePart_ pu (wpAny_bind (wpAny_pure ?_)))))
  show wpAny _ _ (pure ((items.size : Int) - 1, (-1 : Int), Builtin.Slice.slicePlaces ((items.size : Int) - 1) (-1) (-1))) _ _ s
  rw [rev_places]
  refine wpAny_pure ?_
  show wpAny _ _ (if (((items.size : Int) - 1 == 0 && (-1 : Int) == 1 && items.size == items.size) = true) then _ else _) _ _ s
  rw [if_neg (by rw [show ((-1 : Int) == 1) = false from rfl, Bool.and_false, Bool.false_and]; decide), rev_pick]
  first
    | exact wpAny_bind (m := Builtin.Tuple.tupleExact _) (wpAny_newObj_type (wpAny_pure ⟨_, rfl, wpAny_pure h⟩) big)
    | exact wpAny_bind (wpAny_bind (m := Builtin.Tuple.tupleExact _) (wpAny_newObj_type (wpAny_pure (wpAny_pure ⟨_, rfl, wpAny_pure h⟩)) big))
    | exact wpAny_bind (wpAny_bind (m := Builtin.Tuple.tupleExact _) (wpAny_newObj_type (wpAny_pure ⟨_, rfl, wpAny_pure h⟩) big))
end
section
variable {X : Cx}
def tRevT (K : PySem.W.Frag) (te : TE) : TE := fun σ H Q => te σ H fun x H1 => ∃ a xs, x = .ref a ∧ SqT K H1 a xs ∧ ∀ p, H1 p = none → Q (.ref p) (upd H1 p (.tup xs.reverse))
theorem pe_revT {e : Expr} {te : TE} {k : Nat} {p1 p2 p3 pos : Pos} (he : PE X e te) : PE X (.Subscript e (.Slice none none (some (.UnaryOp .USub (.Constant (.int 1) k p1) p2)) p3) pos) (tRevT X.K te) := by
  refine ⟨fun pins s σ H Q I h => Subscript_ (thn (he.run pins s σ H _ I h) fun v s1 ⟨x, H1, I1, r1, a, xs, ex, hx, q⟩ => ?_)⟩
  subst ex
  cases r1
  have step : PO X (some (.UnaryOp .USub (.Constant (.int 1) k p1) p2)) (tPart (tUn (rU fun i => .int (-i)) (tC (.int 1)))) := po_some (pe_un un_neg pe_int)
  refine wpAny_Slice (thn (po_none.run pins s1 σ H1 (fun o H2 => o = none ∧ H2 = H1) I1 ⟨rfl, rfl⟩) fun vl s2 ⟨l, H2, I2, pl, el, e2⟩ => thn (po_none.run pins s2 σ H2 (fun o H3 => o = none ∧ H3 = H2) I2 ⟨rfl, rfl⟩) fun vu s3 ⟨u, H3, I3, pu, eu, e3⟩ =>
    thn (step.run pins s3 σ H3 (fun o H4 => o = some (-1) ∧ H4 = H3) I3 ⟨1, rfl, -1, rfl, rfl, rfl⟩) fun vs s4 ⟨o, H4, I4, ps, eo, e4⟩ => ?_)
  subst eo e4 eu e3 el e2
  have I5 : Inv X pins σ H4 { s4 with heap := s4.heap.push { cls := .type "slice", data := .fields #[vl, vu, vs] } } := I4.kept (t' := s4.toks) fun b ob q => Heap.get?_push_of_some _ q
  obtain ⟨its, r, ht, hz⟩ := I5.tuple hx
  have hlen := r.length
  show wpAny (model X.prog X.w) X.A (subscriptTail e (.Slice none none (some (.UnaryOp .USub (.Constant (.int 1) k p1) p2)) p3) (.ref a) (.ref s4.heap.objs.size)) (EP X pins σ Q) X.xe { s4 with heap := s4.heap.push { cls := .type "slice", data := .fields #[vl, vu, vs] } }
  refine tail_any (ops := [.ref a, .ref s4.heap.objs.size]) ht.typeIs PyProof.Rows.slot_tuple_getitem.lookup ?_ (by with_unfolding_all rfl)
  refine getItem_tup_rev ht (Heap.IsSliceOf.new _ vl vu vs) pl pu ps ?_ (by rw [List.size_toArray]; omega)
  refine ⟨.ref _, _, I5.laid (t' := s4.toks) (o := .tup xs.reverse) (fun b ob q => Heap.get?_push_of_some _ q) (Nat.le_refl _) ?_, rfl, q _ (I5.hok.fresh (Nat.le_refl _))⟩
  exact ⟨by rw [List.length_reverse]; exact hz, _, r.reverse, IsTup.new _ _⟩
theorem E.revT {ds : List Sl} {a : Expr} {xs : List D} {k : Nat} {p1 p2 p3 pos : Pos} (ha : E X ds a (.tup xs)) : E X ds (.Subscript a (.Slice none none (some (.UnaryOp .USub (.Constant (.int 1) k p1) p2)) p3) pos) (.tup xs.reverse) :=
  E.of (pe_revT pe_W) fun He H0e H0 σ H I Q q => ha He H0e H0 σ H I _ fun v H1 H' I1 e1 d1 => by
    obtain ⟨c, vs, rfl, g1, g2⟩ := dat_tup.mp d1
    exact ⟨c, vs, rfl, Same.sqt I1.ex g1, fun r hr => q _ (upd H1 r (.tup _)) _ (I1.new hr) (e1.trans (Same.new (I1.h0none hr))) (dat_tup.mpr ⟨r, _, rfl, SqT.of upd_same, Dats.mono (Same.new (I1.h0none hr)) _ g2.rev⟩)⟩
end
end Wm

set_option Elab.async false
set_option linter.all false
set_option maxRecDepth 100000
set_option maxHeartbeats 4000000
/-! WmJ: split, join, a call of a def that may raise and does not, try: f(..) except. -/
namespace Wm
open PySem PySem.Spec PyProof.Rows L2
/-! split and join -/
def spW (w v : List Nat) : List (List Nat) := (Txt.split (sx w) (sx v)).map fun s => s.cps.toList
theorem spW_sx (w v : List Nat) : (spW w v).map sx = Txt.split (sx w) (sx v) := by
  unfold spW
  rw [List.map_map]
  refine (List.map_congr_left fun s _ => ?_).trans (List.map_id' _)
  exact sx_of s
def joinW (v : List Nat) : List (List Nat) → List Nat
  | [] => []
  | [x] => x
  | x :: y :: r => x ++ v ++ joinW v (y :: r)
theorem join_w (v : List Nat) : ∀ ws : List (List Nat), Str.join (sx v) (ws.map sx) = sx (joinW v ws)
  | [] => rfl
  | [x] => rfl
  | x :: y :: r => by
    have ih := join_w v (y :: r)
    rw [List.map_cons] at ih ⊢
    rw [List.map_cons]
    show sx x ++ sx v ++ Str.join (sx v) (sx y :: r.map sx) = _
    rw [ih, sx_app, sx_app]
    rfl
section
variable {X : Cx} {ds : List Sl} {a b e : Expr} {es : List Expr} {d : D} {xs : List D} {pos p apos : Pos} {w v : List Nat} {ws : List (List Nat)}
theorem EL.split (ha : E X ds a (.str w)) (hb : E X ds b (.str v)) (hv : v ≠ []) (hl : w.length + 2 ≤ 16777216) (hs : starEach [b] X.env = [(false, eval b X.env)] := by rfl) (hbase : attributeBase a "split" X.env (eval a X.env) = eval a X.env := by rfl) (hline : (apos.endLine == pos.line) = true := by rfl) :
    EL X ds (.Call (.Attribute a "split" apos) [b] [] pos) ((spW w v).map D.str) :=
  EL.of (pe_split pe_W pe_W hs hbase hline) fun He H0e H0 σ H I Q q => ha He H0e H0 σ H I _ fun v1 H1 H' I1 e1 d1 => ⟨⟨_, dat_str.mp d1⟩, hb He H0e H1 σ H' I1 _ fun v2 H2 H'' I2 e2 d2 => by
    rw [dat_str] at d1 d2
    refine ⟨_, _, d1, by rw [d2], ?_, by rw [sx_len, sizeLine_eq]; exact hl, fun r hr => ?_⟩
    · rw [sx_len]
      cases v with
      | nil => exact absurd rfl hv
      | cons _ _ => rfl
    · have := q r _ H2 H'' I2 (e1.trans e2) hr (Dats.strs.mpr rfl)
      rw [← spW_sx, List.map_map]
      exact this⟩
theorem E.join (ha : E X ds a (.str v)) (hb : E X ds b (.lst (ws.map D.str))) (hl : (ws.map List.length).sum + ws.length * v.length ≤ 16777216) (hs : starEach [b] X.env = [(false, eval b X.env)] := by rfl) (hbase : attributeBase a "join" X.env (eval a X.env) = eval a X.env := by rfl) (hline : (apos.endLine == pos.line) = true := by rfl) :
    E X ds (.Call (.Attribute a "join" apos) [b] [] pos) (.str (joinW v ws)) :=
  E.of (pe_join pe_W pe_W hs hbase hline) fun He H0e H0 σ H I Q q => ha He H0e H0 σ H I _ fun v1 H1 H' I1 e1 d1 => ⟨⟨_, dat_str.mp d1⟩, hb He H0e H1 σ H' I1 _ fun v2 H2 H'' I2 e2 d2 => by
    rw [dat_str] at d1
    obtain ⟨r, us, rfl, g1, g2⟩ := dat_lst.mp d2
    rw [Dats.strs] at g2
    subst g2
    refine ⟨sx v, r, ws.map sx, d1, rfl, .inl ?_, ?_, q _ H2 H'' I2 (e1.trans e2) (dat_str.mpr ?_)⟩
    · rw [List.map_map]
      exact SqL.of (I2.ex _ _ g1)
    · rw [List.map_map, List.length_map, sx_len]

      have e2 : ((fun s : Str => s.length) ∘ sx) = List.length := funext fun u => sx_len u
      rw [show ((fun x : Str => x.length) ∘ sx) = List.length from e2]
      exact hl
    · show V.str (Txt.join _ _) = _
      unfold Txt.join
      rw [StrLaws.glued_eq_join, join_w]⟩
end
/-! a call of a def that may raise, where it does not -/
section
variable {X : Cx} {ds : List Sl} {e : Expr} {es : List Expr} {d : D} {xs : List D} {pos p : Pos} {x : Str} {ps : List Str} {C : Addr} {F : List D → Option D → Prop} {k : Nat}
theorem E.callX (Gd : DefX X.prog X.w X.K X.mg X.base k x ps C F) (hr : Room k X.A) (ha : EA X ds (e :: es) xs) (hF : F xs (some d)) (hl : xs.length = ps.length := by rfl) (hg : Gl X x := by rfl) (hdb : (x == ("__debug__" : Str)) = false := by decide)
    (he : starEach (e :: es) X.env = (false, eval e X.env) :: starEach es X.env := by rfl) (hpl : (backTo pos (starEach es X.env)).any (·.1) = false := by rfl) : E X ds (.Call (.Name x p) (e :: es) [] pos) d := by
  obtain ⟨f, fd, h1, h2, h3, h4⟩ := Gd
  refine E.of (pe_call (E := L2.E0) h1 hr hg h2 h3 h4 .nil (fun _ _ _ _ _ _ _ h => by obtain ⟨a, B, H', cls, d, _, _, _, _, _, _, _, hE⟩ := h; exact hE.elim) pa_WA hdb he hpl) fun He H0e H0 σ H I Q q => ha He H0e H0 σ H I _ fun vs H1 H' I1 e1 d1 => ?_
  refine ⟨H1, xs, some d, I1.ex, by rw [List.append_nil]; exact d1, hl, hF, fun d' hd v H2 H2' s1 s2 s3 s4 d2 => ?_, fun z => nomatch z⟩
  cases hd
  exact q v H2 H2' (I1.after s1 s2 s3 s4) (e1.trans s1) d2
end
theorem kit_self {K : PySem.W.Frag} {C : Addr} : PySem.W.kitOne K (.ref C) (.ref C) = some true := by
  unfold PySem.W.kitOne
  rw [if_pos (by simp)]
/-! try: f(..) except C: suite, with and without a name -/
section
variable {X : Cx} {ds ds' : List Sl} {pos pos' np fp p1 apos pos2 : Pos} {rest suite : List Stmt} {b0 : Stmt} {O : Outs} {f n x en : Str} {C Cx0 : Addr} {i ie k : Nat} {ps : List Str} {F : List D → Option D → Prop} {e : Expr} {es : List Expr} {xs : List D} {r : Option D}
theorem S.tryE (Gd : DefX X.prog X.w X.K X.mg X.base k f ps C F) (hr : Room k X.A) (ha : ∀ pn xe, EA (X.tr pn xe) ds (e :: es) xs) (hF : F xs r) (hcls : PySem.W.exmOne X.K (.ref C) (.ref Cx0) = some true) (hx : X.mg x = some (.ref Cx0))
    (hok : ∀ d, r = some d → S X rest ds O)
    (hex : r = none → ∀ a X', Su X C a X' → S X' (b0 :: suite) ds { nx := fun ds' => S X rest ds' O, rt := O.rt })
    (hl : xs.length = ps.length := by rfl)
    (hgf : Gl X f := by rfl) (hgx : Gl X x := by rfl) (hs : X.stack = X.env :: X.outer := by rfl) (hfr : X.env.frame = some X.env.locals := by rfl)
    (hdf : (f == ("__debug__" : Str)) = false := by decide) (hdx : (x == ("__debug__" : Str)) = false := by decide)
    (hst : starEach (e :: es) X.env = (false, eval e X.env) :: starEach es X.env := by rfl) (hpl : (backTo apos (starEach es X.env)).any (·.1) = false := by rfl)
    (hsw2 : swapsWith (.Call (.Name f fp) (e :: es) [] apos) none pos2.line X.env = pure false := by rfl) :
    S X (.Try [.Expr (.Call (.Name f fp) (e :: es) [] apos) pos2] [.ExceptHandler (some (.Name x np)) none (b0 :: suite) pos'] [] [] pos :: rest) ds O := by
  refine S.mk fun He H0e H0 σ H I D M => ?_
  obtain ⟨fa, fd, h1, h2, h3, h4⟩ := Gd
  refine WSs_of (pss_cons (ps_try_only (tb := fun W => tDrop (tCallS (spX X.K ps.length C F) (WE W) (aB X (e :: es)))) (ts := tSu X (b0 :: suite)) (Wout := fun _ _ _ _ => False) hs hfr ⟨hgx, hdx, Or.inl hx⟩ takes0
    (fun W pn xe tk _ => pss_one (ps_expr (pe_callS h1 hr hgf h2 h3 h4 (fun σ => passAt tk σ) ⟨fun pos pins s σ H Q I h => h pn xe pos pins s I⟩ hdf hst hpl) hsw2))
    (fun a oe cls d pn hz hf => ⟨fun pins s σ H D I h => h oe pn hz hf pins s I⟩)) (pss_WS (sts := rest))) ?_
  intro pn xe
  refine ha pn xe He H0e H0 σ H I _ fun vs H1' H1 I1 e1 d1 => ⟨H1', xs, r, I1.ex, d1, hl, hF, fun d hd v H2' H2 s1 s2 s3 s4 d2 => ?_, fun hr' H2 s2 => ?_⟩
  · exact hok d hd He H0e H2' _ H2 (I1.after s1 s2 s3 s4) D (M.mono (e1.trans s1))
  · refine ⟨true, hcls, fun _ a na oe pn hz hf => ?_, fun z => nomatch z⟩
    have I2 : Env X.K He H0e ds H1' σ H2 := I1.after (Same.refl _) s2 (I1.ex.trans s2) fun _ _ h => h
    refine hex hr' a _ ⟨oe, pn, hz, hf, rfl⟩ He H0e H1' _ H2 I2 _ ⟨fun ds3 H03 σ3 H3 hS I3 e3 => ?_, M.rt, fun _ _ _ _ h => h.elim, fun _ _ _ _ h => h.elim, fun _ h => h.elim⟩
    exact hS He H0e H03 _ H3 I3 D (M.mono (e1.trans e3))
theorem S.tryAsE (ie : Nat) (Gd : DefX X.prog X.w X.K X.mg X.base k f ps C F) (hr : Room k X.A) (ha : ∀ pn xe, EA (X.tr pn xe) ds (e :: es) xs) (hF : F xs r) (hcls : PySem.W.exmOne X.K (.ref C) (.ref Cx0) = some true) (hx : X.mg x = some (.ref Cx0))
    (hok : ∀ d, r = some d → S X rest ds O)
    (hex : r = none → ∀ a X', Su X C a X' → S X' (b0 :: suite) (ds.set ie (.ex a)) { nx := fun ds' => S X rest (ds'.set ie .no) O, rt := O.rt })
    (hl : xs.length = ps.length := by rfl) (hN : X.N.Nodup := by first | assumption | decide +kernel)
    (hgf : Gl X f := by rfl) (hgx : Gl X x := by rfl) (hie : X.N[ie]? = some en := by rfl) (hs : X.stack = X.env :: X.outer := by rfl) (hfr : X.env.frame = some X.env.locals := by rfl) (hln : X.env.kindOf en = some .local := by rfl)
    (hdf : (f == ("__debug__" : Str)) = false := by decide) (hdx : (x == ("__debug__" : Str)) = false := by decide)
    (hst : starEach (e :: es) X.env = (false, eval e X.env) :: starEach es X.env := by rfl) (hpl : (backTo apos (starEach es X.env)).any (·.1) = false := by rfl)
    (hsw2 : swapsWith (.Call (.Name f fp) (e :: es) [] apos) none pos2.line X.env = pure false := by rfl) :
    S X (.Try [.Expr (.Call (.Name f fp) (e :: es) [] apos) pos2] [.ExceptHandler (some (.Name x np)) (some en) (b0 :: suite) pos'] [] [] pos :: rest) ds O := by
  refine S.mk fun He H0e H0 σ H I D M => ?_
  obtain ⟨fa, fd, h1, h2, h3, h4⟩ := Gd
  refine WSs_of (pss_cons (ps_try_as (i := ie) (tb := fun W => tDrop (tCallS (spX X.K ps.length C F) (WE W) (aB X (e :: es)))) (ts := tSu X (b0 :: suite)) (Wout := fun _ _ _ _ => False) hs hfr hN hie hln ⟨hgx, hdx, Or.inl hx⟩ takes0
    (fun W pn xe tk _ => pss_one (ps_expr (pe_callS h1 hr hgf h2 h3 h4 (fun σ => passAt tk σ) ⟨fun pos pins s σ H Q I h => h pn xe pos pins s I⟩ hdf hst hpl) hsw2))
    (fun a oe cls d pn hz hf => ⟨fun pins s σ H D I h => h oe pn hz hf pins s I⟩)) (pss_WS (sts := rest))) ?_
  intro pn xe
  refine ha pn xe He H0e H0 σ H I _ fun vs H1' H1 I1 e1 d1 => ⟨H1', xs, r, I1.ex, d1, hl, hF, fun d hd v H2' H2 s1 s2 s3 s4 d2 => ?_, fun hr' H2 s2 => ?_⟩
  · exact hok d hd He H0e H2' _ H2 (I1.after s1 s2 s3 s4) D (M.mono (e1.trans s1))
  · refine ⟨true, hcls, fun _ a na oe pn hz hf => ?_, fun z => nomatch z⟩
    have I2 : Env X.K He H0e ds H1' σ H2 := I1.after (Same.refl _) s2 (I1.ex.trans s2) fun _ _ h => h
    refine hex hr' a _ ⟨oe, pn, hz, hf, rfl⟩ He H0e H1' _ H2 (I2.setG ie (s := .ex a) rfl rfl) _ ⟨fun ds3 H03 σ3 H3 hS I3 e3 => ?_, M.rt, fun _ _ _ _ h => h.elim, fun _ _ _ _ h => h.elim, fun _ h => h.elim⟩
    exact hS He H0e H03 _ H3 (I3.wipe1 ie) D (M.mono (e1.trans e3))
end
end Wm

set_option Elab.async false
set_option linter.all false
set_option maxRecDepth 100000
set_option maxHeartbeats 4000000
/-! WmP: sorted(texts, key=rank), rank the def that gives (its length, itself). -/
namespace Wm
open PySem PySem.Spec PyProof.Rows L2
/-- a call of f with a text, in any heap that holds what stands: its rank, and all that stood is kept -/
def RankAt (X : Cx) (f : Addr) : Prop := ∀ (pins : List (Addr × Obj)) (σ : L2.St) (H : Hp) (s : Shared), Inv X pins σ H s → ∀ (h : Heap) (tk : Nat), (∀ b o, s.heap.get? b = some o → h.get? b = some o) → ∀ (w : List Nat) (t : Tok), w.length ≤ 16777216 →
  wpAny (model X.prog X.w) X.A.in1.in1 (call (.ref f) [.str (sx w) t]) (PySem.W.KeyPure (.tuple [.int w.length, .str (sx w)]) { s with heap := h, toks := tk }) (fun _ _ => False) { s with heap := h, toks := tk }
section
variable {X : Cx} {f : Addr} {st : Stmt} {fd : FuncData} {p1 p2 p3 p4 p5 p6 : Pos} {j : Nat}
theorem rank_at (Fn : Fun X.K "rank" "rank" st f fd) (hbd : defBody st = [.Return (some (.Tuple [.Call (.Name "len" p1) [.Name "word" p2] [] p3, .Name "word" p4] j p5)) p6]) (Sc : FnScope ["word"] ["word"] (defScope st)) (hb : Binds X.K fd ["word"] [])
    (h0 : (defScope st).names.lookup ("word" : Str) = some .local) (hg : (defScope st).names.lookup ("len" : Str) = some .globalImplicit) (hlen : X.mg "len" = none) (hr : Room 5 X.A) : RankAt X f := by
  intro pins σ H s I h tk hk w t hw
  have I1 : Inv X pins σ H { s with heap := h, toks := tk } := I.kept (t' := tk) hk
  generalize hs1 : ({ s with heap := h, toks := tk } : Shared) = s1 at I1
  have e0 := I1.env0.in1.in1
  obtain ⟨oc, od, kV, doc, pm, an, cdv, ct, osl, rfl, lk, hcd⟩ := Fn.ex
  have KX := I1.kIn
  have lim := I1.nolimit
  have hkind : ∀ v ∈ [("word" : Str)].zip [Value.str (sx w) t], (defScope st).names.lookup v.1 = some .local ∨ ((defScope st).names.lookup v.1 = some .cell ∧ ((cellsFrom (s1.heap.objs.size + 1) (defScope st).names []).lookup v.1).isSome = true) := fun ⟨n, v⟩ hy => by
    have e : n = "word" := by simpa using (List.of_mem_zip hy).1
    subst e
    exact .inl h0
  have bd := hb s1 [.str (sx w) t] KX rfl
  refine wpAny_call (codeAny_call_function hr.in1.in1.depth (KX _ _ lk) rfl Sc.co Sc.gen rfl (PySem.W.codeRec_of KX hcd) (bd _ _ _ _ ?_))
  refine wpAny_newFunctionEnv_cells Sc.kind hkind fun env he s2 xx => ?_
  subst he
  refine ⟨lim.keeps xx.toInCall.keep, codeAny_func ?_⟩
  have rv : Vals [V.str (sx w)] [Value.str (sx w) t] := .cons ⟨t, rfl⟩ .nil
  have I2 : Inv (cxOf CX0 X.prog X.w X.K X.mg X.base ["word"] "rank" (defScope st) f cdv X.A.in1.in1 X.stack s1 H L2.E0) [] (L2.start ["word"] [.str (sx w)]) H s2 := inv_start Sc hr.hd e0 rfl rv xx
  have hn := xx.toInCall.ns
  have m0 := bindL_get (kindOf := (envOfC "rank" (defScope st) s1.heap.objs.size f cdv).kindOf) (x := ("word" : Str)) (v := Value.str (sx w) t) (P := [("word" : Str)]) (vs := [.str (sx w) t]) (i := 0) (m := fun _ => none) (by decide) rfl rfl h0
  have d0 : (("word" : Str) == ("__debug__" : Str)) = false := by decide
  obtain ⟨h2, tk2, e2⟩ := xx.toInCall.same
  have kp := xx.toInCall.keep
  show wpAny _ _ (execs (defBody st) _) _ _ s2
  rw [hbd]
  refine wpAny_execs_cons (wpAny_Return_some (wpAny_Tuple ?_))
  refine Calls.spliced_cons (wpAny_Call_Name_kw (ld_blt I2 (x := "len") ?_ hlen PySem.boot_len (PyProof.Rows.callWith_builtin1 ?_ rfl rfl)))
  · exact hg
  refine Calls.spliced_cons (wpAny_Name (wpAny_loadName_local Sc.kind h0 hn m0 ?_) d0)
  refine Calls.spliced_nil ?_
  refine len_str (by rw [sx_len]; omega) ?_
  refine Calls.spliced_cons (wpAny_Name (wpAny_loadName_local Sc.kind h0 hn m0 ?_) d0)
  refine Calls.spliced_nil ?_
  refine ⟨by show 2 ≤ sizeLine; decide, ?_⟩
  subst e2
  exact ⟨_, _, rfl, fun b o e => Heap.get?_push_of_some _ (kp b o e), Reads.tuple (Heap.get?_push_size _ rfl) rfl rfl (ReadsAll.cons (.int _ _) (.cons (.str _ _) .nil))⟩
/-- sorted(texts, key=rank) -/
def rkD (w : List Nat) : PyData := .tuple [.int w.length, .str (sx w)]
def rkSort (ws : List (List Nat)) : List (List Nat) := ws.mergeSort (PySem.W.dataLe false rkD)
def rSortRk (K : PySem.W.Frag) (f : Addr) : List V → List V → Hp → VK → Prop := fun vs zs H Q => ∃ (a : Addr) (ws : List (List Nat)), vs = [V.ref a] ∧ zs = [V.ref f] ∧ SqL K H a (ws.map fun w => V.str (sx w)) ∧ (∀ w ∈ ws, w.length ≤ 16777216) ∧
  ∀ p, H p = none → Q (.ref p) (upd H p (.lst ((rkSort ws).map fun w => V.str (sx w))))
theorem each_strs : ∀ {ws : List (List Nat)} {us : List Value}, Vals (ws.map fun w => V.str (sx w)) us → PySem.W.EachIs (fun v (w : List Nat) => ∃ t, v = Value.str (sx w) t) us ws
  | [], us, h => by
    cases us with
    | nil => exact .nil
    | cons _ _ => cases h
  | w :: ws, us, h => by
    cases us with
    | nil => cases h
    | cons u us =>
      rw [List.map_cons] at h
      cases h with
      | cons r rr => exact .cons r (each_strs rr)
theorem vals_strs : ∀ {ws : List (List Nat)} {us : List Value}, PySem.W.EachIs (fun v (w : List Nat) => ∃ t, v = Value.str (sx w) t) us ws → Vals (ws.map fun w => V.str (sx w)) us
  | [], us, h => by
    cases us with
    | nil => exact .nil
    | cons _ _ => cases h
  | w :: ws, us, h => by
    cases us with
    | nil => cases h
    | cons u us =>
      cases h with
      | cons r rr => exact .cons r (vals_strs rr)
theorem cr_sortRk (R : RankAt X f) (hu : X.A.units + 8 < cLine) : CallRK X (.builtin "sorted") [Str.ofString "key"] (rSortRk X.K f) := by
  intro pins s σ H vs zs us ws Q I r rz h
  obtain ⟨a, xs, rfl, rfl, hs, hl, q⟩ := h
  obtain rfl := Vals.ref1 r
  obtain ⟨w1, rfl, e1⟩ := vals1 rz
  obtain rfl : w1 = Value.ref f := e1
  obtain ⟨its, rv, pl, hz⟩ := I.list hs
  have ev := each_strs rv
  have hlen : xs.length ≤ sizeLine := by rw [List.length_map] at hz; exact hz
  refine PySem.W.sorted_key_data (b := false) rkD pl.isList ev (PySem.W.AllAlike.of fun _ _ => by simp [PySem.W.alike, PySem.W.alikeAll, rkD]) (PySem.W.Sortable.tuples fun _ => ⟨_, _, rfl⟩) hlen (fun x _ => ?_) (ksk_s1 _ _) (fun _ => ksk_l1 _ _) (fun _ => ksk_t1 _ _)
    (fun v x ⟨t, hv⟩ hx h tk kp => by rw [hv]; exact R pins σ H s I h tk kp x t (hl x hx)) fun out c h' tk kp hn ho hlo eo => ?_
  · have hd : (rkD x).depth = 1 := by simp [rkD, PyData.depth, PyData.depthAll]
    omega
  · have vo := vals_strs eo
    have hzo : ((rkSort xs).map fun w => V.str (sx w)).length ≤ sizeLine := by
      rw [List.length_map]
      unfold rkSort
      rw [List.length_mergeSort]
      exact hlen
    exact ⟨.ref _, upd H (s.heap.objs.size + 1) (.lst ((rkSort xs).map fun w => V.str (sx w))), I.laid (t' := tk) kp (Nat.le_succ _) ⟨hzo, out, c, vo, ho⟩, rfl, q _ (I.hok.fresh (Nat.le_succ _))⟩
variable {ds : List Sl} {e : Expr} {pos p kp np : Pos} {nm : Str}
theorem EL.sortRk {ws : List (List Nat)} (B : Bi X) (R : RankAt X f) (hm : X.mg nm = some (.ref f)) (ha : E X ds e (.lst (ws.map D.str))) (hl : ∀ w ∈ ws, w.length ≤ 16777216) (hg : Gl X "sorted" := by rfl) (hgn : Gl X nm := by rfl) (hdn : (nm == ("__debug__" : Str)) = false := by decide)
    (hs : starEach [e] X.env = (false, eval e X.env) :: starEach [] X.env := by rfl)
    (he : backTo pos (starEach (e :: []) X.env) = (false, eval e X.env) :: backTo pos (starEach [] X.env) := by rfl) (hpl : (backTo pos (starEach (e :: []) X.env)).any (·.1) = false := by rfl)
    (hall : (backToKw pos (keywordEach [⟨some "key", .Name nm np, kp⟩] X.env)).all (·.1.isSome) = true := by rfl) (hnone : (backToKw pos (keywordEach [⟨some "key", .Name nm np, kp⟩] X.env)).any (·.1.isNone) = false := by rfl)
    (hks : (backToKw pos (keywordEach [⟨some "key", .Name nm np, kp⟩] X.env)).filterMap (·.1) = [Str.ofString "key"] := by rfl) :
    EL X ds (.Call (.Name "sorted" p) [e] [⟨some "key", .Name nm np, kp⟩] pos) ((rkSort ws).map D.str) :=
  EL.of (pe_callBK (cr_sortRk R (by have := B.un; omega)) hg B.sorted (by decide +kernel) (pa_cons pe_W pa_nil hs) (pk_cons (pe_glob (v := .ref f) hgn hm rfl hdn) pk_nil) (by decide) (by decide) he hpl hall hnone hks) fun He H0e H0 σ H I Q q => ha He H0e H0 σ H I _ fun v H1 H' I1 e1 d1 => by
    obtain ⟨a, vs, rfl, g1, g2⟩ := dat_lst.mp d1
    rw [Dats.strs] at g2
    subst g2
    exact ⟨a, ws, rfl, rfl, SqL.of (I1.ex _ _ g1), hl, fun r hr => q r _ H1 H' I1 e1 hr (Dats.strs.mpr rfl)⟩
end
end Wm

set_option Elab.async false
set_option linter.all false
set_option maxRecDepth 100000
set_option maxHeartbeats 4000000
/-! WmW: dicts of pairs of texts that a def makes; sorted of them. -/
namespace Wm
open PySem PySem.Spec PyProof.Rows L2
/-! all tuples that are tracked count as unchangeable -/
def tupsIn (H0 H : Hp) : Hp := fun a => match H0 a with
  | some o => some o
  | none => match H a with
    | some (.tup xs) => some (.tup xs)
    | _ => none
theorem tupsIn_same (H0 H : Hp) : Same H0 (tupsIn H0 H) := fun a o e => by unfold tupsIn; rw [e]
theorem tupsIn_tup {H0 H : Hp} {a : Addr} {xs : List V} (s : Same H0 H) (e : H a = some (.tup xs)) : tupsIn H0 H a = some (.tup xs) := by
  unfold tupsIn
  cases q : H0 a with
  | some o => rw [s a o q] at e; rw [Option.some.inj e]
  | none => rw [e]
theorem tupsIn_nt {H0 H : Hp} {a : Addr} (n : H0 a = none) (h : NT (H a)) : tupsIn H0 H a = none := by
  obtain ⟨u, hu, hn⟩ := h
  unfold tupsIn
  rw [n, hu]
  cases u with
  | tup xs => exact absurd rfl (hn xs)
  | _ => rfl
theorem Env.tups {K : PySem.W.Frag} {He H0e H0 H : Hp} {ds : List Sl} {σ : L2.St} (I : Env K He H0e ds H0 σ H) : Env K He H0e ds (tupsIn H0 H) σ H where
  ex := fun a o e => by
    unfold tupsIn at e
    cases q : H0 a with
    | some u => rw [q] at e; rw [← Option.some.inj e]; exact I.ex a u q
    | none =>
      rw [q] at e
      cases r : H a with
      | none => rw [r] at e; cases e
      | some u =>
        rw [r] at e
        cases u with
        | tup xs => exact e
        | _ => cases e
  exE := I.exE
  ex0 := I.ex0.trans (tupsIn_same H0 H)
  sep := fun a h1 h2 => tupsIn_nt (I.sep a h1 h2) (h1.mono I.exE)
  len := I.len
  sl := fun i s hs => (I.sl i s hs).mono (tupsIn_same H0 H) fun p hp w => by
    obtain ⟨q, e1, e2, e3, e4⟩ := (I.sl i s hs).addr w
    rw [hp] at e1
    obtain rfl : p = q := by simpa using e1
    exact ⟨tupsIn_nt e3 ((I.sl i s hs).nt w hp), rfl⟩
  own := I.own
/-! keys -/
abbrev Pr := List Nat × List Nat
def insP (ks : List Pr) (p : Pr) : List Pr := if p ∈ ks then ks else ks ++ [p]
def pk (p : Pr) : List L2.Key := [Sum.inr (sx p.1), Sum.inr (sx p.2)]
theorem pk_inj {p q : Pr} (h : pk p = pk q) : p = q := by
  unfold pk at h
  injection h with h1 h2
  injection h2 with h2
  exact Prod.ext (sx_inj (Sum.inr.inj h1)) (sx_inj (Sum.inr.inj h2))
theorem val_ot (ks : List Pr) (p : Pr) : valV (otKv ks) (pk p) = if p ∈ ks then some (.bl true) else none := by
  induction ks with
  | nil => rfl
  | cons u ks ih =>
    show valV ((pk u, V.bl true) :: otKv ks) (pk p) = _
    by_cases h : u = p
    · subst h
      rw [valV_pos (p := (pk u, V.bl true)) (k := pk u) rfl, if_pos List.mem_cons_self]
    · rw [valV_neg (fun e => h (pk_inj e))]
      rw [ih]
      by_cases g : p ∈ ks
      · rw [if_pos g, if_pos (List.mem_cons_of_mem _ g)]
      · rw [if_neg g, if_neg (fun z => (List.mem_cons.mp z).elim (fun z => h z.symm) g)]
theorem put_ot (ks : List Pr) (p : Pr) : putK (otKv ks) (pk p) (.bl true) = otKv (insP ks p) := by
  unfold insP
  by_cases h : p ∈ ks
  · rw [if_pos h]
    unfold putK
    have e : ((otKv ks).any fun kv => decide (kv.1 = pk p)) = true := by
      rw [valV_any, val_ot, if_pos h]; rfl
    rw [if_pos e]
    unfold otKv
    rw [List.map_map]
    refine List.map_congr_left fun u hu => ?_
    show (if pk u = pk p then _ else _) = _
    split <;> rfl
  · rw [if_neg h, putK_new _ (by rw [val_ot, if_neg h])]
    unfold otKv
    rw [List.map_append]; rfl
theorem mem_insP {ks : List Pr} {p q : Pr} : q ∈ insP ks p ↔ q ∈ ks ∨ q = p := by
  unfold insP
  split
  · rename_i h
    constructor
    · exact .inl
    · rintro (r | rfl); exact r; exact h
  · simp
theorem insP_len {ks : List Pr} {p : Pr} : (insP ks p).length ≤ ks.length + 1 := by
  unfold insP
  split
  · omega
  · simp
/-! sorted -/
def prD (p : Pr) : PyData := .tuple [.str (sx p.1), .str (sx p.2)]
def prSort (ks : List Pr) : List Pr := ks.mergeSort (PySem.W.dataLe false prD)
theorem prSort_perm (ks : List Pr) : (prSort ks).Perm ks := List.mergeSort_perm _ _
section
variable {prog : Program} {w : World}
theorem kdl_raw {d : Addr} {es : Array DictEntry} {ep : Nat} (lo : (d == sysModules) = false) : PySem.W.KdlSrc prog w "dict" d d es.size (fun i v => ∃ hi : i < es.size, v = es[i].key) (fun h => h.DictRaw d es ep) where
  type := fun _ hm => hm.typeIs
  there := fun _ hm => by obtain ⟨o, ho, _⟩ := hm; exact ⟨Heap.lt_size ho, Heap.lt_size ho⟩
  keep := fun _ _ hm hk => hm.at fun o e => hk d (.inl rfl) o e
  notList := by decide
  notTuple := by decide
  hint := fun _ _ _ _ hm hq => PySem.W.kdl_hint_dict hm.typeIs hq
  iter := fun _ _ hh hm => ⟨_, _, (fun _ _ hq => wpAny_pyIter_dict_raw lo hm hq), Walks.rawKeys hh _ d (by obtain ⟨o, ho, _⟩ := id hm; exact Nat.ne_of_lt (Heap.lt_size ho)) es ep, ⟨⟨_, Heap.get?_push_size _ rfl, rfl, rfl⟩, hm.at fun o e => Heap.get?_push_of_some _ e⟩⟩
end
theorem each_get {α β : Type} {R : α → β → Prop} : ∀ {l : List α} {m : List β}, l.length = m.length → (∀ (i : Nat) v b, l[i]? = some v → m[i]? = some b → R v b) → PySem.W.EachIs R l m
  | [], [], _, _ => .nil
  | [], _ :: _, h, _ => by cases h
  | _ :: _, [], h, _ => by cases h
  | v :: l, b :: m, h, f => .cons (f 0 v b rfl rfl) (each_get (by simpa using h) fun i v b h1 h2 => f (i + 1) v b (by simpa using h1) (by simpa using h2))
/-- v is the tuple of the pair, tracked -/
def IsPr (H : Hp) (v : Value) (p : Pr) : Prop := ∃ q, v = .ref q ∧ H q = some (.tup [.str (sx p.1), .str (sx p.2)])
theorem each_refs {H : Hp} : ∀ {vs : List Value} {ps : List Pr}, PySem.W.EachIs (IsPr H) vs ps → ∃ qs : List Addr, Vals (qs.map V.ref) vs ∧ PySem.W.EachIs (fun q (p : Pr) => H q = some (.tup [.str (sx p.1), .str (sx p.2)])) qs ps
  | _, _, .nil => ⟨[], .nil, .nil⟩
  | _, _, .cons ⟨q, e, h⟩ t => by
    obtain ⟨qs, a, b⟩ := each_refs t
    subst e
    exact ⟨q :: qs, .cons rfl a, .cons h b⟩
section
variable {X : Cx}
theorem pr_reads {pins : List (Addr × Obj)} {σ : L2.St} {H : Hp} {s : Shared} (I : Inv X pins σ H s) {v : Value} {p : Pr} (h : IsPr H v p) : Reads s.heap v (prD p) [] := by
  obtain ⟨q, rfl, hq⟩ := h
  obtain ⟨_, its, rv, o, ho, hc, n, hd⟩ := I.hok q _ hq
  cases rv with
  | cons r1 r2 =>
    cases r2 with
    | cons r2 r3 =>
      cases r3
      obtain ⟨t1, rfl⟩ := r1
      obtain ⟨t2, rfl⟩ := r2
      exact Reads.tuple ho hc hd (ReadsAll.cons (.str _ _) (.cons (.str _ _) .nil))
def rSortedOT : List V → Hp → VK → Prop := fun xs H Q => ∃ (a : Addr) (ks : List Pr), xs = [.ref a] ∧ H a = some (.dT (otKv ks)) ∧
  ∀ (qs : List Addr) p, PySem.W.EachIs (fun q (p : Pr) => H q = some (.tup [.str (sx p.1), .str (sx p.2)])) qs (prSort ks) → H p = none → Q (.ref p) (upd H p (.lst (qs.map V.ref)))
theorem cr_sortedOT (hcalm : X.calm = true) (hu : X.A.units + 8 < cLine) : CallR X (.builtin "sorted") rSortedOT := by
  intro pins s σ H xs us Q I r q
  obtain ⟨a, ks, rfl, hd, q⟩ := q
  rw [Vals.ref1 r]
  obtain ⟨hz, lo, ys, pr, o, es, ep, ho, hx, hdat, hes, _⟩ := I.hok a _ hd
  have raw : s.heap.DictRaw a es ep := ⟨o, ho, hx, hdat⟩
  have hyl : (otKv ks).length = ys.length := Paired.length pr
  have hkl : (otKv ks).length = ks.length := by unfold otKv; rw [List.length_map]
  have hsz : es.size = ks.length := by rw [← Array.length_toList, hes, List.length_map, ← hyl, hkl]
  have h16 : es.size ≤ sizeLine := by rw [hsz, ← hkl]; exact hz
  have pget : ∀ (i : Nat) (k : Pr), ks[i]? = some k → ∃ y, ys[i]? = some y ∧ H y.2.1 = some (.tup [.str (sx k.1), .str (sx k.2)]) := fun i k hk => by
    have e1 : (otKv ks)[i]? = some (pk k, V.bl true) := by unfold otKv; rw [List.getElem?_map, hk]; rfl
    have key : ∀ {l₁ : List (List L2.Key × V)} {l₂ : List (List L2.Key × Addr × Value)}, Paired (fun (p : List L2.Key × V) (q : List L2.Key × Addr × Value) => p.1 = q.1 ∧ H q.2.1 = some (.tup (p.1.map kV)) ∧ RelV p.2 q.2.2) l₁ l₂ → ∀ (i : Nat) x, l₁[i]? = some x → ∃ y, l₂[i]? = some y ∧ H y.2.1 = some (.tup (x.1.map kV)) := by
      intro l₁ l₂ z
      induction z with
      | nil => intro i x h; simp at h
      | cons h1 h2 ih =>
        intro i x h
        cases i with
        | zero => rw [List.getElem?_cons_zero] at h; cases h; exact ⟨_, List.getElem?_cons_zero, h1.2.1⟩
        | succ i => rw [List.getElem?_cons_succ] at h ⊢; exact ih i x h
    obtain ⟨y, hy, hH⟩ := key pr i _ e1
    exact ⟨y, hy, hH⟩
  refine Calls.call_function_entry PyProof.Rows.kind_sorted PyProof.Rows.plain_sorted PyProof.Rows.entry_sorted (PyProof.Rows.args_sorted1 _) ?_
  unfold Builtin.«sorted»
  refine wpAny_bind (m := checkCount "sorted" 1 1 _) (wpAny_pure ?_)
  refine wpAny_bind (PySem.W.kdu_collect (A := X.A.in1) (kdl_raw (es := es) (ep := ep) lo) (I.ok.hd hcalm) raw h16 fun h' tk acc hk hacc => ?_)
  have hal : acc.toList.length = ks.length := by rw [Array.length_toList, hacc.1, hsz]
  have E1 : PySem.W.EachIs (IsPr H) acc.toList ks := each_get hal fun i v k hv hkk => by
    obtain ⟨hi, e⟩ := hacc.2 i v (by rw [← Array.getElem?_toList]; exact hv)
    obtain ⟨y, hy, hH⟩ := pget i k hkk
    refine ⟨y.2.1, ?_, hH⟩
    have e2 : es.toList[i]? = some (entryOfKey (tupleKind (mixKind X.prog X.w)) y) := by rw [hes, List.getElem?_map, hy]; rfl
    have e3 : es[i] = entryOfKey (tupleKind (mixKind X.prog X.w)) y := by
      rw [Array.getElem?_toList, Array.getElem?_eq_getElem hi] at e2
      exact Option.some.inj e2
    rw [e, e3]
    rfl
  have hzl : acc.toList.length ≤ sizeLine := by rw [hal, ← hsz]; exact h16
  have I1 : Inv X pins σ H { s with heap := h', toks := tk } := I.kept hk
  refine wpAny_bind (wpAny_newList ?_ hzl)
  have hoL : (h'.push (seqObj "list" acc.toList.toArray 0)).get? h'.objs.size = some (seqObj "list" acc.toList.toArray 0) := Heap.get?_push_size _ rfl
  show wpAny _ _ _ _ _ { s with heap := h'.push (seqObj "list" acc.toList.toArray 0), toks := tk }
  have er : PySem.W.EachIs (fun v p => ∃ as, Reads (h'.push (seqObj "list" acc.toList.toArray 0)) v (prD p) as ∧ h'.objs.size ∉ as) acc.toList ks :=
    E1.mono fun v p hp => ⟨[], PyProof.Rows.Reads.keeps (fun b o e => Heap.get?_push_of_some _ e) (pr_reads I1 hp), by simp⟩
  refine wpAny_bind (wpAny_holding (PySem.W.list_sort_data (s := { s with heap := h'.push (seqObj "list" acc.toList.toArray 0), toks := tk }) hoL E1 er (PySem.W.AllAlike.of fun _ _ => by simp [PySem.W.alike, PySem.W.alikeAll, prD]) (PySem.W.Sortable.tuples fun _ => ⟨_, _, rfl⟩) (by rw [← hal]; exact hzl) (fun b _ => ?_) fun out hlo eo => ?_))
  · have hdp : (prD b).depth = 1 := by simp [prD, PyData.depth, PyData.depthAll]
    have : X.A.in1.units = X.A.units + 1 := rfl
    omega
  obtain ⟨qs, v1, v2⟩ := each_refs eo
  obtain ⟨e', he'⟩ := PyProof.Rows.sortedHeap_at (vs := acc.toList) (out := List.toArray out) hoL
  have hlen : (qs.map V.ref).length ≤ sizeLine := by
    rw [v1.length, hlo, ← hal]
    exact hzl
  refine wpAny_pure ⟨_, rfl, .ref h'.objs.size, upd H h'.objs.size (.lst (qs.map V.ref)), I1.laid (t' := tk) (fun b u e => ?_) (Nat.le_refl _)
    (show ObjOk X.prog X.w _ _ _ (.lst (qs.map V.ref)) from ⟨hlen, out, e', v1, he'⟩), rfl, q qs _ v2 (I1.hok.fresh (Nat.le_refl _))⟩
  have hb : b < h'.objs.size := Heap.lt_size e
  rw [PyProof.Rows.sortedHeap_old (Nat.ne_of_lt hb) (by rw [size_push']; exact Nat.lt_succ_of_lt hb)]
  exact Heap.get?_push_of_some _ e
theorem dats_prs {K : PySem.W.Frag} {H0 : Hp} : ∀ {qs : List Addr} {ps : List Pr}, PySem.W.EachIs (fun q (p : Pr) => H0 q = some (.tup [.str (sx p.1), .str (sx p.2)])) qs ps → Dats K H0 (ps.map rd) (qs.map V.ref)
  | _, _, .nil => Dats.nil
  | _, _, .cons (a := q) (b := p) h t => Dats.cons (dat_tup.mpr ⟨q, _, rfl, SqT.of h, Dats.cons (dat_str.mpr rfl) (Dats.cons (dat_str.mpr rfl) Dats.nil)⟩) (dats_prs t)
variable {ds : List Sl} {e : Expr} {es : List Expr} {pos pos' p p1 p2 p3 : Pos} {rest : List Stmt} {O : Outs} {n m : Str}
/-- n = {}, to be a dict of pairs -/
theorem S.asgT0 (i : Nat) (k : S X rest (ds.set i (.ot [])) O) (hN : X.N.Nodup := by first | assumption | decide +kernel) (hi : X.N[i]? = some n := by rfl) (hx : Loc X.env.scope n := by first | exact Or.inl rfl | exact Or.inr rfl) (hs : swapsWith (.Dict [] [] p) (some (.Name n pos')) pos.line X.env = pure false := by rfl)
    (hf : X.fn n = true ∨ X.env.scope.names.lookup n = some .local := by first | exact .inl rfl | exact .inr rfl) : S X (.Assign [.Name n pos'] (.Dict [] [] p) pos :: rest) ds O := S.mk fun He H0e H0 σ H I D M =>
  WSs_of (pss_cons (ps_set hN hi hx pe_dnewT hs hf) (pss_WS (sts := rest))) fun q hq => k He H0e H0 _ _ (I.setO i hq fun H2 h2 => ⟨q, rfl, I.henone hq, I.h0none hq, h2⟩) D M
/-- m[(a, b)] = True -/
theorem S.tput (j : Nat) {ks : List Pr} {a b : List Nat} {z jj : Nat} (B : Bi X) (hj : ds[j]? = some (.ot ks)) (h : EA X ds es [.str a, .str b]) (hz : ks.length < 16777216) (k : S X rest (ds.set j (.ot (insP ks (a, b)))) O) (hN : X.N[j]? = some m := by rfl) (hv : Vis X.env.scope m := by first | exact Or.inl rfl | exact Or.inr (Or.inl rfl) | exact Or.inr (Or.inr rfl))
    (hd : (m == ("__debug__" : Str)) = false := by decide) (hcd : (m == ("__classdict__" : Str)) = false := by decide) (hs : swapsWith (.Constant (.bool true) z p2) (some (.Subscript (.Name m p1) (.Tuple es jj p3) pos')) pos.line X.env = pure false := by rfl) :
    S X (.Assign [.Subscript (.Name m p1) (.Tuple es jj p3) pos'] (.Constant (.bool true) z p2) pos :: rest) ds O := S.mk fun He H0e H0 σ H I D M =>
  WSs_of (pss_cons (ps_dput (by have := B.un; omega) (pe_var hN hv hd hcd) (pe_tup pa_WA) pe_bl hs) (pss_WS (sts := rest))) (by
    obtain ⟨q, e1, e2, e3, e4⟩ := I.sl j _ hj
    refine ⟨_, e1, h He H0e H0 σ H I _ fun vs H1 H' I1 f1 d1 => ⟨by rw [← d1.len, sizeLine_eq]; exact Nat.le_of_ble_eq_true rfl, fun t ht => ?_⟩⟩
    have dv : vs = [V.str (sx a), V.str (sx b)] := (Dats.strs (ws := [a, b])).mp d1
    subst dv
    have I2 := I1.new (o := .tup [V.str (sx a), V.str (sx b)]) ht
    obtain ⟨q', g1, g2, g3, g4⟩ := I2.sl j _ hj
    rw [e1] at g1
    obtain rfl : q = q' := by simpa using g1
    refine ⟨q, _, rfl, DPut.t (k := pk (a, b)) g4 upd_same (by unfold otKv; rw [List.length_map, sizeLine_eq]; exact hz), ?_⟩
    rw [put_ot]
    exact k He H0e _ σ _ (I2.mut hj rfl e1 (s' := .ot (insP ks (a, b))) (fun H2 h2 => ⟨q, rfl, g2, g3, h2⟩) rfl) D (M.mono (f1.trans (Same.new (I1.h0none ht)))))
/-- sorted(m) -/
theorem EL.sortedOT (j : Nat) {ks : List Pr} (B : Bi X) (hj : ds[j]? = some (.ot ks)) (hN : X.N[j]? = some m := by rfl) (hv : Vis X.env.scope m := by first | exact Or.inl rfl | exact Or.inr (Or.inl rfl) | exact Or.inr (Or.inr rfl)) (hg : Gl X "sorted" := by rfl)
    (hd : (m == ("__debug__" : Str)) = false := by decide) (hcd : (m == ("__classdict__" : Str)) = false := by decide) (hs : starEach [Expr.Name m p1] X.env = (false, eval (.Name m p1) X.env) :: starEach [] X.env := by rfl) (hpl : (backTo pos (starEach [] X.env)).any (·.1) = false := by rfl) :
    EL X ds (.Call (.Name "sorted" p) [.Name m p1] [] pos) ((prSort ks).map rd) :=
  EL.of (pe_callB (cr_sortedOT B.calm (by have := B.un; omega)) hg B.sorted (by decide +kernel) (pa_cons (pe_var hN hv hd hcd) pa_nil hs) (by decide) (by decide) hs hpl) fun He H0e H0 σ H I Q q => by
    obtain ⟨r, h1, h2, h3, h4⟩ := I.sl j _ hj
    refine ⟨_, h1, r, ks, rfl, h4, fun qs t hq hn => ?_⟩
    exact q t _ (tupsIn H0 H) H I.tups (tupsIn_same H0 H) hn (dats_prs (hq.mono fun q p e => tupsIn_tup I.ex e))
end
end Wm

set_option Elab.async false
set_option linter.all false
set_option maxRecDepth 100000
set_option maxHeartbeats 4000000
/-! WmCx: a list comprehension whose element may raise. -/
namespace Wm
open PySem PySem.Spec PyProof.Rows L2
/-- the block's context, with the way out of an exception -/
abbrev BlkX (X : Cx) (scope : Scope) (s : Shared) (H : Hp) (ce : PySem.Env) (fp : List Addr) : Cx := { X.blk s H scope ce fp with xe := notedBy (model X.prog X.w) X.A ce (CompFails (model X.prog X.w) X.A X.xe ce) }
section
variable {X : Cx} {pins : List (Addr × Obj)} {σ : L2.St} {H : Hp} {s : Shared}
theorem Inv.xeTo {e : Value → Shared → Prop} (I : Inv X pins σ H s) : Inv { X with xe := e } pins σ H s :=
  have k := I.ok
  ⟨⟨k.mod, k.kind, k.glob, k.blt, k.above, k.inj, k.has, k.cab, k.hd, k.frames, k.stk, k.exf, k.bs, k.bsz, k.noex, k.exfs, k.funs, k.frf⟩, I.os, I.bare, I.base, I.loc, I.cell, I.free, I.freeC, I.pin, I.hok, I.len⟩
/-- what a call within the block lets out is taken by the def's own wish -/
theorem blk_passes (hs : X.stack = X.env :: X.outer) (hf : X.env.frame = some X.env.locals) {W : WX} (tk : Takes X W) {Wh : XK} {H3 : Hp} {s3 : Shared} (I3 : Inv X pins σ H3 s3) (hW : ∀ cls d H', Wh cls d H' → W cls d σ H')
    {scope : Scope} {ce : PySem.Env} {fp : List Addr} (cf : ce.frame = X.env.frame) (cl : ce.locals = s3.heap.objs.size) (hfp : ∀ b ∈ fp, FpOk X pins H3 b) {pb : List (Addr × Obj)} {σb : L2.St} {Hb : Hp} {sb : Shared} (Ib : Inv (BlkX X scope s3 H3 ce fp) pb σb Hb sb)
    {u : Value} {s' : Shared} (c : L2.CX X.prog X.w X.stack Hb sb Wh u s') : (BlkX X scope s3 H3 ce fp).xe u s' := by
  obtain ⟨a, B, H', cls, d, rfl, fl, hok, ub, na, os, ag, hE⟩ := c
  have hfr : X.A.frames = some (X.env :: X.outer) := by rw [I3.ok.frames, hs]
  -- the block's own names
  have below : ∀ b o, s3.heap.get? b = some o → b ≠ ce.locals := fun b o e z => by
    have := Heap.lt_size e
    rw [z, cl] at this
    exact absurd this (Nat.lt_irrefl _)
  have cnf : ce.locals ∉ frs X.stack := fun hm => by
    obtain ⟨_, o, e, _⟩ := I3.stack.mem hm
    exact below _ o e rfl
  obtain ⟨mb, nsb, _⟩ := Ib.loc
  have nsb : sb.heap.Ns ce.locals mb := nsb
  have freeC : Hb ce.locals = none := Ib.free
  have inB : ∀ o, sb.heap.get? ce.locals = some o → B.get? ce.locals = some o := fun o e => ub.keep _ o e freeC cnf
  have hC' : H' ce.locals = none := by
    obtain ⟨o, _, _, e, _⟩ := id nsb
    exact ub.free _ o e freeC
  have isDict : ∀ o, sb.heap.get? ce.locals = some o → ∀ vs, o.data ≠ .fields vs := fun o e vs q => by
    obtain ⟨o', es, ep, e', hd, _⟩ := id nsb
    rw [e] at e'
    rw [Option.some.inj e'] at q
    rw [hd] at q
    cases q
  show wpAny _ X.A (noteFrame (.ref a) ce) _ _ s'
  rw [noteFrame_env _ cf]
  have fl2 : HandSPX.FlyingZ B (X.env :: X.outer) a (Zc cls d) s'.heap := by rw [← hs]; exact fl
  refine HandSPX.looks_onZ Zc.steady hfr hf fl2 fun h3 held up => ?_
  rw [← hs] at held
  have ns3 : h3.Ns ce.locals mb := nsb.at' fun o e => held.1 _ o (inB o e)
  refine ⟨mb, ns3, fun h4 m4 ns4 sb4 => ?_⟩
  obtain ⟨b1, b0, f1, oe, vs, T, oT, ts, he, hz, hd, h1, hnT, hTe, hT, hdT, ht3⟩ := id held
  obtain ⟨oC, hoC, hdC⟩ : ∃ o, h3.get? ce.locals = some o ∧ ∀ vs, o.data ≠ .fields vs := by
    obtain ⟨o', es, ep, e', hd', _⟩ := id ns3
    exact ⟨o', e', fun vs q => by rw [hd'] at q; cases q⟩
  have aC : a ≠ ce.locals := fun z => by
    rw [z, hoC] at he
    exact hdC vs (by rw [Option.some.inj he]; exact hd)
  have TC : T ≠ ce.locals := fun z => by
    rw [z, hoC] at hT
    exact hdC ts (by rw [Option.some.inj hT]; exact hdT)
  -- the ground without the block's names
  obtain ⟨B2, g1, g2⟩ := restrict B fun b => decide (b ≠ ce.locals)
  have B2i : ∀ b o, b ≠ ce.locals → B.get? b = some o → B2.get? b = some o := fun b o hb e => by rw [g1 b (by simp [hb])]; exact e
  have B2o : ∀ b o, B2.get? b = some o → b ≠ ce.locals ∧ B.get? b = some o := fun b o e => by
    by_cases hb : b = ce.locals
    · rw [g2 b (by simp [hb])] at e; cases e
    · rw [g1 b (by simp [hb])] at e; exact ⟨hb, e⟩
  have B2n : ∀ b, B.get? b = none → B2.get? b = none := fun b e => by
    cases q : B2.get? b with
    | none => rfl
    | some o => rw [(B2o b o q).2] at e; cases e
  have held4 : HandSPX.HeldZ B2 X.stack a (Zc cls d) X.env.locals h4 := by
    refine ⟨fun b o e => ?_, B2n a b0, funFrames_none (Heap.FunFrames.sameBut sb4 ns4 f1) fun L hL => B2n L (f1.mem hL).1, oe, vs, T, oT, ts, (sb4.2 a aC).trans he, hz, hd, h1, B2n T hnT, hTe, (sb4.2 T TC).trans hT, hdT, ht3⟩
    obtain ⟨hb, e2⟩ := B2o b o e
    exact (sb4.2 b hb).trans (b1 b o e2)
  unfold PySem.passOn
  refine wpAny_bind (wpAny_field ((sb4.2 a aC).trans he) hd h1 ?_)
  rw [if_neg (show ¬ ((Value.ref T == Value.none) = true) from by simp), cf, hf]
  refine wpAny_bind (HandSPX.setFlight_onZ (s := { s' with heap := h4 }) held4 fun h5 held5 up5 => wpAny_throw (tk _ _ ?_))
  -- the state without the exception
  obtain ⟨G, k1, k2⟩ := restrict h5 fun b => (B2.get? b).isSome || decide (b ∈ frs X.stack)
  have st5 : B2.StaysIn h5 := held5.1
  have gB : ∀ b o, B2.get? b = some o → G.get? b = some o := fun b o e => by
    rw [k1 b (by simp [e])]
    exact st5 b o e
  have gF : ∀ b, b ∈ frs X.stack → G.get? b = h5.get? b := fun b hb => k1 b (by simp [hb])
  have og : ∀ b o, G.get? b = some o → h5.get? b = some o ∧ ((B2.get? b).isSome = true ∨ b ∈ frs X.stack) := fun b o e => by
    cases q : ((B2.get? b).isSome || decide (b ∈ frs X.stack)) with
    | false => rw [k2 b q] at e; cases e
    | true =>
      rw [k1 b q] at e
      exact ⟨e, by simpa [Bool.or_eq_true] using q⟩
  have base := Ib.base
  have slots : ∀ b o, s3.heap.get? b = some o → b ∈ frs X.stack → b ∉ fp → ∃ sl, G.get? b = some { o with slots := sl } := fun b o e hb hx => by
    obtain ⟨_, o', e', hnf⟩ := I3.stack.mem hb
    rw [e] at e'
    obtain rfl : o = o' := Option.some.inj e'
    obtain ⟨s1, q1⟩ := base.slot b o e (I3.stkFree b hb) hb hx
    obtain ⟨s2, q2⟩ := ub.slot b _ q1 hb
    obtain ⟨s3', q3⟩ := up b _ q2 hnf
    obtain ⟨s5, q5⟩ := up5 b _ ((sb4.2 b (below b o e)).trans q3) hnf
    exact ⟨s5, by rw [gF b hb]; exact q5⟩
  have there : ∀ b o, s3.heap.get? b = some o → b ∉ frs X.stack → b ∉ fp → ∃ o', G.get? b = some o' := fun b o e hb hx => by
    obtain ⟨o1, q1⟩ := base.there b o e hx
    obtain ⟨o2, q2⟩ := ub.there b o1 q1 hb
    exact ⟨o2, gB b o2 (B2i b o2 (below b o e) q2)⟩
  have un : Un (frs X.stack) fp H3 H' s3.heap G :=
    ⟨fun b o e n hb hx => gB b o (B2i b o (below b o e) (ub.keep b o (base.keep b o e n hb hx) (base.free b o e n hx) hb)), fun b o e n hb hx => slots b o e hb hx,
      fun b o e n hx => by
        obtain ⟨o1, q1⟩ := base.there b o e hx
        exact ub.free b o1 q1 (base.free b o e n hx),
      fun b o e hx => by
        by_cases hb : b ∈ frs X.stack
        · obtain ⟨sl, q⟩ := slots b o e hb hx
          exact ⟨_, q⟩
        · exact there b o e hb hx,
      fun b xs e => ub.tups b xs (base.tups b xs e), fun b o v e => ub.frzs b o v (base.frzs b o v e), fun b ps e => by
        obtain ⟨m1, q1⟩ := base.tbls b ps e
        obtain ⟨m2, q2⟩ := ub.tbls b _ q1
        exact ⟨m1 ++ m2, by rw [q2, Array.append_assoc]⟩⟩
  have hokG : HOk X.prog X.w H' G := fun b o q => (hok b o q).stay (fun e w he r => gB e w (B2i e w (fun z => by
    subst z
    rcases he with he | he
    · rw [he, q] at hC'; cases hC'
    · rw [he] at hC'; cases hC') r)) (fun _ r => r) fun _ _ r => r
  refine ⟨a, B2, { s3 with heap := G, gens := s'.gens, drawn := s'.drawn, toks := s'.toks }, pins, σ, H', cls, d, rfl, ?_, fun b o e hb => ?_, Heap.UpToSlots.of_keeps fun b o e => (og b o e).1, .inr (.inr held5), na, os.trans Ib.os, ag, hW _ _ _ hE⟩
  · exact I3.call' (ch := fp) (s' := { s3 with heap := G, gens := s'.gens, drawn := s'.drawn, toks := s'.toks }) rfl un hokG ag fun b hb => ⟨(hfp b hb).2.2.2.1, (hfp b hb).2.1, (hfp b hb).2.2.2.2.1, (hfp b hb).2.2.2.2.2⟩
  · obtain ⟨e', h⟩ := og b o e
    rcases h with h | h
    · obtain ⟨o', q⟩ := Option.isSome_iff_exists.mp h
      have z := st5 b o' q
      rw [e'] at z
      rw [Option.some.inj z]
      exact q
    · exact absurd h hb
/-- [elt for target in iter], the element's reading may hold wishes of an exception -/
theorem pe_lcX {elt tg iter : Expr} {scope : Scope} {own : List (Str × Nat)} {pos : Pos} {wi : TI} {g : TG} {te : TE} (hs : X.stack = X.env :: X.outer) (hf : X.env.frame = some X.env.locals) {W : WX} (tk : Takes X W) {Wh : XK} (hW : ∀ cls d σ' H', Wh cls d H' → W cls d σ' H')
    (hc : X.calm = true) (hN : X.N.Nodup) (hi : PI X tg iter wi) (ok : BlkOk X.N X.env.scope scope own)
    (hg : ∀ (s : Shared) (H : Hp) (C : Addr) (cs : List (Str × Addr)) (fp : List Addr), PG (BlkX X scope s H (compEnvC scope cs C X.env) fp) tg g)
    (he : ∀ (s : Shared) (H : Hp) (C : Addr) (cs : List (Str × Addr)) (fp : List Addr), (∀ σ', PassesAt (L2.CX X.prog X.w) (BlkX X scope s H (compEnvC scope cs C X.env) fp) σ' Wh) → PE (BlkX X scope s H (compEnvC scope cs C X.env) fp) elt te)
    (hfold : ∀ x, foldedSetIterable iter X.env x = pure x := by intro _; rfl) :
    PE X (.ListComp elt [⟨tg, iter, [], 0⟩] scope pos) (tLc wi g tYes te (own.map (·.2))) := by
  refine ⟨fun pins s σ H Q I h => ?_⟩
  rw [eval_ListComp]
  have captured : ∀ y ∈ scope.names, y.2 = .free → ∃ c, X.env.cells.lookup y.1 = some c := fun y hy e => (ok.free y hy e).elim (fun z => I.ok.has _ (.inl z)) fun z => I.ok.has _ (.inr z)
  refine comprehension_at (use := none) rfl hfold (closure_ok captured) ok.kind (fun y hy e => (ok.uniq y hy).trans (by rw [e])) (thn (hi.run pins s σ H _ I h) fun v0 t1 k1 => thn k1 fun v1 t2 k2 => ?_)
  obtain ⟨it, fp, tn, J, H2, e1, I2, T, st2, f2, q⟩ := k2
  subst e1
  refine wpAny_newObj_type (newEnv_comp ?_) (Nat.zero_le _)
  generalize eD : t2.heap.objs.size = D
  have freeD : H2 D = none := I2.hok.fresh (Nat.le_of_eq eD)
  obtain ⟨Wt, ⟨m0, w0⟩, turn⟩ := q D freeD
  generalize e3 : ({ t2 with heap := t2.heap.push { cls := .type "list", data := .seq ([] : List Value).toArray } } : Shared) = t3
  have h3 : t3.heap = t2.heap.push { cls := .type "list", data := .seq ([] : List Value).toArray } := by rw [← e3]
  have I3 : Inv X pins σ (upd H2 D (.lst [])) t3 := by
    rw [← e3]
    exact I2.laid (t' := t2.toks) (fun b o z => Heap.get?_push_of_some _ z) (Nat.le_of_eq eD) ⟨Nat.zero_le _, [], 0, .nil, by rw [← eD]; exact Heap.get?_push_size _ rfl⟩
  have small : ∀ b ∈ fp, b < t2.heap.objs.size := fun b hb => let ⟨_, z, _⟩ := T.obj _ _ st2 b hb; Heap.lt_size z
  have f3 : ∀ b ∈ fp, FpOk X pins (upd H2 D (.lst [])) b ∧ b < t3.heap.objs.size := fun b hb => by
    have lt := small b hb
    have nD : b ≠ D := by rw [← eD]; exact Nat.ne_of_lt lt
    refine ⟨⟨by rw [upd_ne nD]; exact (f2 b hb).1, (f2 b hb).2⟩, ?_⟩
    rw [h3, Heap.size_push]
    exact Nat.lt_succ_of_lt lt
  have st3 : tn 0 t3.heap := T.keep _ _ _ st2 fun b _ o z => by rw [h3]; exact Heap.get?_push_of_some _ z
  have I4 := block_start I3 ok hN f3
  have pg := hg t3 (upd H2 D (.lst [])) t3.heap.objs.size (cellsFrom (t3.heap.objs.size + 1) scope.names (cloFrom X.env.cells scope.names [])) fp
  have pe := he t3 (upd H2 D (.lst [])) t3.heap.objs.size (cellsFrom (t3.heap.objs.size + 1) scope.names (cloFrom X.env.cells scope.names [])) fp fun σ' pb Hb sb u s' Ib c =>
    blk_passes hs hf tk I3 (fun cls d H' => hW cls d σ H') (ce := compEnvC scope _ t3.heap.objs.size X.env) rfl rfl (fun b hb => (f3 b hb).1) Ib c
  show codeAny _ _ (.compStart (.ListComp elt [⟨tg, iter, [], 0⟩] scope pos) 0 (.ref it) (.ref D) (compEnvC scope (cellsFrom (t3.heap.objs.size + 1) scope.names (cloFrom X.env.cells scope.names [])) t3.heap.objs.size X.env))
    (compEnds (model X.prog X.w) X.A X.xe none (EP X pins σ Q) (.ref D) (compEnvC scope (cellsFrom (t3.heap.objs.size + 1) scope.names (cloFrom X.env.cells scope.names [])) t3.heap.objs.size X.env)) { t3 with heap := pushCells (t3.heap.push { cls := .type "dict", data := .dict #[] }) scope.names }
  have nfp : ∀ b ∈ fp, (upd H2 D (.lst [])) b = none := fun b hb => (f3 b hb).1.1
  generalize hce : compEnvC scope (cellsFrom (t3.heap.objs.size + 1) scope.names (cloFrom X.env.cells scope.names [])) t3.heap.objs.size X.env = ce at I4 pg pe ⊢
  have cL : ce.locals = t3.heap.objs.size := by subst hce; rfl
  generalize hH3 : upd H2 D (.lst []) = H3 at I3 I4 pg pe w0 nfp f3
  generalize e4 : ({ t3 with heap := pushCells (t3.heap.push { cls := .type "dict", data := .dict #[] }) scope.names } : Shared) = t4 at I4 ⊢
  have I4x : Inv (BlkX X scope t3 H3 ce fp) [] (L2.wipe σ (own.map (·.2))) H3 t4 := Inv.xeTo I4
  have st4 : tn 0 t4.heap := T.keep _ _ _ st3 fun b _ o z => by rw [← e4]; exact pushCells_keeps _ _ _ _ (Heap.get?_push_of_some _ z)
  have foot : ∀ {σ' : L2.St} {H' : Hp} {s' : Shared}, Inv (BlkX X scope t3 H3 ce fp) [] σ' H' s' → (∀ b ∈ fp, H' b = none) → ∀ b ∈ fp, FpOk (BlkX X scope t3 H3 ce fp) [] H' b := fun {σ' H' s'} I' hn b hb =>
    ⟨hn b hb, (I'.ok.exf b hb).1, I'.ok.exfs b hb, .inl hb, (I'.ok.exf b hb).2, fun p hp => by cases hp⟩
  have loop : codeAny (model X.prog X.w) X.A (.compLoop (.ListComp elt [⟨tg, iter, [], 0⟩] scope pos) 0 (.ref it) (.ref D) ce) (compEnds (model X.prog X.w) X.A X.xe none (EP X pins σ Q) (.ref D) ce) t4 := by
    refine compLoop_any (fun n s' => ∃ i H', Inv (BlkX X scope t3 H3 ce fp) [] (L2.wipe σ (own.map (·.2))) H' s' ∧ tn i s'.heap ∧ (∀ b ∈ fp, H' b = none) ∧ Wt i n H') ?_ m0 ⟨0, H3, I4x, st4, nfp, w0⟩
    rintro n t5 ⟨i, H5, I5, st5, n5, w5⟩
    rcases turn i n H5 w5 with ⟨stop, last⟩ | ⟨go, Nx, hNx, step⟩
    · refine thnF (T.done (BlkX X scope t3 H3 ce fp) rfl rfl rfl hc i [] t5 _ H5 (fun _ _ => False) I5 (foot I5 n5) st5 stop) fun r t6 ⟨hr, I6⟩ => ?_
      subst hr
      have I7 : Inv X pins σ H5 t6 := I3.call' (ch := fp) I6.os I6.base I6.hok I6.bare fun b hb => ⟨(f3 b hb).1.2.2.2.1, (f3 b hb).1.2.1, (f3 b hb).1.2.2.2.2.1, (f3 b hb).1.2.2.2.2.2⟩
      obtain ⟨m, nsm, _⟩ := I6.loc
      have nsm : t6.heap.Ns ce.locals m := nsm
      have nC : H5 t3.heap.objs.size = none := by
        have z : H5 ce.locals = none := I6.free
        rwa [cL] at z
      obtain ⟨z0, z1, z2, z3, z4, z5⟩ := I3.fpOk (Nat.le_refl _) nC
      exact ⟨m, nsm, fun h' sb => ⟨.ref D, H5, I7.turned (t' := t6.toks) (fun b o hb e => (sb.2 b (by rw [cL]; exact hb)).trans e) z0 z1 z3 z4 z5, rfl, last⟩⟩
    · refine thnF (T.item (BlkX X scope t3 H3 ce fp) rfl rfl rfl hc i [] t5 _ H5 (fun _ _ => False) I5 (foot I5 n5) st5 go) fun r t6 ⟨u, hr, k6⟩ => ?_
      subst hr
      refine thnF k6 fun _ t7 ⟨x, H7, I7, r7, y7, st7, n7⟩ => ?_
      have I7' := I7.pinned (foot I7 n7) (T.obj _ _ st7)
      refine thn (pg.run _ t7 _ H7 x u _ I7' r7 (step x H7 y7)) fun _ t8 ⟨σ8, H8, I8, hw8, q8⟩ => ?_
      have fin : ∀ {s' : Shared} {H' : Hp}, Inv (BlkX X scope t3 H3 ce fp) ([] ++ pinsAt fp t7.heap) σ8 H' s' → Nx H' → ∃ m, m < n ∧ ∃ i H', Inv (BlkX X scope t3 H3 ce fp) [] (L2.wipe σ (own.map (·.2))) H' s' ∧ tn i s'.heap ∧ (∀ b ∈ fp, H' b = none) ∧ Wt i m H' := fun {s' H'} I' nx => by
        obtain ⟨m', lt, w'⟩ := hNx H' nx
        have pin : ∀ b ∈ fp, ∀ o, t7.heap.get? b = some o → s'.heap.get? b = some o ∧ H' b = none := fun b hb o e =>
          let z := I'.pin (b, o) (List.mem_append_right _ (List.mem_append_right _ (mem_pinsAt hb e)))
          ⟨z.1, z.2.1⟩
        have len8 : (L2.wipe σ (own.map (·.2))).length = σ8.length := by rw [← hw8, wipe_length]
        refine ⟨m', lt, i + 1, H', (I'.unpinned (pins := [])).weak len8 (fun j v e => ?_), T.keep _ _ _ st7 fun b hb o e => (pin b hb o e).1, fun b hb => ?_, w'⟩
        · rw [← hw8] at e
          exact (wipe_some e).1
        · obtain ⟨o, e, _⟩ := T.obj _ _ st7 b hb
          exact (pin b hb o e).2
      refine wpAny_tests_nil ?_
      simp only [if_true]
      have q8 : te σ8 H8 fun y H4 => ∃ acc, H4 D = some (.lst acc) ∧ acc.length < sizeLine ∧ Nx (upd H4 D (.lst (acc ++ [y]))) := q8
      refine thn (pe.run _ t8 σ8 H8 _ I8 q8) fun z t9 ⟨yv, H9, I9, r9, acc, hD9, hz9, nx⟩ => ?_
      exact app_ok (X := BlkX X scope t3 H3 ce fp) I9 hD9 hz9 r9 fun t10 I10 => fin I10 nx
  exact codeAny_compStart_list loop (T.self X.A 0 _ _ _ st4 loop)
end
end Wm

set_option Elab.async false
set_option linter.all false
set_option maxRecDepth 100000
set_option maxHeartbeats 4000000
/-! WmCy: name = tuple([f(..) for target in iter]), f a def that may raise. -/
namespace Wm
open PySem PySem.Spec PyProof.Rows L2
section
variable {X : Cx} {ds : List Sl} {tg iter e : Expr} {es : List Expr} {scope : Scope} {O : Outs}
def gX (X : Cx) (scope : Scope) (tg : Expr) : TG := fun v σ H Q => ∀ (s : Shared) (H' : Hp) (C : Addr) (cs : List (Str × Addr)) (fp : List Addr), WG (BlkX X scope s H' (compEnvC scope cs C X.env) fp) tg v σ H Q
def aX (X : Cx) (scope : Scope) (es : List Expr) : TA := fun σ H Q => ∀ (s : Shared) (H' : Hp) (C : Addr) (cs : List (Str × Addr)) (fp : List Addr), WA (BlkX X scope s H' (compEnvC scope cs C X.env) fp) es σ H Q
theorem lcX_read {α : Type} (as : List α) (ι : α → D) (f : α → Option D) (xs : α → List D) {n : Nat} {C0 : Addr} {F : List D → Option D → Prop} {wi : TI} (rd : ∀ (He H0e H0 : Hp) (σ : L2.St) (H : Hp), Env X.K He H0e ds H0 σ H → ∀ R : L2.It → Hp → Prop,
      (∀ J H0' H', Env X.K He H0e ds H0' σ H' → Same H0 H0' → Good X.K H0' J (as.map ι) → R J H') → wi σ H R) (vs : List Nat) (hz : as.length < 16777216)
    (hb : ∀ a ∈ as, ∃ is ds2, (∀ j ∈ is, j ∈ vs) ∧ ds2.length = ds.length ∧ (xs a).length = n ∧ F (xs a) (f a) ∧ ∀ (s : Shared) (H : Hp) (C : Addr) (cs : List (Str × Addr)) (fp : List Addr), G (BlkX X scope s H (compEnvC scope cs C X.env) fp) tg is (wipeD (hideD ds) vs) (ι a) ds2 ∧ EA (BlkX X scope s H (compEnvC scope cs C X.env) fp) ds2 es (xs a))
    {Wh : XK} (He H0e H0 : Hp) (σ : L2.St) (H : Hp) (I : Env X.K He H0e ds H0 σ H) (hfail : ∀ a ∈ as, f a = none → ∀ H', Same He H' → Wh (.ref C0) none H') (Q : VK)
    (q : (∀ a ∈ as, f a ≠ none) → ∀ p' vs' H0' H', Env X.K He H0e ds H0' σ H' → Same H0 H0' → H' p' = none → Dats X.K H0' (as.map fun a => (f a).getD .non) vs' → Q (.ref p') (upd H' p' (.lst vs'))) :
    tLc wi (gX X scope tg) tYes (tCallS (spX X.K n C0 F) (fun _ => Wh) (aX X scope es)) vs σ H Q := by
  refine rd He H0e H0 σ H I _ fun J H1 H' I1 e1 gd D hD => ?_
  obtain ⟨Gw, Y, wk, hG, hY⟩ := gd.walk
  refine lc_it wk (fun k H2 => (∀ a ∈ as.take k, f a ≠ none) ∧ ∃ H0' H2' acc, Env X.K He H0e ds H0' σ H2' ∧ Same H1 H0' ∧ H2' D = none ∧ H2 = upd H2' D (.lst acc) ∧ Dats X.K H0' ((as.take k).map fun a => (f a).getD .non) acc) ⟨by simp, H1, H', [], I1, Same.refl _, hD, rfl, by simpa using Dats.nil⟩
    (fun k H2 _ ⟨_, H0', H2', acc, I', s', n', e2, _⟩ => hG H2 (by rw [e2]; exact (s'.trans I'.ex).trans (Same.new n'))) (fun k v H2 H3 hk ⟨hpre, H0', H2', acc, I', s', n', e2, hacc⟩ hy => ?_) fun H2 ⟨hall, H0', H2', acc, I', s', n', e2, hacc⟩ => ?_
  · rw [List.length_map] at hk
    have he : as[k]? = some as[k] := List.getElem?_eq_getElem hk
    have tk : as.take (k + 1) = as.take k ++ [as[k]] := by rw [List.take_succ, he]; rfl
    obtain ⟨is, ds2, his, hlen, hxn, hF, hall⟩ := hb _ (List.getElem_mem hk)
    have hd' : (as.map ι)[k]? = some (ι as[k]) := by rw [List.getElem?_map, he]; rfl
    have turn : ∀ (H01 H2x : Hp) (v : V), Env X.K He H0e ds H01 σ H2x → Same H0' H01 → H2x D = none → Dat X.K H01 (ι as[k]) v →
        gX X scope tg v (L2.wipe σ vs) (upd H2x D (.lst acc)) fun σ2 H4 => L2.wipe σ2 vs = L2.wipe σ vs ∧ tYes σ2 H4 fun b H5 => if b = true then tCallS (spX X.K n C0 F) (fun _ => Wh) (aX X scope es) σ2 H5 fun y H6 => ∃ acc, H6 D = some (.lst acc) ∧ acc.length < sizeLine ∧
          ((∀ a ∈ as.take (k + 1), f a ≠ none) ∧ ∃ H0' H2' acc', Env X.K He H0e ds H0' σ H2' ∧ Same H1 H0' ∧ H2' D = none ∧ upd H6 D (.lst (acc ++ [y])) = upd H2' D (.lst acc') ∧ Dats X.K H0' ((as.take (k + 1)).map fun a => (f a).getD .non) acc')
          else ((∀ a ∈ as.take (k + 1), f a ≠ none) ∧ ∃ H0' H2' acc, Env X.K He H0e ds H0' σ H2' ∧ Same H1 H0' ∧ H2' D = none ∧ H5 = upd H2' D (.lst acc) ∧ Dats X.K H0' ((as.take (k + 1)).map fun a => (f a).getD .non) acc) := by
      intro H01 H2x v J1 t1 nD hv s0 H0x C cs fp
      obtain ⟨hg, hel⟩ := hall s0 H0x C cs fp
      have sD : Same H2x (upd H2x D (.lst acc)) := Same.new nD
      have B := (J1.block sD).wipe vs
      have back : ∀ (H02 H4 : Hp) (dsx : List Sl) (σx : L2.St), Env X.K (upd H2x D (.lst acc)) H01 dsx H02 σx H4 → Env X.K He H0e ds H02 σ (fun a => if a = D then none else H4 a) ∧ Same H01 H02 ∧ H4 = upd (fun a => if a = D then none else H4 a) D (.lst acc) := by
        intro H02 H4 dsx σx J2
        have hD4 : H4 D = some (.lst acc) := J2.exE D _ upd_same
        have hD0 : H02 D = none := J2.sep D ⟨_, upd_same, fun _ z => by cases z⟩ (J1.h0none nD)
        refine ⟨J1.after J2.ex0 (fun a o h => ?_) (fun a o h => ?_) (fun a h1 h2 => J2.sep a (h1.mono sD) h2), J2.ex0, ?_⟩
        · have z : a ≠ D := fun z => by rw [z, nD] at h; cases h
          rw [if_neg z]
          exact J2.exE a o (sD a o h)
        · have z : a ≠ D := fun z => by rw [z, hD0] at h; cases h
          rw [if_neg z]
          exact J2.ex a o h
        · funext a
          by_cases z : a = D
          · subst z; rw [upd_same]; exact hD4
          · rw [upd_ne z, if_neg z]
      refine hg _ _ H01 _ _ v B hv _ fun H02 σ2 H4 J2 u2 ks => ⟨?_, ?_⟩
      · rw [wipe_eq (τ := L2.wipe σ vs) (by rw [← J2.len, hlen, J1.len, wipe_length]) (fun j hj => ks j fun z => hj (his j z))]
        refine wipe_eq (by rw [wipe_length]) fun j hj => wipe_out hj
      · dsimp only [tYes]
        rw [if_pos rfl]
        intro s1 H0y C1 cs1 fp1
        obtain ⟨_, hel⟩ := hall s1 H0y C1 cs1 fp1
        refine hel _ _ H02 σ2 H4 J2 _ fun ws H03 H5 J3 u3 dw => ?_
        refine ⟨H03, xs as[k], f as[k], J3.ex, dw, hxn, hF, fun d hd y H04 H6 s1' s2' s3' s4' dy => ?_, fun hn H6 s6 => ?_⟩
        · have J4 := J3.after s1' s2' s3' s4'
          obtain ⟨b1, b2, b3⟩ := back H04 H6 _ _ J4
          have accl : acc.length < sizeLine := by
            rw [← hacc.len, List.length_map, sizeLine_eq, List.length_take]
            omega
          refine ⟨acc, J4.exE D _ upd_same, accl, fun a ha => ?_, H04, _, acc ++ [y], b1, (s'.trans t1).trans b2, if_pos rfl, ?_, ?_⟩
          · rw [tk] at ha
            rcases List.mem_append.mp ha with ha | ha
            · exact hpre a ha
            · rw [List.mem_singleton.mp ha, hd]
              exact fun z => nomatch z
          · rw [b3, upd_upd, ← b3]
          · rw [tk, List.map_append]
            refine (Dats.mono (t1.trans b2) _ hacc).app (Dats.one ?_)
            show Dat X.K H04 ((f as[k]).getD .non) y
            rw [hd]
            exact dy
        · refine hfail _ (List.getElem_mem hk) hn H6 ?_
          exact ((J1.exE.trans sD).trans J3.exE).trans s6
    subst e2
    rcases hY k _ v H3 _ ((s'.trans I'.ex).trans (Same.new n')) hd' hy with ⟨rfl, hv⟩ | ⟨p', vs', es', rfl, hp', rfl, hes, hv⟩
    · exact turn H0' H2' v I' (Same.refl _) n' (Dat.mono s' _ hv)
    · have ne : p' ≠ D := fun z => by rw [z, upd_same] at hp'; cases hp'
      have hp2 : H2' p' = none := by rw [upd_ne ne] at hp'; exact hp'
      have n0 := I'.h0none hp2
      have comm : upd (upd H2' D (.lst acc)) p' (.tup vs') = upd (upd H2' p' (.tup vs')) D (.lst acc) := by
        funext a
        by_cases z : a = p'
        · subst z; rw [upd_same, upd_ne ne, upd_same]
        · rw [upd_ne z]
          by_cases z2 : a = D
          · subst z2; rw [upd_same, upd_same]
          · rw [upd_ne z2, upd_ne z2, upd_ne z]
      rw [comm]
      refine turn (upd H0' p' (.tup vs')) (upd H2' p' (.tup vs')) _ (I'.new hp2) (Same.new n0) (by rw [upd_ne ne.symm]; exact n') ?_
      rw [hes]
      exact dat_tup.mpr ⟨p', vs', rfl, SqT.of upd_same, Dats.mono (s'.trans (Same.new n0)) _ hv⟩
  · rw [List.length_map, List.take_length] at hacc hall
    subst e2
    exact q hall D acc H0' H2' I' (e1.trans s') n' hacc
/-- name = tuple([f(e, ..) for target in iter]) -/
theorem S.asgTupX {α : Type} (own : List (Str × Nat)) (as : List α) (ι : α → D) (f : α → Option D) (xs : α → List D) (i : Nat) {k : Nat} {x n : Str} {ps : List Str} {C0 : Addr} {F : List D → Option D → Prop} {p tp pos lpos cpos pos' spos : Pos} {rest : List Stmt}
    (Gd : DefX X.prog X.w X.K X.mg X.base k x ps C0 F) (hr : Room k X.A) (B : Bi X) (hi : It X tg iter ds (as.map ι)) (ok : BlkOk X.N X.env.scope scope own) (hz : as.length < 16777216)
    (hb : ∀ a ∈ as, ∃ is ds2, (∀ j ∈ is, j ∈ own.map (·.2)) ∧ ds2.length = ds.length ∧ (xs a).length = ps.length ∧ F (xs a) (f a) ∧ ∀ (s : Shared) (H : Hp) (C : Addr) (cs : List (Str × Addr)) (fp : List Addr),
      G (BlkX X scope s H (compEnvC scope cs C X.env) fp) tg is (wipeD (hideD ds) (own.map (·.2))) (ι a) ds2 ∧ EA (BlkX X scope s H (compEnvC scope cs C X.env) fp) ds2 (e :: es) (xs a))
    (hok : (∀ a ∈ as, f a ≠ none) → S X rest (ds.set i (.d (.tup (as.map fun a => (f a).getD .non)))) O) (hex : (∃ a ∈ as, f a = none) → O.ex (.ref C0))
    (hgx : ∀ (s : Shared) (H : Hp) (C : Addr) (cs : List (Str × Addr)) (fp : List Addr), Gl (BlkX X scope s H (compEnvC scope cs C X.env) fp) x)
    (hst : ∀ (s : Shared) (H : Hp) (C : Addr) (cs : List (Str × Addr)) (fp : List Addr), starEach (e :: es) (compEnvC scope cs C X.env) = (false, eval e (compEnvC scope cs C X.env)) :: starEach es (compEnvC scope cs C X.env))
    (hpl : ∀ (C : Addr) (cs : List (Str × Addr)), (backTo cpos (starEach es (compEnvC scope cs C X.env))).any (·.1) = false)
    (hN : X.N.Nodup := by first | assumption | decide +kernel) (hni : X.N[i]? = some n := by rfl) (hx : Loc X.env.scope n := by first | exact Or.inl rfl | exact Or.inr rfl)
    (hs : X.stack = X.env :: X.outer := by rfl) (hf : X.env.frame = some X.env.locals := by rfl) (hgt : Gl X "tuple" := by rfl) (hdb : (x == ("__debug__" : Str)) = false := by decide)
    (hsw : swapsWith (.Call (.Name "tuple" tp) [.ListComp (.Call (.Name x p) (e :: es) [] cpos) [⟨tg, iter, [], 0⟩] scope lpos] [] pos) (some (.Name n pos')) spos.line X.env = pure false := by rfl)
    (hfn : X.fn n = true ∨ X.env.scope.names.lookup n = some .local := by first | exact .inl rfl | exact .inr rfl) (hfs : ∀ x, foldedSetIterable iter X.env x = pure x := by intro _; rfl)
    (hse : starEach [Expr.ListComp (.Call (.Name x p) (e :: es) [] cpos) [⟨tg, iter, [], 0⟩] scope lpos] X.env = (false, eval (.ListComp (.Call (.Name x p) (e :: es) [] cpos) [⟨tg, iter, [], 0⟩] scope lpos) X.env) :: starEach [] X.env := by rfl) (hpt : (backTo pos (starEach [] X.env)).any (·.1) = false := by rfl) :
    S X (.Assign [.Name n pos'] (.Call (.Name "tuple" tp) [.ListComp (.Call (.Name x p) (e :: es) [] cpos) [⟨tg, iter, [], 0⟩] scope lpos] [] pos) spos :: rest) ds O := S.mk fun He H0e H0 σ H I D M => by
  obtain ⟨wi, pi, rd⟩ := hi
  obtain ⟨fa, fd, h1, h2, h3, h4⟩ := Gd
  -- what is wished of an exception
  obtain ⟨W, Wh, tk, hW, hfail⟩ : ∃ (W : WX) (Wh : XK), Takes X W ∧ (∀ cls d (σ' : L2.St) H', Wh cls d H' → W cls d σ' H') ∧ ∀ a ∈ as, f a = none → ∀ H', Same He H' → Wh (.ref C0) none H' := by
    by_cases c : ∃ a ∈ as, f a = none
    · obtain ⟨W, tk, hw⟩ := M.ex _ (hex c)
      exact ⟨W, fun cls d H' => cls = .ref C0 ∧ d = none ∧ Same He H', tk, fun cls d σ' H' ⟨e1, e2, e3⟩ => by subst e1 e2; exact hw σ' H' e3, fun _ _ _ H' e => ⟨rfl, rfl, e⟩⟩
    · exact ⟨fun _ _ _ _ => False, fun _ _ _ => False, takes0, fun _ _ _ _ z => z.elim, fun a ha hn => absurd ⟨a, ha, hn⟩ c⟩
  refine WSs_of (pss_cons (ps_set hN hni hx (pe_callTy call_tuple_of hgt B.tuple (by decide +kernel) (pa_cons (pe_lcX (own := own) (g := gX X scope tg) (te := tCallS (spX X.K ps.length C0 F) (fun _ => Wh) (aX X scope (e :: es))) hs hf tk hW B.calm hN pi ok
    (fun s H C cs fp => ⟨fun pins s' σ H' v u Q I r h => h s H C cs fp pins s' u I r⟩)
    (fun s H C cs fp hx => pe_callS h1 hr (hgx s H C cs fp) h2 h3 h4 hx ⟨fun pos pins s' σ H' Q I h => h s H C cs fp pos pins s' I⟩ hdb (hst s H C cs fp) (hpl C cs)) hfs) pa_nil hse) (by decide) (by decide) hse hpt) hsw hfn) (pss_WS (sts := rest))) ?_
  unfold tSeq tAsg tCB tCons
  refine lcX_read as ι f xs rd _ hz hb He H0e H0 σ H I hfail _ fun hall r vs H1 H' I1 e1 hr' d1 => ?_
  have I2 := I1.new (o := .lst vs) hr'
  refine ⟨r, vs, rfl, .inl ⟨SqL.of upd_same, fun l hl => ?_⟩⟩
  have I3 := I2.new (o := .tup vs) hl
  have s3 : Same H1 (upd (upd H1 r (.lst vs)) l (.tup vs)) := (Same.new (I1.h0none hr')).trans (Same.new (I2.h0none hl))
  exact hok hall He H0e _ _ _ (I3.set i (dat_tup.mpr ⟨l, vs, rfl, SqT.of upd_same, Dats.mono s3 _ d1⟩)) D (M.mono (e1.trans s3))
end
end Wm

set_option Elab.async false
set_option linter.all false
set_option maxRecDepth 100000
set_option maxHeartbeats 4000000
/-! WmZ: a set of pairs of texts that are all unlike; sorted of it. -/
namespace Wm
open PySem PySem.Spec PyProof.Rows L2

abbrev hP (P : Program) (w : World) (k : List L2.Key) : Int := tupleKeyHash (mixKind P w) k
abbrev IsP (P : Program) (w : World) (h : Heap) (k : List L2.Key) (a : Addr) : Prop := IsTupleKey (mixKind P w) h k a
/-- an address and what stands there -/
abbrev AK := Addr × List L2.Key
def rowP (P : Program) (w : World) (p : AK) : Int × Value := (hP P w p.2, .ref p.1)
/-- the set's table holds L -/
structure SetO (P : Program) (w : World) (L : List AK) (es : Array (Int × Value)) (t : SetTable) : Prop where
  rows : es.toList.Perm (L.map (rowP P w))
  tab : TabOk t (es.toList.map (·.1))
  led : w.params.followText "set-order" = true ∨ t.led = true
  room : L.length * 5 < t.mask * 3
  few : L.length < 64
/-- the set stands at a -/
def AtP (h : Heap) (a : Addr) (es : Array (Int × Value)) (ep : Nat) (t : SetTable) : Prop := ∃ o, h.get? a = some o ∧ o.ExactSet ∧ o.data = .set es ep t
section
variable {P : Program} {w : World} {A : Around} {E : Value → Shared → Prop} {s : Shared} {a : Addr} {L : List AK} {es : Array (Int × Value)} {ep : Nat} {t : SetTable}
theorem SetO.size (R : SetO P w L es t) : es.size = L.length := by
  have h := R.rows.length_eq
  rw [Array.length_toList, List.length_map] at h
  exact h
theorem SetO.place (R : SetO P w L es t) : t.place.size = es.size := by
  have h := R.tab.sz
  rw [List.length_map, Array.length_toList] at h
  exact h
theorem fits_of (hd : t.dummies = #[]) (h1 : t.place.size = es.size) (h2 : es.size ≤ t.mask) : t.fits es.size = true := by
  unfold SetTable.fits SetTable.fill
  rw [hd, Bool.and_eq_true, beq_iff_eq, decide_eq_true_eq]
  show t.place.size = es.size ∧ t.place.size + 0 ≤ t.mask
  omega
theorem SetO.fits (R : SetO P w L es t) : t.fits es.size = true := by
  have h1 := R.size
  have h2 := R.room
  exact fits_of R.tab.dm R.place (by omega)
/-- the entry behind a slot -/
theorem SetO.row (R : SetO P w L es t) {i j : Nat} (h : t.place.toList[i]? = some j) : ∃ p ∈ L, es[i]? = some (rowP P w p) := by
  have h1 : i < es.size := by
    rw [← R.place, ← Array.length_toList]
    exact (List.getElem?_eq_some_iff.mp h).1
  have h2 : es[i]? = some es[i] := Array.getElem?_eq_getElem h1
  have h3 : es[i] ∈ L.map (rowP P w) := R.rows.mem_iff.mp (by simp)
  obtain ⟨p, hp, e⟩ := List.mem_map.mp h3
  exact ⟨p, hp, by rw [h2, ← e]⟩
theorem SetO.nil (h : w.params.followText "set-order" = true ∨ t.led = true) (h2 : t = .fresh 0 0 t.led) : SetO P w [] #[] t := by
  rw [h2] at h ⊢
  exact ⟨.nil, ⟨List.Pairwise.nil, rfl, rfl, .inl rfl, fun x hx => (by cases hx), fun i h j hi => (by simp at hi)⟩, h, (by show 0 * 5 < 7 * 3; decide), (by decide)⟩

/-! what the search asks of tuples of texts -/
theorem texts_of {k : List L2.Key} {vs : List Value} (h : PySem.ItemsAre (mixKind P w) k vs) : ∀ v ∈ vs, (∃ i t, v = Value.int i t) ∨ ∃ x t, v = Value.str x t := by
  induction h with
  | nil => intro v hv; cases hv
  | cons h1 _ ih =>
    intro v hv
    rcases List.mem_cons.mp hv with e | hv
    · subst e
      rcases keyIs_shape h1 with ⟨i, t, _, e⟩ | ⟨x, t, _, e⟩
      · exact .inl ⟨i, t, e⟩
      · exact .inr ⟨x, t, e⟩
    · exact ih v hv
theorem noClass {k : List L2.Key} {b : Addr} {Q : Bool → Shared → Prop} (hk : IsP P w s.heap k b) (h : Q false s) : wpAny (model P w) A (ofAClassStatement 8 (.ref b)) Q E s := by
  have hT := hk.typeIs
  obtain ⟨o, items, n, ho, _, hd, hi⟩ := hk
  unfold ofAClassStatement
  refine wpAny_bind (wpAny_typeOf hT ?_)
  dsimp only
  simp only [show (("tuple" : String) == "tuple") = true from by decide, if_true]
  try refine wpAny_bind (wpAny_pure ?_)
  try simp only [Bool.not_true, Bool.false_eq_true, if_false]
  show wpAny _ _ (seqItems? (.ref b) >>= _) _ _ s
  refine wpAny_bind (wpAny_seqItems ho hd ?_)
  dsimp only
  refine wpAny_bind ?_
  show wpAny _ _ (forIn items _ _) _ _ s
  rw [← Array.forIn_toList]
  refine wpAny_forIn_list _ (fun rest r s' => r.1 = none ∧ s' = s ∧ ∀ v ∈ rest, (∃ i t, v = Value.int i t) ∨ ∃ x t, v = Value.str x t) _ ?_ ?_ _ _ ⟨rfl, rfl, texts_of hi⟩
  · rintro v rest r s' ⟨hr, rfl, hall⟩
    have e : ofAClassStatement 7 v = pure false := by
      rcases hall v List.mem_cons_self with ⟨i, t, rfl⟩ | ⟨x, t, rfl⟩ <;> rfl
    rw [e]
    refine wpAny_bind (wpAny_pure ?_)
    simp only [Bool.false_eq_true, if_false]
    exact wpAny_pure ⟨rfl, rfl, fun u hu' => hall u (List.mem_cons_of_mem _ hu')⟩
  · rintro ⟨r1, r2⟩ s' ⟨hr, rfl, _⟩
    simp only at hr
    subst hr
    exact wpAny_pure h
theorem hashVal {k : List L2.Key} {b : Addr} {Q : Bool → Shared → Prop} (hk : IsP P w s.heap k b) (h : ∀ y, Q y s) : wpAny (model P w) A (hashByValue 8 (.ref b)) Q E s := by
  have hT := hk.typeIs
  obtain ⟨o, items, n, ho, _, hd, hi⟩ := hk
  unfold hashByValue
  refine wpAny_bind (wpAny_specialOf hT F.slot_tuple_hash.lookup ?_)
  show wpAny _ _ (seqItems? (.ref b) >>= _) _ _ s
  refine wpAny_bind (wpAny_seqItems ho hd ?_)
  refine wpAny_bind ?_
  show wpAny _ _ (forIn items _ _) _ _ s
  rw [← Array.forIn_toList]
  refine wpAny_forIn_list _ (fun rest r s' => s' = s ∧ ∀ v ∈ rest, (∃ i t, v = Value.int i t) ∨ ∃ x t, v = Value.str x t) _ ?_ ?_ _ _ ⟨rfl, texts_of hi⟩
  · rintro v rest r s' ⟨rfl, hall⟩
    have hr : ∀ u ∈ rest, (∃ i t, u = Value.int i t) ∨ ∃ x t, u = Value.str x t := fun u hu' => hall u (List.mem_cons_of_mem _ hu')
    rcases hall v List.mem_cons_self with ⟨i, t, rfl⟩ | ⟨x, t, rfl⟩
    · rw [show hashByValue 7 (.int i t) = pure true from rfl]
      refine wpAny_bind (wpAny_pure ?_)
      simp only [Bool.not_true, Bool.false_eq_true, if_false]
      exact wpAny_pure ⟨rfl, hr⟩
    · rw [show hashByValue 7 (.str x t) = pure false from rfl]
      refine wpAny_bind (wpAny_pure ?_)
      simp only [Bool.not_false, if_true]
      first | exact wpAny_pure ⟨rfl, hr⟩ | exact wpAny_pure (wpAny_pure (h _))
  · rintro ⟨r1, r2⟩ s' ⟨rfl, _⟩
    cases r1 with
    | none => exact wpAny_pure (h _)
    | some y => exact wpAny_pure (h _)
theorem unseen {k : List L2.Key} {b : Addr} {Q : Bool → Shared → Prop} (hk : IsP P w s.heap k b) {ys : List Value} (hy : ∀ y ∈ ys, ∃ k' c, y = Value.ref c ∧ IsP P w s.heap k' c) (h : Q false s) :
    wpAny (model P w) A (searchCouldBeSeen (.ref b) ys) Q E s := by
  unfold searchCouldBeSeen
  refine wpAny_bind ?_
  refine wpAny_forIn_list _ (fun rest r s' => r.1 = none ∧ s' = s ∧ ∀ y ∈ rest, ∃ k' c, y = Value.ref c ∧ IsP P w s.heap k' c) _ ?_ ?_ _ _ ⟨rfl, rfl, hy⟩
  · rintro v rest r s' ⟨hr, rfl, hall⟩
    obtain ⟨k', c, rfl, hc⟩ := hall v List.mem_cons_self
    have rest' : ∀ y ∈ rest, ∃ k' c, y = Value.ref c ∧ IsP P w s'.heap k' c := fun u hu' => hall u (List.mem_cons_of_mem _ hu')
    dsimp only
    by_cases hv : (b == c || (carriedByValue (.ref b) && carriedByValue (.ref c))) = true
    · exact wp_if_pos hv (wpAny_pure ⟨rfl, rfl, rest'⟩)
    · refine wp_if_neg hv ?_
      refine wpAny_bind (wpAny_eqIsQuiet_tuple hk ?_)
      simp only [Bool.not_true, Bool.false_eq_true, if_false]
      refine wpAny_bind (wpAny_eqIsQuiet_tuple hc ?_)
      simp only [Bool.not_true, Bool.false_eq_true, if_false]
      refine wpAny_bind (noClass hk ?_)
      simp only [Bool.false_eq_true, if_false]
      refine wpAny_bind (noClass hc ?_)
      simp only [Bool.false_eq_true, if_false]
      exact wpAny_pure ⟨rfl, rfl, rest'⟩
  · rintro ⟨r1, r2⟩ s' ⟨hr, rfl, _⟩
    simp only at hr
    subst hr
    exact wpAny_pure h
theorem nth_clean (m : Nat) : ∀ (n : Nat) (p : SetTable.Probe), p.dummy = none → (nth m p n).dummy = none
  | 0, _, h => h
  | n + 1, p, h => nth_clean m n (adv m p) (by unfold adv; split <;> exact h)
/-! ### the search for what is not there -/
abbrev way0 (m : Nat) (h : Int) : SetTable.Probe := runAt m (SetTable.bits h % (m + 1)) (SetTable.bits h)
theorem seek (R : SetO P w L es t) (hA : AtP s.heap a es ep t) (hL : ∀ p ∈ L, IsP P w s.heap p.2 p.1) {x : Addr} {k : List L2.Key} (hx : IsP P w s.heap k x) (hn : k ∉ L.map (·.2)) (hu : A.units < cLine) {K : Nat} (hKf : K < 10 * SetTable.turns t.mask)
    (hK : way t.mask (hP P w k) K ∉ t.place.toList) (hKb : ∀ c, c < K → way t.mask (hP P w k) c ∈ t.place.toList) {Q : SetFound → Shared → Prop} (hq : Q (.free (way t.mask (hP P w k) K) false) s) :
    ∀ (f c : Nat) (stand : Option SetTable.Probe), stand.getD (t.probeStart (hP P w k)) = nth t.mask (way0 t.mask (hP P w k)) c → c ≤ K → K - c < f →
      wpAny (model P w) A (setSearchFrom a (.ref x) (hP P w k) true f stand) Q E s
  | 0, c, stand, _, _, hf => absurd hf (Nat.not_lt_zero _)
  | f + 1, c, stand, hst, hc, hf => by
    obtain ⟨o, ho, hex, hd⟩ := id hA
    rw [setSearchFrom_succ]
    refine wpAny_bind (wpAny_setState_of ho hd R.fits ?_)
    dsimp only
    have gw : ¬ t.gaveWay = true := by
      unfold SetTable.gaveWay
      rw [mask_odd R.tab.mok]
      decide
    refine wp_if_neg gw ?_
    try refine wpAny_bind (wpAny_pure ?_)
    have sh : ∀ q, nth t.mask (nth t.mask (way0 t.mask (hP P w k)) c) q = nth t.mask (way0 t.mask (hP P w k)) (c + q) := fun q => (nth_add t.mask c _ q).symm
    have e1 : ∀ q, (nth t.mask (nth t.mask (way0 t.mask (hP P w k)) c) q).j = way t.mask (hP P w k) (c + q) := fun q => congrArg SetTable.Probe.j (sh q)
    have spec := go_spec t R.tab.ris R.tab.dm (fun i => (es[i]?.map (·.1)).getD 0) (hP P w k) (10 * SetTable.turns t.mask) (K - c) (nth t.mask (way0 t.mask (hP P w k)) c) (nth_clean t.mask c _ rfl) (by omega)
      (fun q hq => by rw [e1]; exact hKb (c + q) (by omega)) (by rw [e1, show c + (K - c) = K by omega]; exact hK)
    rcases spec with ⟨q, i, hq1, hi, _, _, hpr⟩ | ⟨_, hpr⟩
    · have hpr' : t.probe (fun i => (es[i]?.map (·.1)).getD 0) (hP P w k) (stand.getD (t.probeStart (hP P w k))) = some (.candidate (way t.mask (hP P w k) (c + q)) i (nth t.mask (way0 t.mask (hP P w k)) (c + (q + 1)))) := by
        rw [hst, ← e1, ← sh]
        exact hpr
      rw [hpr']
      dsimp only
      rw [e1] at hi
      obtain ⟨p, hp, he⟩ := R.row hi
      have ne : p.2 ≠ k := fun e => hn (List.mem_map.mpr ⟨p, hp, e⟩)
      have rest : wpAny (model P w) A (searchRest a (.ref x) (hP P w k) true f es t (way t.mask (hP P w k) (c + q)) i (nth t.mask (way0 t.mask (hP P w k)) (c + (q + 1)))) Q E s := by
        unfold searchRest
        rw [he]
        dsimp only [rowP]
        refine wpAny_bind (wpAny_holding (wpAny_eqBool_tuple hu (hL p hp) hx ?_))
        refine wpAny_bind (wpAny_setState_of ho hd R.fits ?_)
        dsimp only
        refine wp_if_neg (by simp [ne]) ?_
        try refine wpAny_bind (wpAny_pure ?_)
        rw [sameMem]
        dsimp only
        have hsl : t.slot (way t.mask (hP P w k) (c + q)) = .live i := slot_live R.tab.ris hi
        simp only [if_true, hsl, he, rowP]
        refine wpAny_bind (wpAny_isSame_ref_self (wpAny_bind (wpAny_pure ?_)))
        simp only [if_true]
        refine wp_if_neg (by simp [ne]) ?_
        exact seek R hA hL hx hn hu hKf hK hKb hq f (c + (q + 1)) _ rfl (by omega) (by omega)
      by_cases hl : t.led = true
      · refine wp_if_neg (by simp [hl]) ?_
        try refine wpAny_bind (wpAny_pure ?_)
        exact rest
      · refine wp_if_pos (by simp [hl]) ?_
        refine wpAny_bind (unseen hx (fun y hy => ?_) ?_)
        · obtain ⟨e, he, ee⟩ := List.mem_map.mp hy
          have he1 : e ∈ es ∧ e.1 = hP P w k := by simpa using he
          have he2 : e ∈ L.map (rowP P w) := R.rows.mem_iff.mp (by simpa using he1.1)
          obtain ⟨p2, hp2, e2⟩ := List.mem_map.mp he2
          exact ⟨p2.2, p2.1, by rw [← ee, ← e2]; rfl, hL p2 hp2⟩
        · refine wp_if_neg (by decide) ?_
          try refine wpAny_bind (wpAny_pure ?_)
          exact rest
    · have hpr' : t.probe (fun i => (es[i]?.map (·.1)).getD 0) (hP P w k) (stand.getD (t.probeStart (hP P w k))) = some (.empty (way t.mask (hP P w k) K) none) := by
        have e2 : way t.mask (hP P w k) K = (nth t.mask (nth t.mask (way0 t.mask (hP P w k)) c) (K - c)).j := by
          rw [e1, show c + (K - c) = K by omega]
        rw [hst, e2]
        exact hpr
      rw [hpr']
      dsimp only
      exact wpAny_pure hq

/-! ### laying anew -/
theorem laid_order (es : Array (Int × Value)) (order : Array Nat) (hp : order.toList.Perm (List.range es.size)) :
    (order.filterMap (es[·]?)).toList.Perm es.toList ∧ (order.filterMap (es[·]?)).toList.map (·.1) = order.toList.map fun i => (es.map (·.1)).getD i 0 := by
  have e0 : (order.filterMap (es[·]?)).toList = order.toList.filterMap fun i => es[i]? := by
    first | exact Array.toList_filterMap | simp
  have all : (List.range es.size).filterMap (fun i => es[i]?) = es.toList := by
    have key : ∀ n, n ≤ es.size → (List.range n).filterMap (fun i => es[i]?) = es.toList.take n := by
      intro n
      induction n with
      | zero => intro _; rfl
      | succ n ih =>
        intro hn
        have hlt : n < es.toList.length := hn
        have e1 : es[n]? = some (es.toList[n]) := by rw [← Array.getElem?_toList, List.getElem?_eq_getElem hlt]
        rw [List.range_succ, List.filterMap_append, ih (Nat.le_of_lt hn), List.take_succ, List.getElem?_eq_getElem hlt, List.filterMap_cons_some e1]
        rfl
    rw [key _ (Nat.le_refl _), List.take_of_length_le (by rw [Array.length_toList]; exact Nat.le_refl _)]
  refine ⟨by rw [e0, ← all]; exact hp.filterMap _, ?_⟩
  rw [e0]
  have key : ∀ l : List Nat, (∀ i ∈ l, i < es.size) → (l.filterMap fun i => es[i]?).map (·.1) = l.map fun i => (es.map (·.1)).getD i 0 := by
    intro l
    induction l with
    | nil => intro _; rfl
    | cons i l ih =>
      intro hl
      have hi := hl i List.mem_cons_self
      have e1 : es[i]? = some es[i] := Array.getElem?_eq_getElem hi
      have e2 : (es.map (·.1)).getD i 0 = es[i].1 := by
        rw [Array.getD_eq_getD_getElem?, Array.getElem?_map, e1]; rfl
      rw [List.filterMap_cons_some e1, List.map_cons, List.map_cons, ih fun j hj => hl j (List.mem_cons_of_mem _ hj), e2]
  exact key _ fun i hi => List.mem_range.mp (hp.mem_iff.mp hi)
theorem relay (hA : AtP s.heap a es ep t) (hr : es.toList.Perm (L.map (rowP P w))) (hsz : t.place.size = es.size) (hdm : t.dummies = #[]) (hfl : es.size ≤ t.mask) (ld : w.params.followText "set-order" = true ∨ t.led = true) (few : L.length < 64) {wanted M : Nat}
    (hw : SetTable.sizeAbove wanted - 1 = M) (hM : MaskOk M) (hw2 : SetTable.sizeAbove wanted ≤ 128) (hn : L.length * 5 < M * 3) {Q : Unit → Shared → Prop}
    (hQ : ∀ h' es' ep' t', Heap.SameBut a s.heap h' → SetO P w L es' t' → AtP h' a es' ep' t' → Q () { s with heap := h' }) : wpAny (model P w) A (setRelay a wanted) Q E s := by
  obtain ⟨o, ho, hex, hd⟩ := hA
  have hsl : es.size = L.length := by
    have h := hr.length_eq
    rw [Array.length_toList, List.length_map] at h
    exact h
  obtain ⟨t', order, e, hp, T, em, el, _, ed⟩ := relaid_ok t (hs := es.map (·.1)) (wanted := wanted) hw hM (by rw [Array.size_map, hsl]; omega)
  rw [Array.size_map] at hp
  obtain ⟨r1, r2⟩ := laid_order es order hp
  rw [← r2] at T
  have hs2 : (order.filterMap (es[·]?)).size = es.size := by rw [← Array.length_toList, r1.length_eq, Array.length_toList]
  rw [setRelay_eq]
  refine wpAny_bind (wpAny_setState_of ho hd (fits_of hdm hsz hfl) ?_)
  dsimp only
  refine wp_if_neg (by rw [sizeLine_eq]; omega) ?_
  try refine wpAny_bind (wpAny_pure ?_)
  rw [e]
  dsimp only
  refine wpAny_bind ?_
  refine wp_if_neg (by rw [hs2]; simp) ?_
  try refine wpAny_bind (wpAny_pure ?_)
  refine wpAny_pure ?_
  dsimp only
  refine wpAny_storeSet_of ho hd ?_ (by rw [hs2, hsl, sizeLine_eq]; omega)
  exact hQ _ (order.filterMap (es[·]?)) (ep + 1) t' (Heap.SameBut.update ..) ⟨r1.trans hr, T, by rw [el]; exact ld, by rw [em]; exact hn, few⟩ ⟨_, L2.store_at ho hd, ⟨hex.1, hex.2.1, hex.2.2⟩, rfl⟩

/-! ### one more -/
theorem addP (R : SetO P w L es t) (hA : AtP s.heap a es ep t) (hL : ∀ p ∈ L, IsP P w s.heap p.2 p.1) {x : Addr} {k : List L2.Key} (hx : IsP P w s.heap k x) (hn : k ∉ L.map (·.2)) (hu : A.units < cLine) (hfew : L.length + 1 < 64) {Q : Bool → Shared → Prop}
    (hQ : ∀ h' es' ep' t', Heap.SameBut a s.heap h' → SetO P w (L ++ [(x, k)]) es' t' → AtP h' a es' ep' t' → Q true { s with heap := h' }) :
    wpAny (model P w) A (setAddHashed a (.ref x) (hP P w k)) Q E s := by
  obtain ⟨o, ho, hex, hd⟩ := id hA
  have hsl := R.size
  have hroom := R.room
  unfold setAddHashed
  refine wpAny_holding ?_
  rw [show (100000 : Nat) = 99999 + 1 from rfl, setAddHashedIn_succ]
  refine wpAny_bind (wpAny_setState_of ho hd R.fits ?_)
  dsimp only
  refine wp_if_neg (by simp [byScan, Value.scannable]) ?_
  try refine wpAny_bind (wpAny_pure ?_)
  obtain ⟨K, hKf, hK, hKb⟩ := R.tab.first (by rw [List.length_map, Array.length_toList, hsl]; omega) (hP P w k)
  have hbig : K < 100000 := by
    have : 10 * SetTable.turns t.mask ≤ 1420 := by
      unfold SetTable.turns
      rcases R.tab.mok with e | e | e <;> omega
    omega
  refine wpAny_bind ?_
  unfold setSearch
  refine seek R hA hL hx hn hu hKf hK hKb ?_ 100000 0 none rfl (Nat.zero_le _) (by omega)
  dsimp only
  refine wpAny_bind (wpAny_setState_of ho hd R.fits ?_)
  dsimp only
  obtain ⟨q1, q2, q3, q4, q5, _, _, _, q9⟩ := R.tab.put hK hKb
  rw [List.length_map, Array.length_toList, hsl] at q9
  generalize hpt : t.put (way t.mask (hP P w k) K) = pt at q1 q3 q4 q5 q9 ⊢
  obtain ⟨t1, p⟩ := pt
  dsimp only at q1 q3 q4 q5 q9 ⊢
  subst q1
  have hin := SetTable.toList_insertAt es (SetTable.below t.place (way t.mask (hP P w k) K)) (hP P w k, Value.ref x)
  generalize SetTable.below t.place (way t.mask (hP P w k) K) = p at q2 q3 hin ⊢
  have hhs : (SetTable.insertAt es p (hP P w k, Value.ref x)).toList.map (·.1) = (es.toList.map (·.1)).take p ++ hP P w k :: (es.toList.map (·.1)).drop p := by
    rw [hin, List.map_append, List.map_cons, List.map_take, List.map_drop]
  rw [← hhs] at q3
  have hperm : (SetTable.insertAt es p (hP P w k, Value.ref x)).toList.Perm ((L ++ [(x, k)]).map (rowP P w)) := by
    rw [hin, List.map_append]
    refine (put_perm es.toList p _).trans ?_
    exact (R.rows.cons _).trans (List.perm_append_singleton _ _).symm
  generalize SetTable.insertAt es p (hP P w k, Value.ref x) = es1 at hperm q3 ⊢
  have hl1 : (L ++ [(x, k)]).length = L.length + 1 := by simp
  have hes : es1.size = L.length + 1 := by
    rw [← Array.length_toList, hperm.length_eq, List.length_map, hl1]
  have ld1 : w.params.followText "set-order" = true ∨ t1.led = true := by rw [q5]; exact R.led
  -- behind the word whether the hash goes by value
  have go : ∀ t2 : SetTable, TabOk t2 (es1.toList.map (·.1)) → t2.mask = t.mask → t2.led = t1.led → t2.fill = L.length + 1 →
      wpAny (model P w) A (do
        storeSet a es1 t2
        if (!false && t2.tooFull) = true then do
          setRelay a (SetTable.grown (es.size + 1))
          pure true
        else pure true) Q E s := fun t2 T em el ef => by
    have ld2 : w.params.followText "set-order" = true ∨ t2.led = true := by rw [el]; exact ld1
    refine wpAny_bind (wpAny_storeSet_of ho hd ?_ (by rw [hes, sizeLine_eq]; omega))
    have sb : Heap.SameBut a s.heap (s.heap.update a (Obj.putSet es1 t2)) := Heap.SameBut.update ..
    have ho1 := L2.store_at (es' := es1) (t' := t2) ho hd
    have hA1 : AtP (s.heap.update a (Obj.putSet es1 t2)) a es1 (ep + 1) t2 := ⟨_, ho1, ⟨hex.1, hex.2.1, hex.2.2⟩, rfl⟩
    generalize s.heap.update a (Obj.putSet es1 t2) = h1 at sb hA1 ⊢
    by_cases hf : t2.tooFull = true
    · refine wp_if_pos (by simp [hf]) ?_
      have hfull : (L.length + 1) * 5 ≥ t2.mask * 3 := by
        have h := hf
        unfold SetTable.tooFull at h
        rw [decide_eq_true_eq, ef] at h
        exact h
      rw [hsl]
      have cases2 : (t.mask = 7 ∧ L.length = 4) ∨ (t.mask = 31 ∧ L.length = 18) := by
        rcases R.tab.mok with e | e | e
        · left; rw [em, e] at hfull; rw [e] at hroom; exact ⟨e, by omega⟩
        · right; rw [em, e] at hfull; rw [e] at hroom; exact ⟨e, by omega⟩
        · exfalso; rw [em, e] at hfull; omega
      have hsz1 : t2.place.size = es1.size := by
        have h := T.sz
        rw [List.length_map, Array.length_toList] at h
        exact h
      have step : ∀ M, SetTable.sizeAbove (SetTable.grown (L.length + 1)) - 1 = M → MaskOk M → SetTable.sizeAbove (SetTable.grown (L.length + 1)) ≤ 128 → (L.length + 1) * 5 < M * 3 →
          wpAny (model P w) A (setRelay a (SetTable.grown (L.length + 1)) >>= fun _ => pure true) Q E { s with heap := h1 } := fun M h1' h2' h3' h4' => by
        refine wpAny_bind (relay (s := { s with heap := h1 }) hA1 hperm hsz1 T.dm (by rw [hes, em]; rcases cases2 with ⟨e, e2⟩ | ⟨e, e2⟩ <;> omega) ld2 (by rw [hl1]; exact hfew) h1' h2' h3' (by rw [hl1]; exact h4') ?_)
        intro h2 es2 ep2 t2 sb2 R2 hA2
        exact wpAny_pure (hQ h2 es2 ep2 t2 (sb.trans sb2) R2 hA2)
      rcases cases2 with ⟨_, e2⟩ | ⟨_, e2⟩
      · exact step 31 (by rw [e2, size_20]) (.inr (.inl rfl)) (by rw [e2, size_20]; decide) (by omega)
      · exact step 127 (by rw [e2, size_76]) (.inr (.inr rfl)) (by rw [e2, size_76]; decide) (by omega)
    · refine wp_if_neg (by simp [hf]) ?_
      refine wpAny_pure (hQ h1 es1 (ep + 1) t2 sb ⟨hperm, T, ld2, ?_, by rw [hl1]; exact hfew⟩ hA1)
      have h := hf
      unfold SetTable.tooFull at h
      rw [decide_eq_true_eq, ef] at h
      rw [hl1]
      omega
  have both : ∀ b : Bool, wpAny (model P w) A (do
        storeSet a es1 (if b = true then t1 else { t1 with plain := false })
        if (!false && (if b = true then t1 else { t1 with plain := false }).tooFull) = true then do
          setRelay a (SetTable.grown (es.size + 1))
          pure true
        else pure true) Q E s := fun b => by
    cases b with
    | true => exact go t1 q3 q4 rfl q9
    | false => exact go { t1 with plain := false } ⟨q3.ris, q3.dm, q3.sz, q3.mok, q3.bd, q3.reach⟩ q4 rfl q9
  by_cases hpl : t1.plain = true
  · first
      | (refine wpAny_bind ?_; refine wp_if_pos hpl ?_; refine hashVal hx fun y => both y)
      | (refine wp_if_pos hpl (wpAny_bind (hashVal hx fun y => both y)))
  · first
      | (refine wpAny_bind ?_; refine wp_if_neg hpl ?_; exact wpAny_pure (both true))
      | (refine wp_if_neg hpl (wpAny_bind (wpAny_pure (both true))))
/-! ### set(t), t a tuple of unlike tuples -/
theorem IsP.kept {h h' : Heap} {k : List L2.Key} {b : Addr} (x : IsP P w h k b) (hk : ∀ c o, h.get? c = some o → h'.get? c = some o) : IsP P w h' k b := by
  obtain ⟨o, items, n, ho, r⟩ := x
  exact ⟨o, items, n, hk b o ho, r⟩
theorem AtP.kept {h h' : Heap} (x : AtP h a es ep t) (hk : ∀ o, h.get? a = some o → h'.get? a = some o) : AtP h' a es ep t := by
  obtain ⟨o, ho, r⟩ := x
  exact ⟨o, hk o ho, r⟩
theorem loopP {I : Addr} {fp wr : List Addr} {G : Array GenState → Array GenState → Prop} {n : Nat} {Pv : Nat → Value → Prop} {St : Nat → Shared → Prop} {R : Result → Shared → Prop}
    (W : WalksS P w A.in1 I fp wr G n Pv St) (S : Addr) (hSf : S ∉ fp) (ks : List AK) (hn : n = ks.length) (hfew : ks.length < 64) (hnd : (ks.map (·.2)).Nodup) (hval : ∀ i v, Pv i v → ∃ p, ks[i]? = some p ∧ v = .ref p.1)
    (h0 : Heap) (hk : ∀ p ∈ ks, IsP P w h0 p.2 p.1) (hS0 : h0.get? S = none) (hw0 : ∀ b ∈ wr, h0.get? b = none) (hu : A.in1.units < cLine) :
    ∀ (k i : Nat) (s : Shared), n - i = k → i ≤ n → St i s → (∀ b o, h0.get? b = some o → s.heap.get? b = some o) → (∃ es ep t, SetO P w (ks.take i) es t ∧ AtP s.heap S es ep t) →
      (∀ s' es ep t, Moved (S :: wr) G s s' → SetO P w ks es t → AtP s'.heap S es ep t → (∀ b o, h0.get? b = some o → s'.heap.get? b = some o) → R (.ok (.ret .none)) s') →
      codeAny (model P w) A (.builtin "set.update.loop" ⟨[.ref S, .ref I], []⟩) R s := by
  have hSw : S ∉ wr := fun h => hSf (W.sub _ h)
  have hsub : ∀ b ∈ wr, b ∈ S :: wr := fun b hb => List.mem_cons_of_mem _ hb
  have keepM : ∀ {s s' : Shared}, Moved wr G s s' → (∀ b o, h0.get? b = some o → s.heap.get? b = some o) → ∀ b o, h0.get? b = some o → s'.heap.get? b = some o := fun hm hkp b o e =>
    hm.heap b o (fun hb => by rw [hw0 b hb] at e; cases e) (hkp b o e)
  intro k
  induction k with
  | zero =>
    intro i s hk' hi hst hkp ⟨es, ep, t, hS, hA⟩ hR
    have hin : i = n := by omega
    subst hin
    refine codeAny_builtin F.entry_set_update_loop ?_
    rw [Around.under_plainId F.plain_set_update_loop _]
    show wpAny _ A.in1 (pyNext (.ref I) >>= _) _ _ s
    refine wpAny_bind (W.done s _ _ hst fun s' hm => ?_)
    show wpAny _ A.in1 (ret Value.none) _ _ s'
    rw [hn, List.take_length] at hS
    exact wpAny_pure (hR s' es ep t (hm.mono hsub) hS (hA.kept fun o e => hm.heap S o hSw e) (keepM hm hkp))
  | succ k ih =>
    intro i s hk' hi hst hkp ⟨es, ep, t, hS, hA⟩ hR
    have hlt : i < n := by omega
    refine codeAny_builtin F.entry_set_update_loop ?_
    rw [Around.under_plainId F.plain_set_update_loop _]
    show wpAny _ A.in1 (pyNext (.ref I) >>= _) _ _ s
    refine wpAny_bind (W.item i s _ _ hlt hst fun v s' hP hst' hm => ?_)
    obtain ⟨p, hp, rfl⟩ := hval i v hP
    have hkp' := keepM hm hkp
    have hA' : AtP s'.heap S es ep t := hA.kept fun o e => hm.heap S o hSw e
    have hx : IsP P w s'.heap p.2 p.1 := (hk p (List.mem_of_getElem? hp)).kept hkp'
    have hL : ∀ q ∈ ks.take i, IsP P w s'.heap q.2 q.1 := fun q hq => (hk q (List.mem_of_mem_take hq)).kept hkp'
    have htk : ks.take (i + 1) = ks.take i ++ [p] := take_next hp
    have hnew : p.2 ∉ (ks.take i).map (·.2) := fun hm2 => by
      have h1 : ((ks.take (i + 1)).map (·.2)).Nodup := by
        rw [List.map_take]
        exact List.Pairwise.sublist (List.take_sublist _ _) hnd
      rw [htk, List.map_append, List.nodup_append] at h1
      exact h1.2.2 _ hm2 _ (by simp) rfl
    have hil : (ks.take i).length + 1 < 64 := by
      rw [List.length_take]
      have : i < ks.length := by omega
      omega
    show wpAny _ A.in1 (holding [Value.ref p.1] (setAdd S (.ref p.1)) >>= _) _ _ s'
    refine wpAny_bind (wpAny_holding ?_)
    unfold setAdd
    refine wpAny_holding ?_
    refine wpAny_bind (wpAny_pyHash_tuple hu hx ?_)
    refine addP (s := { s' with toks := s'.toks + (p.2.length + 1) }) hS hA' hL hx hnew hu hil fun h' es' ep' t' hsb hS2 hA2 => ?_
    rw [← htk] at hS2
    have hkp2 : ∀ b o, h0.get? b = some o → h'.get? b = some o := fun b o e => (hsb.2 b (fun z => by rw [z, hS0] at e; cases e)).trans (hkp' b o e)
    refine wpAny_pure ⟨plainId_quiet F.plain_set_update_loop _, ih (i + 1) _ (by omega) hlt (W.frame _ s' _ _ hst' (Nat.le_add_right _ _) fun b hb o e => ?_) hkp2 ⟨es', ep', t', hS2, hA2⟩ fun s'' es2 ep2 t2 hm'' hS'' hA'' hkp'' => ?_⟩
    · rw [hsb.2 b (fun h : b = S => hSf (by rw [← h]; exact hb))]; exact e
    · refine hR s'' es2 ep2 t2 (Moved.trans W.gtrans ((hm.mono hsub).then_heap (Nat.le_add_right _ _) fun b o hb e => ?_) hm'') hS'' hA'' hkp''
      rw [hsb.2 b (fun h : b = S => hb (by rw [h]; exact List.mem_cons_self))]; exact e
/-- an empty set, new -/
abbrev newSet (w : World) : Obj := { cls := .type "set", dict := none, data := .set #[] 0 (.fresh 0 0 (!w.params.followText "set-order")) }
theorem newSet_ok {h : Heap} {b : Addr} (hb : h.get? b = some (newSet w)) : ∃ es ep t, SetO P w [] es t ∧ AtP h b es ep t :=
  ⟨#[], 0, _, SetO.nil (t := .fresh 0 0 (!w.params.followText "set-order")) (by
    show _ ∨ (!w.params.followText "set-order") = true
    cases w.params.followText "set-order"
    · exact .inr rfl
    · exact .inl rfl) rfl, _, hb, ⟨rfl, rfl, rfl⟩, rfl⟩
theorem call_setP {l : Addr} {items : Array Value} (ks : List AK) {Q : Value → Shared → Prop} (hh : A.handled = none) (hl : s.heap.IsTuple l items) (hit : items.toList = ks.map fun p => Value.ref p.1)
    (hk : ∀ p ∈ ks, IsP P w s.heap p.2 p.1) (hnd : (ks.map (·.2)).Nodup) (hfew : ks.length < 64) (hu : A.units + 3 < cLine)
    (h : ∀ (h' : Heap) (tk : Nat) es ep t, SetO P w ks es t → AtP h' s.heap.objs.size es ep t → (∀ b o, s.heap.get? b = some o → h'.get? b = some o) → Q (.ref s.heap.objs.size) { s with heap := h', toks := tk }) :
    wpAny (model P w) A (call (.type "set") [.ref l]) Q E s := by
  have hisz : items.size = ks.length := by
    have q := congrArg List.length hit
    rw [Array.length_toList, List.length_map] at q
    exact q
  have hmro := F.called_set.mro
  obtain ⟨c, tl, hmro⟩ := hmro
  have hmade := F.called_set.made
  have hsub := F.called_set.sub
  refine wpAny_call (codeAny_of_tree ?_)
  show wpAny _ _ (callAny (.type "set") _) _ _ _
  refine wpAny_pure ⟨Code.quiet_builtin _ (by decide +kernel), codeAny_builtin F.entry_type_call ?_⟩
  rw [Around.under_plain (weight_type_call_type "set" [.ref l] []) rfl]
  have h1 := F.called_set.notType
  have h2 := F.called_set.canCreate
  have hct := F.typeCall_set_1 (.ref l)
  repeat (any_goals (first | assumption | wp_step))

  refine codeAny_mono (code_set_led1 (.ref l) (E := E) (Q₁ := fun obj s₁ => obj = .ref s.heap.objs.size ∧ s₁ = { s with heap := s.heap.push (newSet w) }) ⟨rfl, rfl⟩) fun r s₁ hr => ?_
  cases r with
  | error e => exact hr
  | ok fl =>
    cases fl with
    | ret obj =>
      obtain ⟨rfl, rfl⟩ := hr
      have hS : (s.heap.push (newSet w)).get? s.heap.objs.size = some (newSet w) := Heap.get?_push_size _ rfl
      have hT : Shared.TypeIs { s with heap := s.heap.push (newSet w) } (.ref s.heap.objs.size) "set" := ⟨_, hS, rfl⟩
      have hli := F.called_set.init.lookup
      have hbi := F.called_set.init.bind (.ref s.heap.objs.size)
      repeat (any_goals (first | assumption | wp_step))

      refine codeAny_mono (codeAny_call_builtin (R := wants (fun r s₂ => r = .none ∧ ∃ h' tk es ep t, s₂ = { s with heap := h', toks := tk } ∧ SetO P w ks es t ∧ AtP h' s.heap.objs.size es ep t ∧
          (∀ b o, s.heap.get? b = some o → h'.get? b = some o)) E) F.called_set.init.plain F.entry_set_init (check_set_init_1 hT ?_)) fun r₂ s₂ hr₂ => ?_
      · obtain ⟨ol, hol, hcl, nl, hdl⟩ := hl
        obtain ⟨ocls, odict, odata, oslots⟩ := ol
        simp only at hcl hdl
        subst hcl; subst hdl
        have hol' : (s.heap.push (newSet w)).get? l = some { cls := .type "tuple", dict := odict, data := .seq items nl, slots := oslots } := Heap.get?_push_of_some _ hol
        have hsls := F.sub_tuple_set
        have hslf := F.sub_tuple_frozenset
        have hne : (Value.type "tuple" == Value.type "dict") = false := by decide
        have hl1 : (s.heap.push (newSet w)).IsTuple l items := ⟨_, hol', rfl, nl, rfl⟩
        unfold Builtin.«set.__init__» noKeywords Builtin.Frozenset.updateFrom
        generalize hPI : pyIter = PI
        wp_walk
        subst hPI

        refine wpAny_pyIter_tuple (s := { s with heap := s.heap.push (newSet w) }) hl1 ?_
        refine wpAny_bind (wpAny_runValue ?_)
        have hlS : l < s.heap.objs.size := Heap.lt_size hol
        have hh3 : A.in1.in1.in1.handled = none := by simp [hh]
        have hneI : l ≠ (s.heap.push (newSet w)).objs.size := by
          rw [Heap.size_push]; exact Nat.ne_of_lt (Nat.lt_succ_of_lt hlS)
        have hSf : s.heap.objs.size ∉ [(s.heap.push (newSet w)).objs.size, l] := by
          rw [Heap.size_push]; simp only [List.mem_cons, List.mem_singleton, List.not_mem_nil, or_false, not_or]
          exact ⟨Nat.ne_of_lt (Nat.lt_succ_self _), Nat.ne_of_gt hlS⟩
        have hval : ∀ (i : Nat) (v : Value), items[i]? = some v → ∃ p, ks[i]? = some p ∧ v = .ref p.1 := fun i v hv => by
          have q : items.toList[i]? = some v := by rw [Array.getElem?_toList]; exact hv
          rw [hit, List.getElem?_map] at q
          obtain ⟨p, hp, e⟩ := Option.map_eq_some_iff.mp q
          exact ⟨p, hp, e.symm⟩
        have none_of : ∀ b, s.heap.objs.size ≤ b → s.heap.get? b = none := fun b hb => by
          cases q : s.heap.get? b with
          | none => rfl
          | some o => exact absurd (Nat.lt_of_lt_of_le (Heap.lt_size q) hb) (Nat.lt_irrefl _)
        refine loopP ((Walks.tuple hh3 _ l hneI items).toS) s.heap.objs.size
          hSf ks hisz hfew hnd hval s.heap hk (none_of _ (Nat.le_refl _)) (fun b hb => none_of b (by
            rw [List.mem_singleton.mp hb, Heap.size_push]
            exact Nat.le_succ _)) hu (items.size - 0) 0 _ (by omega) (Nat.zero_le _)
          ⟨⟨_, Heap.get?_push_size _ rfl, rfl, rfl⟩, (hl1.push _)⟩ (fun b o e => Heap.get?_push_of_some _ (Heap.get?_push_of_some _ e)) ?hS0 ?hR
        case hS0 =>
          rw [List.take_zero]
          exact newSet_ok (Heap.get?_push_of_some _ hS)
        case hR =>
          intro s' es ep t hm hS' hA' hkp
          obtain ⟨h', g2, d', tk', os'⟩ := s'
          have eg : g2 = s.gens := hm.gens
          have ed : d' = s.drawn := hm.drawn
          have eo : os' = s.os := hm.os
          subst eg; subst ed; subst eo
          show wpAny _ _ _ _ _ _
          refine wpAny_pure ?_
          show wpAny _ _ (ret Value.none) _ _ _
          exact wpAny_pure ⟨rfl, h', tk', es, ep, t, rfl, hS', hA', hkp⟩
      · cases r₂ with
        | error e => exact hr₂
        | ok fl₂ =>
          cases fl₂ with
          | ret r =>
            obtain ⟨rfl, h', tk, es, ep, t, rfl, hS', hA', hk'⟩ := hr₂
            repeat (any_goals (first | assumption | wp_step))
            exact h _ _ _ _ _ hS' hA' hk'
          | _ => exact hr₂.elim
    | _ => exact hr.elim
end
/-! ### the rules -/
def SetPO (P : Program) (w : World) (a : Addr) (M : List (Addr × Pr)) : HO := .ext fun h => ∃ es ep t, SetO P w (M.map fun m => (m.1, pk m.2)) es t ∧ AtP h a es ep t
theorem setPO_new {P : Program} {w : World} {H : Hp} {h : Heap} {a : Addr} {M : List (Addr × Pr)} {es : Array (Int × Value)} {ep : Nat} {t : SetTable} (R : SetO P w (M.map fun m => (m.1, pk m.2)) es t) (x : AtP h a es ep t) : ObjOk P w H h a (SetPO P w a M) := by
  have ⟨o, ho, _⟩ := x
  refine ⟨⟨es, ep, t, R, x⟩, ⟨o, ho⟩, fun h1 h2 p k => ?_⟩
  have ⟨es', ep', t', R', x'⟩ : ∃ es ep t, SetO P w (M.map fun m => (m.1, pk m.2)) es t ∧ AtP h1 a es ep t := p
  exact ⟨es', ep', t', R', x'.kept k⟩
theorem perm_map_inv {α β : Type} (f : α → β) : ∀ {vs : List β} {M : List α}, vs.Perm (M.map f) → ∃ M' : List α, M'.Perm M ∧ vs = M'.map f := by
  intro vs M h
  generalize hm : M.map f = ms at h
  induction h generalizing M with
  | nil => exact ⟨M, .refl _, by rw [hm]⟩
  | @cons x l1 l2 h ih =>
    cases M with
    | nil => cases hm
    | cons m M =>
      rw [List.map_cons] at hm
      injection hm with e1 e2
      obtain ⟨M', p, e⟩ := ih e2
      exact ⟨m :: M', p.cons m, by rw [List.map_cons, e1, e]⟩
  | @swap x y l =>
    cases M with
    | nil => cases hm
    | cons m M =>
      cases M with
      | nil => injection hm with _ e2; cases e2
      | cons n M =>
        rw [List.map_cons, List.map_cons] at hm
        injection hm with e1 e2
        injection e2 with e2 e3
        exact ⟨n :: m :: M, .swap _ _ _, by rw [List.map_cons, List.map_cons, e1, e2, e3]⟩
  | @trans l1 l2 l3 h1 h2 ih1 ih2 =>
    obtain ⟨M', p, e⟩ := ih2 hm
    obtain ⟨M2, p2, e2⟩ := ih1 e.symm
    exact ⟨M2, p2.trans p, e2⟩
/-! pairs in their order -/
def prLt (a b : Pr) : Prop := a.1 < b.1 ∨ (a.1 = b.1 ∧ a.2 < b.2)
theorem cps_lt_irr (a : List Nat) : ¬ a < a := List.lt_irrefl a
theorem prLt_irr (a : Pr) : ¬ prLt a a := fun h => h.elim (List.lt_irrefl _) fun q => List.lt_irrefl _ q.2
theorem prLt_trans {a b c : Pr} (h : prLt a b) (g : prLt b c) : prLt a c := by
  rcases h with h | ⟨h1, h2⟩
  · rcases g with g | ⟨g1, g2⟩
    · exact .inl (List.lt_trans h g)
    · exact .inl (g1 ▸ h)
  · rcases g with g | ⟨g1, g2⟩
    · exact .inl (h1 ▸ g)
    · exact .inr ⟨h1.trans g1, List.lt_trans h2 g2⟩
theorem prLt_tri {a b : Pr} (h : ¬ prLt a b) (g : ¬ prLt b a) : a = b := by
  have e : a.1 = b.1 := List.le_antisymm (List.not_lt.mp fun q => g (.inl q)) (List.not_lt.mp fun q => h (.inl q))
  exact Prod.ext e (List.le_antisymm (List.not_lt.mp fun q => g (.inr ⟨e.symm, q⟩)) (List.not_lt.mp fun q => h (.inr ⟨e, q⟩)))
open Classical in
theorem prLe (a b : Pr) : (!PySem.W.dataLt (prD b) (prD a)) = !decide (prLt b a) := by
  unfold prD
  rw [PySem.W.dataLt_pair (by simp [PySem.W.alike]) (by simp [PySem.W.alike]), PySem.W.dataLt_str, PySem.W.dataLt_str]
  congr 1
  simp only [PyData.eqv, beq_iff_eq, sx_list, sx_eq]
  by_cases h : b.1 = a.1
  · rw [if_pos h]
    by_cases g : b.2 = a.2
    · rw [if_pos g, decide_eq_false (show ¬ prLt b a from fun q => by rw [Prod.ext h g] at q; exact prLt_irr a q)]
    · rw [if_neg g]
      refine decide_eq_decide.mpr ⟨fun q => .inr ⟨h, q⟩, ?_⟩
      rintro (q | ⟨_, q⟩)
      · rw [h] at q; exact absurd q (List.lt_irrefl _)
      · exact q
  · rw [if_neg h]
    refine decide_eq_decide.mpr ⟨fun q => .inl q, ?_⟩
    rintro (q | ⟨q, _⟩)
    · exact q
    · exact absurd q h
theorem pr_sorted (M : List (Addr × Pr)) : (M.mergeSort (PySem.W.dataLe false fun m => prD m.2)).Pairwise fun a b => ¬ prLt b.2 a.2 := by
  have e : ∀ a b : Addr × Pr, PySem.W.dataLe false (fun m : Addr × Pr => prD m.2) a b = true ↔ ¬ prLt b.2 a.2 := fun a b => by
    rw [show PySem.W.dataLe false (fun m : Addr × Pr => prD m.2) a b = (!PySem.W.dataLt (prD b.2) (prD a.2)) from rfl, prLe]
    simp
  have h := List.pairwise_mergeSort (le := PySem.W.dataLe false fun m : Addr × Pr => prD m.2) (fun a b c h1 h2 => by
    rw [e] at h1 h2 ⊢
    intro z
    by_cases g : prLt a.2 b.2
    · exact h2 (prLt_trans z g)
    · rw [prLt_tri g h1] at z
      exact h2 z) (fun a b => by
    rw [Bool.or_eq_true, e, e]
    by_cases q : prLt b.2 a.2
    · exact .inr fun z => prLt_irr _ (prLt_trans z q)
    · exact .inl q) M
  exact h.imp fun {a b} q => (e a b).mp q
section
variable {X : Cx}
theorem Inv.isP {pins : List (Addr × Obj)} {σ : L2.St} {H : Hp} {s : Shared} {b : Addr} {p : Pr} (I : L2.Inv X pins σ H s) (h : SqT X.K H b [.str (sx p.1), .str (sx p.2)]) : IsP X.prog X.w s.heap (pk p) b := by
  obtain ⟨its, r, ⟨o, ho, hc, n, hd⟩, _⟩ := I.tuple h
  exact ⟨o, its.toArray, n, ho, hc, hd, by simpa using items_are (ks := pk p) r⟩
theorem isP_reads {h : Heap} {P : Program} {w : World} {b : Addr} {p : Pr} (x : IsP P w h (pk p) b) : Reads h (.ref b) (prD p) [] := by
  obtain ⟨o, items, n, ho, hc, hd, hi⟩ := x
  obtain ⟨its⟩ := items
  cases hi with
  | cons r1 r2 =>
    cases r2 with
    | cons r2 r3 =>
      cases r3
      obtain ⟨t1, rfl⟩ := Value.isStrOf_shape (x := sx p.1) r1
      obtain ⟨t2, rfl⟩ := Value.isStrOf_shape (x := sx p.2) r2
      exact Reads.tuple ho hc hd (ReadsAll.cons (.str _ _) (.cons (.str _ _) .nil))
/-- set(t), t a tuple of unlike pairs -/
def rSetP (K : PySem.W.Frag) (P : Program) (w : World) : List V → Hp → VK → Prop := fun xs H Q => ∃ (l : Addr) (M : List (Addr × Pr)), xs = [.ref l] ∧ SqT K H l (M.map fun m => V.ref m.1) ∧ (∀ m ∈ M, SqT K H m.1 [.str (sx m.2.1), .str (sx m.2.2)]) ∧ (M.map (·.2)).Nodup ∧ M.length < 64 ∧
  ∀ p, H p = none → Q (.ref p) (upd H p (SetPO P w p M))
theorem vals_refsM : ∀ {M : List (Addr × Pr)} {us : List Value}, Vals (M.map fun m => V.ref m.1) us → us = M.map fun m => Value.ref m.1
  | [], _, .nil => rfl
  | _ :: M, _, .cons r t => by
    cases r
    rw [vals_refsM t]; rfl
theorem refs_valsM : ∀ M : List (Addr × Pr), Vals (M.map fun m => V.ref m.1) (M.map fun m => Value.ref m.1)
  | [] => .nil
  | _ :: M => .cons rfl (refs_valsM M)
theorem pk_nodup {M : List (Addr × Pr)} (h : (M.map (·.2)).Nodup) : ((M.map fun m => ((m.1, pk m.2) : AK)).map (·.2)).Nodup := by
  rw [List.map_map]
  have e : ((fun x : AK => x.2) ∘ fun m : Addr × Pr => ((m.1, pk m.2) : AK)) = pk ∘ fun m : Addr × Pr => m.2 := rfl
  rw [e, ← List.map_map]
  exact List.pairwise_map.mpr (h.imp fun hne q => hne (pk_inj q))
theorem cr_setP (hc : X.calm = true) (hu : X.A.units + 3 < cLine) : CallR X (.type "set") (rSetP X.K X.prog X.w) := by
  intro pins s σ H xs us Q I r h
  obtain ⟨l, M, rfl, hl, hk, hnd, hf, q⟩ := h
  rw [Vals.ref1 r]
  obtain ⟨its, rv, pl, hz⟩ := I.tuple hl
  have hn : H s.heap.objs.size = none := I.hok.fresh (Nat.le_refl _)
  refine call_setP (P := X.prog) (w := X.w) (M.map fun m => ((m.1, pk m.2) : AK)) (I.ok.hd hc) (show s.heap.IsTuple l its.toArray from pl) (by
      rw [List.map_map]
      exact vals_refsM rv) (fun p hp => ?_) (pk_nodup hnd) (by rw [List.length_map]; exact hf) hu fun h' tk es ep t R x k => ?_
  · obtain ⟨m, hm, rfl⟩ := List.mem_map.mp hp
    exact Inv.isP I (hk m hm)
  · exact ⟨.ref s.heap.objs.size, upd H s.heap.objs.size (SetPO X.prog X.w s.heap.objs.size M), I.laid (t' := tk) k (Nat.le_refl _) (setPO_new R x), rfl, q _ hn⟩
/-- sorted(s), s such a set -/
def rSortedP (K : PySem.W.Frag) (P : Program) (w : World) : List V → Hp → VK → Prop := fun xs H Q => ∃ (a : Addr) (M : List (Addr × Pr)), xs = [.ref a] ∧ H a = some (SetPO P w a M) ∧ (∀ m ∈ M, SqT K H m.1 [.str (sx m.2.1), .str (sx m.2.2)]) ∧
  ∀ (M' : List (Addr × Pr)) p, M'.Perm M → M'.Pairwise (fun a b => ¬ prLt b.2 a.2) → H p = none → Q (.ref p) (upd H p (.lst (M'.map fun m => V.ref m.1)))
theorem cr_sortedP (hc : X.calm = true) (hu : X.A.units + 8 < cLine) : CallR X (.builtin "sorted") (rSortedP X.K X.prog X.w) := by
  intro pins s σ H vs us Q I r h
  obtain ⟨a, M, rfl, ha, hk, q⟩ := h
  rw [Vals.ref1 r]
  have ⟨es, ep, t, R, x⟩ : ∃ es ep t, SetO X.prog X.w (M.map fun m => (m.1, pk m.2)) es t ∧ AtP s.heap a es ep t := (I.hok a _ ha).1
  obtain ⟨o, ho, hex, hd⟩ := x
  have hsz := R.size
  have hfew := R.few
  rw [List.length_map] at hsz hfew
  refine Calls.call_function_entry PyProof.Rows.kind_sorted PyProof.Rows.plain_sorted PyProof.Rows.entry_sorted (PyProof.Rows.args_sorted1 _) ?_
  unfold Builtin.«sorted»
  refine wpAny_bind (m := checkCount "sorted" 1 1 _) (wpAny_pure ?_)
  refine wpAny_bind (collect_set (A := X.A.in1) (I.ok.hd hc) ⟨o, ho, hex.1, hd⟩ R.fits (by unfold scanBound; omega) R.tab.ris R.led fun s1 vs k1 hz g1 o1 pm => ?_)
  have hes : (es.toList.map (·.2)).Perm (M.map fun m => Value.ref m.1) := by
    have z := R.rows.map (·.2)
    rw [List.map_map, List.map_map] at z
    exact z
  obtain ⟨M1, p1, e1⟩ := perm_map_inv (fun m : Addr × Pr => Value.ref m.1) (pm.trans hes)
  have hl1 : M1.length = M.length := p1.length_eq
  have hvl : vs.length = M1.length := by rw [e1, List.length_map]
  have hzl : vs.length ≤ sizeLine := by rw [sizeLine_eq]; omega
  refine wpAny_bind (wpAny_newList ?_ hzl)
  have hoL : (s1.heap.push (seqObj "list" vs.toArray 0)).get? s1.heap.objs.size = some (seqObj "list" vs.toArray 0) := Heap.get?_push_size _ rfl
  have E1 : PySem.W.EachIs (fun (v : Value) (m : Addr × Pr) => v = .ref m.1) vs M1 := each_get hvl fun i v m hv hm => by
    rw [e1, List.getElem?_map, hm] at hv
    exact (Option.some.inj hv).symm
  have rd1 : ∀ m ∈ M1, Reads (s1.heap.push (seqObj "list" vs.toArray 0)) (.ref m.1) (prD m.2) [] := fun m hm =>
    isP_reads (P := X.prog) (w := X.w) ((Inv.isP I (hk m (p1.mem_iff.mp hm))).kept fun b u e => Heap.get?_push_of_some _ (k1 b u e))
  have er : PySem.W.EachIs (fun (v : Value) (m : Addr × Pr) => ∃ as, Reads (s1.heap.push (seqObj "list" vs.toArray 0)) v (prD m.2) as ∧ s1.heap.objs.size ∉ as) vs M1 := each_get hvl fun i v m hv hm => by
    rw [e1, List.getElem?_map, hm] at hv
    obtain rfl : Value.ref m.1 = v := Option.some.inj hv
    exact ⟨[], rd1 m (List.mem_of_getElem? hm), by simp⟩
  refine wpAny_bind (wpAny_holding (PySem.W.list_sort_data (s := { s1 with heap := s1.heap.push (seqObj "list" vs.toArray 0) }) (enc := fun m : Addr × Pr => prD m.2) hoL E1 er (PySem.W.AllAlike.of fun _ _ => by simp [PySem.W.alike, PySem.W.alikeAll, prD]) (PySem.W.Sortable.tuples fun _ => ⟨_, _, rfl⟩) (by rw [← hvl]; exact hzl) (fun b _ => ?_) fun out hlo eo => ?_))
  · have hdp : (prD b.2).depth = 1 := by simp [prD, PyData.depth, PyData.depthAll]
    have : X.A.in1.units = X.A.units + 1 := rfl
    omega
  obtain ⟨c, hcc⟩ := PyProof.Rows.sortedHeap_at (vs := vs) (out := List.toArray out) hoL
  have hpw := pr_sorted M1
  have hperm := List.mergeSort_perm M1 (PySem.W.dataLe false fun m : Addr × Pr => prD m.2)
  generalize M1.mergeSort (PySem.W.dataLe false fun m : Addr × Pr => prD m.2) = M2 at eo hpw hperm
  have eout : out = M2.map fun m => Value.ref m.1 := by
    clear hlo hcc hpw hperm
    induction eo with
    | nil => rfl
    | cons h _ ih => rw [List.map_cons, ← ih, h]
  have hv : Vals (M2.map fun m => V.ref m.1) out := by rw [eout]; exact refs_valsM M2
  have hlen : (M2.map fun m => V.ref m.1).length ≤ sizeLine := by rw [List.length_map, hperm.length_eq, hl1, sizeLine_eq]; omega
  have hn : H s1.heap.objs.size = none := I.hok.fresh hz
  have kk : ∀ b u, s.heap.get? b = some u → (PyProof.Rows.sortedHeap (s1.heap.push (seqObj "list" vs.toArray 0)) s1.heap.objs.size vs (List.toArray out)).get? b = some u := fun b u e => by
    have q := k1 b u e
    have hlt := Heap.lt_size q
    rw [PyProof.Rows.sortedHeap_old (Nat.ne_of_lt hlt) (by rw [size_push']; exact Nat.lt_succ_of_lt hlt)]
    exact Heap.get?_push_of_some _ q
  have J : L2.Inv X pins σ (upd H s1.heap.objs.size (.lst (M2.map fun m => V.ref m.1))) { s with heap := PyProof.Rows.sortedHeap (s1.heap.push (seqObj "list" vs.toArray 0)) s1.heap.objs.size vs (List.toArray out), gens := s1.gens, drawn := s1.drawn, toks := s1.toks } :=
    I.call (ch := []) (Un.laid kk hz hn) (I.hok.laid kk hz ⟨hlen, out, c, hv, hcc⟩) (by rw [g1]; exact I.bare) (fun _ z => nomatch z)
  have e : ({ s1 with heap := PyProof.Rows.sortedHeap (s1.heap.push (seqObj "list" vs.toArray 0)) s1.heap.objs.size vs (List.toArray out) } : Shared) = { s with heap := PyProof.Rows.sortedHeap (s1.heap.push (seqObj "list" vs.toArray 0)) s1.heap.objs.size vs (List.toArray out), gens := s1.gens, drawn := s1.drawn, toks := s1.toks } := by
    cases s1
    cases s
    cases o1
    rfl
  refine wpAny_pure ⟨_, rfl, .ref s1.heap.objs.size, upd H s1.heap.objs.size (.lst (M2.map fun m => V.ref m.1)), ?_, rfl, q M2 _ (hperm.trans p1) hpw hn⟩
  first
    | exact e ▸ J
    | (rw [e]; exact J)
theorem dats_refsM {K : PySem.W.Frag} {H0 : Hp} : ∀ {ps : List Pr} {us : List V}, Dats K H0 (ps.map rd) us → ∃ M : List (Addr × Pr), M.map (·.2) = ps ∧ us = M.map (fun m => V.ref m.1) ∧ ∀ m ∈ M, SqT K H0 m.1 [.str (sx m.2.1), .str (sx m.2.2)]
  | [], us, h => by
    have : us = [] := by
      have e := Dats.len h
      exact List.eq_nil_of_length_eq_zero e.symm
    exact ⟨[], rfl, this, fun m hm => by cases hm⟩
  | p :: ps, us, h => by
    obtain ⟨u, us, rfl, h1, h2⟩ := dats_cons.mp h
    · obtain ⟨M, e1, e2, e3⟩ := dats_refsM h2
      obtain ⟨q, vs, rfl, g1, g2⟩ := dat_tup.mp h1
      have e4 : vs = [V.str (sx p.1), V.str (sx p.2)] := (Dats.strs (ws := [p.1, p.2])).mp g2
      subst e4
      refine ⟨(q, p) :: M, by rw [List.map_cons, e1], by rw [List.map_cons, e2], fun m hm => ?_⟩
      rcases List.mem_cons.mp hm with rfl | hm
      · exact g1
      · exact e3 m hm
theorem dats_ofM {K : PySem.W.Frag} {H0 : Hp} : ∀ {M : List (Addr × Pr)}, (∀ m ∈ M, SqT K H0 m.1 [.str (sx m.2.1), .str (sx m.2.2)]) → Dats K H0 ((M.map (·.2)).map rd) (M.map fun m => V.ref m.1)
  | [], _ => Dats.nil
  | m :: M, h => Dats.cons (dat_tup.mpr ⟨m.1, _, rfl, h m List.mem_cons_self, Dats.cons (dat_str.mpr rfl) (Dats.cons (dat_str.mpr rfl) Dats.nil)⟩) (dats_ofM fun x hx => h x (List.mem_cons_of_mem _ hx))
variable {ds : List Sl} {a : Expr} {pos p p2 pos2 : Pos} {ps : List Pr}
/-- sorted(set(e)), e a tuple of pairs whose lefts ascend -/
theorem EL.sortedSetP (B : Bi X) (ha : E X ds a (.tup (ps.map rd))) (hz : ps.length < 64) (hs : ps.Pairwise fun a b => a.1 < b.1) (hg : Gl X "sorted" := by rfl) (hg2 : Gl X "set" := by rfl)
    (na : starEach [a] X.env = (false, eval a X.env) :: starEach [] X.env := by rfl) (nb : starEach [Expr.Call (.Name "set" p2) [a] [] pos2] X.env = (false, eval (.Call (.Name "set" p2) [a] [] pos2) X.env) :: starEach [] X.env := by rfl)
    (hpl : (backTo pos (starEach [] X.env)).any (·.1) = false := by rfl) (hpl2 : (backTo pos2 (starEach [] X.env)).any (·.1) = false := by rfl) :
    EL X ds (.Call (.Name "sorted" p) [.Call (.Name "set" p2) [a] [] pos2] [] pos) (ps.map rd) :=
  EL.of (pe_callB (cr_sortedP B.calm (by have := B.un; omega)) hg B.sorted (by decide +kernel) (pa_cons (pe_callTy (cr_setP B.calm (by have := B.un; omega)) hg2 B.set (by decide +kernel) (pa_cons pe_W pa_nil na) (by decide) (by decide) na hpl2) pa_nil nb) (by decide) (by decide) nb hpl) fun He H0e H0 σ H I Q q =>
    ha He H0e H0 σ H I _ fun v H1 H' I1 e1 d1 => by
      obtain ⟨a, us, rfl, h1, h2⟩ := dat_tup.mp d1
      obtain ⟨M, m1, m2, m3⟩ := dats_refsM h2
      subst m2
      have hlt : ∀ {x y : Pr}, x.1 < y.1 → prLt x y := fun h => .inl h
      have hps : ps.Pairwise prLt := hs.imp hlt
      have hnd : ps.Nodup := hps.imp fun {x y} h e => by rw [e] at h; exact prLt_irr y h
      refine ⟨a, M, rfl, Same.sqt I1.ex h1, fun m hm => Same.sqt I1.ex (m3 m hm), by rw [m1]; exact hnd, by rw [← m1, List.length_map] at hz; exact hz, fun p hp => ?_⟩
      have I2 := I1.new (o := SetPO X.prog X.w p M) hp
      refine ⟨p, M, rfl, upd_same, fun m hm => Same.sqt I2.ex (Same.sqt (Same.new (I1.h0none hp)) (m3 m hm)), fun M' r hM' hpw hr => ?_⟩
      have em : M'.map (·.2) = ps := by
        refine perm_sorted_eq (r := fun a b => ¬ prLt b a) (fun a b h g => prLt_tri g h) (by rw [← m1]; exact hM'.map _) (List.pairwise_map.mpr hpw) ?_
        exact hps.imp fun {x y} h g => prLt_irr x (prLt_trans h g)
      have hd := dats_ofM (K := X.K) (H0 := H1) (M := M') fun m hm => m3 m (hM'.mem_iff.mp hm)
      rw [em] at hd
      exact q r _ (upd H1 p _) _ I2 (e1.trans (Same.new (I1.h0none hp))) hr (Dats.mono (Same.new (I1.h0none hp)) _ hd)
end
end Wm

set_option Elab.async false
set_option linter.all false
set_option maxRecDepth 100000
set_option maxHeartbeats 4000000
/-! WmZ2: rules that do the same; lean rules once more. -/
namespace Wm
open PySem PySem.Spec PyProof.Rows L2
theorem ltZ_trans {a b c : Wo} (h : ltW a b) (g : ltW b c) : ltW a c := by
  rcases h with h | ⟨h, h'⟩
  · rcases g with g | ⟨g, g'⟩
    · exact .inl (by omega)
    · exact .inl (by omega)
  · rcases g with g | ⟨g, g'⟩
    · exact .inl (by omega)
    · exact .inr ⟨by omega, List.lt_trans h' g'⟩
theorem Reach.lt {rs : List Ru} {u v : Wo} (h : Rs rs) (r : Reach rs u v) : v = u ∨ ltW v u := by
  induction r with
  | refl => exact .inl rfl
  | step s _ ih =>
    have q := nexts_lt h s
    rcases ih with e | e
    · rw [e]; exact .inr q
    · exact .inr (ltZ_trans e q)
/-! one word within another -/
def Inf (l w : Wo) : Prop := ∃ u z, w = u ++ l ++ z
theorem Inf.self (l : Wo) : Inf l l := ⟨[], [], by simp⟩
theorem Inf.trans {a b c : Wo} (h : Inf a b) (g : Inf b c) : Inf a c := by
  obtain ⟨u, z, rfl⟩ := h
  obtain ⟨u', z', rfl⟩ := g
  exact ⟨u' ++ u, z ++ z', by simp⟩
theorem Inf.len {a b : Wo} (h : Inf a b) : a.length ≤ b.length := by
  obtain ⟨u, z, rfl⟩ := h
  simp only [List.length_append]; omega
theorem Inf.eq {a b : Wo} (h : Inf a b) (g : b.length ≤ a.length) : a = b := by
  obtain ⟨u, z, rfl⟩ := h
  simp only [List.length_append] at g
  rw [List.eq_nil_of_length_eq_zero (show u.length = 0 by omega), List.eq_nil_of_length_eq_zero (show z.length = 0 by omega)]
  simp
theorem find_iff {l o : Wo} : 0 ≤ findM l o ↔ Inf o l := by
  rw [findM_ge]
  constructor
  · rintro ⟨i, h1, h2⟩
    refine ⟨l.take i, l.drop (i + o.length), ?_⟩
    have e : l.drop (i + o.length) = (l.drop i).drop o.length := by rw [List.drop_drop]
    rw [e, List.append_assoc]
    conv => rhs; rhs; lhs; rw [← h1]
    rw [List.take_append_drop, List.take_append_drop]
  · rintro ⟨u, z, rfl⟩
    refine ⟨u.length, ?_, by simp⟩
    rw [List.append_assoc, List.drop_left, List.take_left]
theorem keep_iff {ls : List Wo} {l : Wo} : keepM ls l = true ↔ ∀ o ∈ ls, Inf o l → o = l := by
  unfold keepM
  rw [Bool.not_eq_true', List.any_eq_false]
  constructor
  · intro h o ho hi
    have q := h _ (List.mem_map.mpr ⟨o, ho, rfl⟩)
    unfold inM at q
    rw [decide_eq_true (find_iff.mpr hi), Bool.and_true, Bool.not_eq_true, Bool.not_eq_false', decide_eq_true_eq] at q
    exact q
  · intro h b hb
    obtain ⟨o, ho, rfl⟩ := List.mem_map.mp hb
    unfold inM
    intro q
    rw [Bool.and_eq_true, Bool.not_eq_true', decide_eq_false_iff_not, decide_eq_true_eq] at q
    exact q.1 (h o ho (find_iff.mp q.2))
/-- each left holds a kept one -/
theorem kept_in {ls : List Wo} : ∀ (n : Nat) {l : Wo}, l ∈ ls → l.length < n → ∃ k ∈ ls, keepM ls k = true ∧ Inf k l
  | 0, _, _, h => absurd h (Nat.not_lt_zero _)
  | n + 1, l, hl, h => by
    cases hk : keepM ls l with
    | true => exact ⟨l, hl, hk, Inf.self l⟩
    | false =>
      have : ¬ ∀ o ∈ ls, Inf o l → o = l := fun q => by rw [keep_iff.mpr q] at hk; cases hk
      obtain ⟨o, q⟩ := Classical.not_forall.mp this
      obtain ⟨ho, q⟩ := Classical.not_imp.mp q
      obtain ⟨hi, hne⟩ := Classical.not_imp.mp q
      have hlt : o.length < l.length := by
        have := hi.len
        rcases Nat.lt_or_ge o.length l.length with c | c
        · exact c
        · exact absurd (hi.eq c) hne
      obtain ⟨k, h1, h2, h3⟩ := kept_in n ho (by omega)
      exact ⟨k, h1, h2, h3.trans hi⟩
theorem nexts_none {rs : List Ru} (h : Rs rs) {w : Wo} : nextsM rs w = [] ↔ ∀ r ∈ rs, ¬ Inf r.1 w := by
  rw [List.eq_nil_iff_forall_not_mem]
  constructor
  · intro q r hr ⟨u, z, e⟩
    exact q (u ++ r.2 ++ z) ((next_mem h).mpr ⟨r, hr, u, z, e, rfl⟩)
  · intro q v hv
    obtain ⟨r, hr, u, z, e, _⟩ := (next_mem h).mp hv
    exact q r hr ⟨u, z, e⟩
/-! rules that do the same -/
structure FinR (rs qs : List Ru) : Prop where
  r : ∀ q ∈ qs, Reach rs q.1 q.2
  e : ∀ w, nextsM qs w = [] ↔ nextsM rs w = []
theorem FinR.reach {rs qs : List Ru} (F : FinR rs qs) (h : Rs rs) (g : Rs qs) {u v : Wo} (r : Reach qs u v) : Reach rs u v := by
  induction r with
  | refl => exact .refl _
  | step q _ ih =>
    obtain ⟨r, hr, u, z, rfl, rfl⟩ := (next_mem g).mp q
    exact ((F.r r hr).ctx h u z).trans ih
theorem FinR.end1 {rs qs : List Ru} (F : FinR rs qs) (h : Rs rs) (g : Rs qs) {w v : Wo} (q : isEnd qs w v) : isEnd rs w v := ⟨F.reach h g q.1, (F.e v).mp q.2⟩
theorem FinR.end_ {rs qs : List Ru} (F : FinR rs qs) (h : Rs rs) (g : Rs qs) (s : SureM rs) {w : Wo} (hw : Lw w) : endM qs w = endM rs w :=
  s w hw _ _ (F.end1 h g (endM_isEnd g hw)) (endM_isEnd h hw)
theorem FinR.iff {rs qs : List Ru} (F : FinR rs qs) (h : Rs rs) (g : Rs qs) (s : SureM rs) {w : Wo} (hw : Lw w) (v : Wo) : isEnd qs w v ↔ isEnd rs w v := by
  refine ⟨F.end1 h g, fun q => ?_⟩
  rw [s w hw _ _ q (endM_isEnd h hw), ← F.end_ h g s hw]
  exact endM_isEnd g hw
theorem FinR.sure {rs qs : List Ru} (F : FinR rs qs) (h : Rs rs) (g : Rs qs) (s : SureM rs) : SureM qs := fun w hw e f he hf =>
  s w hw e f (F.end1 h g he) (F.end1 h g hf)
theorem FinR.ends {rs qs : List Ru} (F : FinR rs qs) (h : Rs rs) (g : Rs qs) (s : SureM rs) {w : Wo} (hw : Lw w) : endsM qs w = endsM rs w := by
  have n1 := endsM_nodup qs w
  rw [← endsM_of h hw n1 (fun v => by rw [mem_endsM g hw, F.iff h g s hw])]
  exact (endsM_of g hw n1 fun v => mem_endsM g hw).symm
/-! lean -/
def keptM (rs : List Ru) : List Wo := (leftsM rs).filter (keepM (leftsM rs))
theorem mem_lefts {rs : List Ru} {l : Wo} : l ∈ leftsM rs ↔ ∃ r ∈ rs, r.1 = l := by
  unfold leftsM
  rw [mem_setW, List.mem_map]
theorem mem_kept {rs : List Ru} {l : Wo} : l ∈ keptM rs ↔ l ∈ leftsM rs ∧ ∀ o ∈ leftsM rs, Inf o l → o = l := by
  unfold keptM
  rw [List.mem_filter, keep_iff]
theorem lean_eq (rs : List Ru) : leanM rs = (keptM rs).map fun l => (l, endM rs l) := rfl
theorem lean_lefts (rs : List Ru) : (leanM rs).map (·.1) = keptM rs := by
  rw [lean_eq, List.map_map]
  exact List.map_id _
theorem lw_asc {l : List Wo} (h : l.Pairwise (fun a b => a ≤ b)) (n : l.Nodup) : l.Pairwise (fun a b => a < b) := by
  refine (List.Pairwise.and h n).imp fun {a b} q => ?_
  rcases Classical.em (a < b) with c | c
  · exact c
  · exact absurd (List.le_antisymm q.1 (List.not_lt.mp c)) q.2
theorem lefts_asc (rs : List Ru) : (leftsM rs).Pairwise (fun a b => a < b) := lw_asc (sortW_pw _) (setW_nodup _)
theorem kept_asc (rs : List Ru) : (keptM rs).Pairwise (fun a b => a < b) := (lefts_asc rs).sublist List.filter_sublist
theorem asc_ext {l m : List Wo} (hl : l.Pairwise (fun a b => a < b)) (hm : m.Pairwise (fun a b => a < b)) (h : ∀ x, x ∈ l ↔ x ∈ m) : l = m := by
  have ne : ∀ {l : List Wo}, l.Pairwise (fun a b => a < b) → l.Nodup := fun h => h.imp fun {a b} q e => by rw [e] at q; exact List.lt_irrefl _ q
  have le : ∀ {l : List Wo}, l.Pairwise (fun a b => a < b) → l.Pairwise (fun a b => a ≤ b) := fun h => h.imp fun {a b} q => List.le_of_lt q
  exact perm_sorted_eq (fun a b h g => List.le_antisymm h g) ((List.perm_ext_iff_of_nodup (ne hl) (ne hm)).mpr h) (le hl) (le hm)
theorem lean_asc (rs : List Ru) : (leanM rs).Pairwise (fun a b => a.1 < b.1) := by
  have h := kept_asc rs
  rw [← lean_lefts] at h
  exact List.pairwise_map.mp h
theorem lean_r6 {rs : List Ru} (h : R6 rs) : R6 (leanM rs) := by
  have lw : ∀ l ∈ keptM rs, Lw l ∧ l.length ≤ 6 ∧ 1 ≤ l.length := fun l hl => lefts_lw h (mem_kept.mp hl).1
  refine ⟨⟨?_, fun r hr => ?_⟩, fun r hr => ?_⟩
  · rw [lean_eq, List.length_map]
    exact Nat.le_trans (List.length_filter_le _ _) (lefts_len h)
  · rw [lean_eq] at hr
    obtain ⟨l, hl, rfl⟩ := List.mem_map.mp hr
    obtain ⟨l1, l2, l3⟩ := lw l hl
    have q := endM_isEnd h.ok l1
    refine ⟨l3, by show l.length ≤ 12; omega, l1, endM_lw h.ok l1, ?_⟩
    rcases q.1.lt h.ok with e | e
    · exfalso
      obtain ⟨r, hr, e2⟩ := mem_lefts.mp (mem_kept.mp hl).1
      refine (nexts_none h.ok).mp q.2 r hr ?_
      rw [e, e2]
      exact Inf.self l
    · exact e
  · rw [lean_eq] at hr
    obtain ⟨l, hl, rfl⟩ := List.mem_map.mp hr
    exact (lw l hl).2.1
theorem lean_fin {rs : List Ru} (h : R6 rs) : FinR rs (leanM rs) := by
  refine ⟨fun q hq => ?_, fun w => ?_⟩
  · rw [lean_eq] at hq
    obtain ⟨l, hl, rfl⟩ := List.mem_map.mp hq
    exact (endM_isEnd h.ok (lefts_lw h (mem_kept.mp hl).1).1).1
  · rw [nexts_none (lean_r6 h).ok, nexts_none h.ok]
    constructor
    · intro q r hr hi
      obtain ⟨k, k1, k2, k3⟩ := kept_in (ls := leftsM rs) (r.1.length + 1) (mem_lefts.mpr ⟨r, hr, rfl⟩) (Nat.lt_succ_self _)
      refine q (k, endM rs k) ?_ (k3.trans hi)
      rw [lean_eq]
      exact List.mem_map.mpr ⟨k, List.mem_filter.mpr ⟨k1, k2⟩, rfl⟩
    · intro q p hp hi
      rw [lean_eq] at hp
      obtain ⟨l, hl, rfl⟩ := List.mem_map.mp hp
      obtain ⟨r, hr, e⟩ := mem_lefts.mp (mem_kept.mp hl).1
      exact q r hr (by rw [e]; exact hi)
theorem lean_lean {rs : List Ru} (h : R6 rs) (s : SureM rs) : leanM (leanM rs) = leanM rs := by
  have k1 : leftsM (leanM rs) = keptM rs := asc_ext (lefts_asc _) (kept_asc rs) fun l => by
    rw [mem_lefts, ← lean_lefts, List.mem_map]
  have k2 : keptM (leanM rs) = keptM rs := asc_ext (kept_asc _) (kept_asc rs) fun l => by
    rw [mem_kept, k1]
    refine ⟨fun q => q.1, fun q => ⟨q, fun o ho hi => (mem_kept.mp q).2 o (mem_kept.mp ho).1 hi⟩⟩
  have e : leanM (leanM rs) = (keptM rs).map fun l => (l, endM (leanM rs) l) := by rw [lean_eq (leanM rs), k2]
  refine e.trans (List.map_congr_left fun l hl => ?_)
  rw [(lean_fin h).end_ h.ok (lean_r6 h).ok s (lefts_lw h (mem_kept.mp hl).1).1]
/-! more rules, that do nothing new -/
structure MoreR (rs ms : List Ru) : Prop where
  r : ∀ m ∈ ms, Reach rs m.1 m.2
  n : ∀ m ∈ ms, nextsM rs m.1 ≠ []
theorem more_fin {rs ms : List Ru} (M : MoreR rs ms) (h : Rs rs) (g : Rs (rs ++ ms)) : FinR rs (rs ++ ms) := by
  refine ⟨fun q hq => ?_, fun w => ?_⟩
  · rcases List.mem_append.mp hq with hq | hq
    · exact .step ((next_mem h).mpr ⟨q, hq, [], [], by simp, by simp⟩) (.refl _)
    · exact M.r q hq
  · rw [nexts_none g, nexts_none h]
    constructor
    · exact fun q r hr => q r (List.mem_append_left _ hr)
    · intro q r hr
      rcases List.mem_append.mp hr with hr | hr
      · exact q r hr
      · intro hi
        have := M.n r hr
        rw [Ne, nexts_none h] at this
        refine this fun r' hr' hi' => q r' hr' (hi'.trans hi)
theorem more_lean {rs ms : List Ru} (M : MoreR rs ms) (h : R6 rs) (g : R6 (rs ++ ms)) (s : SureM rs) : leanM (rs ++ ms) = leanM rs := by
  have under : ∀ m ∈ ms, ∃ r ∈ rs, Inf r.1 m.1 := fun m hm => by
    have := M.n m hm
    rw [Ne, nexts_none h.ok] at this
    obtain ⟨r, q⟩ := Classical.not_forall.mp this
    obtain ⟨hr, q⟩ := Classical.not_imp.mp q
    exact ⟨r, hr, Classical.not_not.mp q⟩
  have sub : ∀ {l}, l ∈ leftsM rs → l ∈ leftsM (rs ++ ms) := fun {l} hl => by
    obtain ⟨r, hr, e⟩ := mem_lefts.mp hl
    exact mem_lefts.mpr ⟨r, List.mem_append_left _ hr, e⟩
  have k : keptM (rs ++ ms) = keptM rs := asc_ext (kept_asc _) (kept_asc _) fun l => by
    rw [mem_kept, mem_kept]
    constructor
    · rintro ⟨h1, h2⟩
      refine ⟨?_, fun o ho => h2 o (sub ho)⟩
      obtain ⟨r, hr, e⟩ := mem_lefts.mp h1
      rcases List.mem_append.mp hr with hr | hr
      · exact mem_lefts.mpr ⟨r, hr, e⟩
      · obtain ⟨r', hr', hi⟩ := under r hr
        rw [e] at hi
        have e2 := h2 r'.1 (mem_lefts.mpr ⟨r', List.mem_append_left _ hr', rfl⟩) hi
        exact mem_lefts.mpr ⟨r', hr', e2⟩
    · rintro ⟨h1, h2⟩
      refine ⟨sub h1, fun o ho hi => ?_⟩
      obtain ⟨r, hr, e⟩ := mem_lefts.mp ho
      rcases List.mem_append.mp hr with hr | hr
      · exact h2 o (mem_lefts.mpr ⟨r, hr, e⟩) hi
      · obtain ⟨r', hr', hi'⟩ := under r hr
        rw [e] at hi'
        have e2 := h2 r'.1 (mem_lefts.mpr ⟨r', hr', rfl⟩) (hi'.trans hi)
        refine hi.eq ?_
        rw [← e2]
        exact hi'.len
  rw [lean_eq, lean_eq, k]
  refine List.map_congr_left fun l hl => ?_
  rw [(more_fin M h.ok g.ok).end_ h.ok g.ok s (lefts_lw h (mem_kept.mp hl).1).1]
theorem lean_more {rs ms : List Ru} (M : MoreR rs ms) (h : R6 rs) (g : R6 (rs ++ ms)) (g' : R6 (ms ++ rs)) (s : SureM rs) : leanM (ms ++ rs) = leanM rs := by
  have same : SameR (rs ++ ms) (ms ++ rs) := fun r => by rw [List.mem_append, List.mem_append]; exact or_comm
  rw [← same.lean g g' ((more_fin M h.ok g.ok).sure h.ok g.ok s), more_lean M h g s]
/-! what the law draws -/
open Classical in
noncomputable def moreM1 (rs : List Ru) (n : Int) (k : Nat) : List Ru :=
  if nextsM rs (wordM (drawnM n k) [97, 98, 99] 6) = [] then [] else
    [(wordM (drawnM n k) [97, 98, 99] 6, if drawnM n k / 16 % 2 = 0 then (endsM rs (wordM (drawnM n k) [97, 98, 99] 6)).headD [] else (nextsM rs (wordM (drawnM n k) [97, 98, 99] 6)).getLastD [])]
noncomputable def moreM (rs : List Ru) (n : Int) : List Ru := (List.range (n % 4).toNat).flatMap (moreM1 rs n)
theorem more1_len (rs : List Ru) (n : Int) (k : Nat) : (moreM1 rs n k).length ≤ 1 := by
  unfold moreM1
  split
  · exact Nat.zero_le _
  · exact Nat.le_refl _
theorem more_len (rs : List Ru) (n : Int) : (moreM rs n).length ≤ 3 := by
  unfold moreM
  refine Nat.le_trans (flatMap_len _ fun k _ => more1_len rs n k) ?_
  rw [List.length_range]
  have h1 := Int.emod_nonneg n (show (4 : Int) ≠ 0 by decide)
  have h2 := Int.emod_lt_of_pos n (show (0 : Int) < 4 by decide)
  omega
theorem more1_ok {rs : List Ru} (h : Rs rs) {n : Int} {k : Nat} {m : Ru} (hm : m ∈ moreM1 rs n k) : Rl m ∧ m.1.length ≤ 6 ∧ Reach rs m.1 m.2 ∧ nextsM rs m.1 ≠ [] := by
  unfold moreM1 at hm
  have hw : Lw (wordM (drawnM n k) [97, 98, 99] 6) := (word_wd (by decide)).lw
  have hl : ((wordM (drawnM n k) [97, 98, 99] 6).length : Int) ≤ 6 := wordM_len (by decide)
  generalize wordM (drawnM n k) [97, 98, 99] 6 = w at hm hw hl
  split at hm
  · cases hm
  · rename_i hne
    obtain rfl := List.mem_singleton.mp hm
    have last : (nextsM rs w).getLastD [] ∈ nextsM rs w := by
      cases e : nextsM rs w with
      | nil => exact absurd e hne
      | cons x l => rw [List.getLastD_cons]; exact List.getLastD_mem_cons
    have head : (endsM rs w).headD [] ∈ endsM rs w := by
      cases e : endsM rs w with
      | nil => exact absurd e (endsM_ne h hw)
      | cons x l => exact List.mem_cons_self
    have key : ∀ v, Reach rs w v → v ≠ w → Rl (w, v) ∧ w.length ≤ 6 ∧ Reach rs w v ∧ nextsM rs w ≠ [] := fun v r hv => by
      have hlt : ltW v w := by
        rcases r.lt h with e | e
        · exact absurd e hv
        · exact e
      refine ⟨⟨?_, by show w.length ≤ 12; omega, hw, (r.ok h).1 hw, hlt⟩, by omega, r, hne⟩
      show 1 ≤ w.length
      rcases hlt with q | ⟨_, q⟩
      · omega
      · cases w with
        | nil => exact absurd q (List.not_lt_nil _)
        | cons x l => rw [List.length_cons]; omega
    show Rl (w, _) ∧ w.length ≤ 6 ∧ Reach rs w _ ∧ nextsM rs w ≠ []
    split
    · have q := (mem_endsM h hw).mp head
      exact key _ q.1 fun e => hne (by rw [← e]; exact q.2)
    · refine key _ (.step last (.refl _)) fun e => ?_
      have q := nexts_lt h last
      rw [e] at q
      rcases q with q | ⟨_, q⟩
      · omega
      · exact List.lt_irrefl _ q
theorem more_ok {rs : List Ru} (h : Rs rs) {n : Int} {m : Ru} (hm : m ∈ moreM rs n) : Rl m ∧ m.1.length ≤ 6 ∧ Reach rs m.1 m.2 ∧ nextsM rs m.1 ≠ [] := by
  unfold moreM at hm
  obtain ⟨k, _, hk⟩ := List.mem_flatMap.mp hm
  exact more1_ok h hk
theorem more_more {rs : List Ru} (h : Rs rs) (n : Int) : MoreR rs (moreM rs n) := ⟨fun m hm => (more_ok h hm).2.2.1, fun m hm => (more_ok h hm).2.2.2⟩
theorem more_r6 {rs ms : List Ru} (h : R6 rs) (hl : rs.length ≤ 8) (hm : ms.length ≤ 3) (q : ∀ m ∈ ms, Rl m ∧ m.1.length ≤ 6) : R6 (rs ++ ms) ∧ R6 (ms ++ rs) := by
  constructor
  · refine ⟨⟨by rw [List.length_append]; omega, fun r hr => ?_⟩, fun r hr => ?_⟩
    · exact (List.mem_append.mp hr).elim (h.ok.all r) fun z => (q r z).1
    · exact (List.mem_append.mp hr).elim (h.six r) fun z => (q r z).2
  · refine ⟨⟨by rw [List.length_append]; omega, fun r hr => ?_⟩, fun r hr => ?_⟩
    · exact (List.mem_append.mp hr).elim (fun z => (q r z).1) (h.ok.all r)
    · exact (List.mem_append.mp hr).elim (fun z => (q r z).2) (h.six r)
/-! one text in another -/
theorem Op2.inS {X : Cx} {u v : List Nat} : Op2 X (compareOp .In) (.str u) (.str v) (.bl (decide ((0 : Int) ≤ findM v u))) := Op2.of op_in_str fun H0 H e a b ha hb Q q => by
  rw [dat_str] at ha hb; subst ha hb
  refine ⟨sx u, sx v, rfl, rfl, q _ (dat_bl.mpr ?_)⟩
  unfold findM Txt.find
  cases h : Builtin.Str.occurrences (sx v) (sx u) 0 (sx v).length 1 with
  | nil => rfl
  | cons x l =>
    show V.bl true = V.bl (decide ((0 : Int) ≤ (x : Int)))
    rw [decide_eq_true (Int.natCast_nonneg x)]
end Wm

set_option Elab.async false
set_option linter.all false
set_option maxRecDepth 100000
/-! WmH: the def's frame, and the two ways of an if that meet again. -/
namespace Wm
open PySem PySem.Spec PyProof.Rows L2
section
variable {X : Cx} {ds : List Sl} {c : Expr} {pos : Pos} {rest body orelse : List Stmt} {O : Outs}
theorem S.ifJ {k : Bool} (J : List Sl → Prop) (h : T X ds c k) (ht : k = true → S X body ds { O with nx := J }) (hf : k = false → S X orelse ds { O with nx := J }) (n : ∀ ds', J ds' → S X rest ds' O) : S X (.If c body orelse pos :: rest) ds O :=
  S.if h (fun q => S.weak (ht q) (fun ds' j => n ds' j) (fun _ z => z) (fun _ z => z) (fun _ z => z)) (fun q => S.weak (hf q) (fun ds' j => n ds' j) (fun _ z => z) (fun _ z => z) (fun _ z => z))
end
/-- the def x stands -/
def Stands (K : PySem.W.Frag) (mg : Str → Option Value) (x : Str) (st : Stmt) : Prop := ∃ f fd, Fun K x x st f fd ∧ mg x = some (.ref f)
section
variable {P : Program} {w : World} {K : PySem.W.Frag} {mg : Str → Option Value} {base : Heap}
/-- the built-ins' names are the module's own nowhere -/
structure NoB (mg : Str → Option Value) : Prop where
  len : mg "len" = none
  range : mg "range" = none
  tuple : mg "tuple" = none
  list : mg "list" = none
  set : mg "set" = none
  sorted : mg "sorted" = none
  enumerate : mg "enumerate" = none
  zip : mg "zip" = none
  min : mg "min" = none
  any : mg "any" = none
  all : mg "all" = none
  isinstance : mg "isinstance" = none
  int : mg "int" = none
  bool : mg "bool" = none
  str : mg "str" = none
theorem NoB.bi {A : Around} {k : Nat} (n : NoB mg) (hr : Room k A) : BiOf A mg true :=
  ⟨rfl, by have := hr.un; omega, hr.hd, n.len, n.range, n.tuple, n.list, n.set, n.sorted, n.enumerate, n.zip, n.min, n.any, n.all, n.isinstance, n.int, n.bool, n.str⟩
theorem Def.of {x : Str} {st : Stmt} {N ps : List Str} {k : Nat} {F : List D → D → Prop} (Sx : Stands K mg x st) (Nb : NoB mg) (Sc : FnScope N ps (defScope st))
    (hb : ∀ {f : Addr} {fd : FuncData}, Fun K x x st f fd → Binds K fd ps []) (hlen : ps.length ≤ N.length)
    (body : ∀ (f : Addr) (cdv : Value) (A : Around) (outer : List PySem.Env) (s : Shared) (H : Hp) (E : XK), Room k (cxOf CX0 P w K mg base N x (defScope st) f cdv A outer s H E).nox.A → Bi (cxOf CX0 P w K mg base N x (defScope st) f cdv A outer s H E).nox → (cxOf CX0 P w K mg base N x (defScope st) f cdv A outer s H E).nox.N.Nodup →
      ∀ ds d, ds.length = ps.length → F ds d → S (cxOf CX0 P w K mg base N x (defScope st) f cdv A outer s H E).nox (defBody st) (ds.map Sl.d ++ List.replicate (N.length - ps.length) Sl.no) { nx := fun _ => d = .non, rt := fun d' => d' = d }) : Def P w K mg base (k + 1) x ps F := by
  obtain ⟨f, fd, Fn, hm⟩ := Sx
  refine Def.mk Fn hm Sc (hb Fn) hlen fun X _ _ _ _ hr cdv A outer s H E hX ds d hl hF => ?_
  subst hX
  exact body f cdv A outer s H E hr (Nb.bi hr) Sc.nd ds d hl hF
/-- a def that may raise -/
theorem DefX.of {x : Str} {st : Stmt} {N ps : List Str} {k : Nat} {C : Addr} {F : List D → Option D → Prop} (Sx : Stands K mg x st) (Nb : NoB mg) (Sc : FnScope N ps (defScope st))
    (hb : ∀ {f : Addr} {fd : FuncData}, Fun K x x st f fd → Binds K fd ps []) (hlen : ps.length ≤ N.length)
    (body : ∀ (f : Addr) (cdv : Value) (A : Around) (outer : List PySem.Env) (s : Shared) (H : Hp) (E : XK), Room k (cxOf (L2.CX P w) P w K mg base N x (defScope st) f cdv A outer s H E).A → Bi (cxOf (L2.CX P w) P w K mg base N x (defScope st) f cdv A outer s H E) → (cxOf (L2.CX P w) P w K mg base N x (defScope st) f cdv A outer s H E).N.Nodup →
      ∀ ds r, ds.length = ps.length → F ds r → S (cxOf (L2.CX P w) P w K mg base N x (defScope st) f cdv A outer s H E) (defBody st) (ds.map Sl.d ++ List.replicate (N.length - ps.length) Sl.no) { nx := fun _ => r = some .non, rt := fun d' => r = some d', ex := fun c => c = .ref C ∧ r = none }) : DefX P w K mg base (k + 1) x ps C F := by
  obtain ⟨f, fd, Fn, hm⟩ := Sx
  refine DefX.mk Fn hm Sc (hb Fn) hlen fun X _ _ _ _ hr cdv A outer s H E hX ds d hl hF => ?_
  subst hX
  exact body f cdv A outer s H E hr (Nb.bi hr) Sc.nd ds d hl hF
end
theorem ltP_w (a b : Wo) : decide ((a.length : Int) < (b.length : Int) ∨ ((a.length : Int) = (b.length : Int) ∧ a < b)) = decide (ltW a b) := by
  apply decide_eq_decide.mpr
  unfold ltW
  constructor
  · rintro (q | ⟨q, r⟩)
    · exact .inl (by omega)
    · exact .inr ⟨by omega, r⟩
  · rintro (q | ⟨q, r⟩)
    · exact .inl (by omega)
    · exact .inr ⟨by omega, r⟩
theorem atI_two {α : Type} {a b : α} {i : Int} (h : i = 0 ∨ i = 1) : L2.atI [a, b] i = some (if i = 0 then a else b) := by
  rcases h with rfl | rfl <;> rfl
theorem cutA_0i {α : Type} (w : List α) {q : Int} (h : 0 ≤ q) : cutA w none (some q) = w.take q.toNat := by
  obtain ⟨n, rfl⟩ := Int.eq_ofNat_of_zero_le h
  exact cutA_0n w n
theorem cutA_i0 {α : Type} (w : List α) {q : Int} (h : 0 ≤ q) : cutA w (some q) none = w.drop q.toNat := by
  obtain ⟨n, rfl⟩ := Int.eq_ofNat_of_zero_le h
  exact cutA_n0 w n
theorem rd_get0 (r : Ru) : L2.atI [D.str r.1, D.str r.2] 0 = some (.str r.1) := rfl
theorem rd_get1 (r : Ru) : L2.atI [D.str r.1, D.str r.2] 1 = some (.str r.2) := rfl
theorem atI_nat {α : Type} {xs : List α} {i : Nat} {x : α} (h : xs[i]? = some x) : L2.atI xs (i : Int) = some x := by
  unfold L2.atI
  have hl := (List.getElem?_eq_some_iff.mp h).1
  have e : ixN xs.length (i : Int) = some i := by
    unfold ixN
    simp [hl]
  rw [e]; exact h
theorem atI_map {α β : Type} (f : α → β) (xs : List α) (i : Int) : L2.atI (xs.map f) i = (L2.atI xs i).map f := by
  unfold L2.atI
  rw [List.length_map]
  cases ixN xs.length i with
  | none => rfl
  | some j => exact List.getElem?_map
/-- rules and a word: the word's ends -/
def F_endsG (ds : List D) (d : D) : Prop := ∃ (rs : List Ru) (wd : Wo), ds = [rsd rs, .str wd] ∧ Rs rs ∧ Lw wd ∧ wd.length ≤ 12 ∧ d = .tup ((endsM rs wd).map D.str)
/-- the law is asked of a script and answers True -/
def F_law (ds : List D) (d : D) : Prop := ∃ (ns : List Int), ds = [.scr ns] ∧ ns.length ≤ 63 ∧ d = .bl true
abbrev ps_law : List Str := ["_law_script"]
theorem bne_self {x : D} (h : nob x = true) : (!D.eqv x x) = false := by rw [D.eqv_self h]; rfl
end Wm

set_option Elab.async false
set_option linter.all false
set_option maxRecDepth 100000
/-! WmEnd: what the end of a proof wants. -/
namespace Wm
open PySem PySem.Spec PyProof.Rows L2
section
variable {Goal : Prop} {K : PySem.W.Frag} {h : Heap} {mg : Str → Option Value}
theorem with_def (x : Str) (st : Stmt) {f : Addr} {od an : Option Addr} {sl : Array (Option Value)} {oc kV dc pm cd ct : Value} (X : K.In h) (G : h.Ns mainGlobals mg)
    (a : PySem.W.nsIn K mainGlobals x = some (some (.ref f))) (l : K.lookup f = some ⟨oc, od, .func (PySem.W.fnOf x x (defArgs st) (defBody st) (defScope st) .none kV dc pm an cd ct), sl⟩) (c : PySem.W.codeIn K cd x = true) (k : PySem.W.keepIn K (.ref f) = true)
    (n : Stands K mg x st → Goal) : Goal := n ⟨f, _, fun_mk (st := st) l c k, PySem.W.mg_of X G a⟩
theorem with_no (x : Str) (X : K.In h) (G : h.Ns mainGlobals mg) (z : PySem.W.nsIn K mainGlobals x = some none) (n : mg x = none → Goal) : Goal := n (PySem.W.mg_none_of X G z)
theorem with_cls (x : Str) {C : Addr} (X : K.In h) (G : h.Ns mainGlobals mg) (a : PySem.W.nsIn K mainGlobals x = some (some (.ref C))) (n : mg x = some (.ref C) → Goal) : Goal := n (PySem.W.mg_of X G a)
theorem with_fact {p : Prop} (a : p) (n : p → Goal) : Goal := n a
theorem with_own (x : Str) {C : Addr} (X : K.In h) (G : h.Ns mainGlobals mg) (a : PySem.W.nsIn K mainGlobals x = some (some (.ref C)))
    (e : PySem.W.excIn K C [.type "ValueError", .type "Exception", .type "BaseException", .type "object"] "ValueError.__new__" = true) (k : PySem.W.keepIn K (.ref C) = true) (b : PySem.W.subIn K (.ref C) (.type "BaseException") = some true) (t : PySem.W.typeIn K (.ref C) = some (.type "type"))
    (hg : PySem.W.findIn K (.ref C) "__getattribute__" = some (some (.builtin "BaseException.__getattribute__"))) (hk : PySem.W.findIn K (.ref C) "__getattr__" = some none) (hd : PySem.W.hasDictIn K C = true) (ha : PySem.W.findIn K (.ref C) "__class__" = some (some (.builtin "object.__class__")))
    (hn : PySem.W.specialIn K (.builtin "object.__class__") "__get__" = some (some (.builtin "getset_descriptor.__get__"))) (ht : PySem.W.takesIn K (.builtin "object.__class__") = some true) (hm : PySem.W.mroIn K C (.type "object") = some true) (hs : PySem.W.subIn K (.ref C) (.ref C) = some true)
    (n : Own K mg x C → ExcC K C → PySem.W.exmOne K (.ref C) (.ref C) = some true → mg x = some (.ref C) → Goal) : Goal :=
  n ⟨PySem.W.mg_of X G a, e, k, b, t⟩ ⟨hg, hk, b, hd, ha, hn, ht, hm⟩ (PySem.W.exm_ref b hd t hs) (PySem.W.mg_of X G a)
end
theorem kit_own {K : PySem.W.Frag} {C M : Addr} {b : Bool} (hne : (Value.ref C == Value.ref M) = false) (hd : PySem.W.hasDictIn K M = true) (ht : PySem.W.typeIn K (.ref M) = some (.type "type")) (h4 : PySem.W.subIn K (.ref C) (.ref M) = some b) : PySem.W.kitOne K (.ref C) (.ref M) = some b := by
  obtain ⟨cd, hc, _⟩ := PySem.W.any_some hd
  have e2 : ((PySem.W.clsIn K M).isSome && PySem.W.typeIn K (.ref M) == some (.type "type")) = true := by rw [hc, ht] <;> rfl
  unfold PySem.W.kitOne
  rw [hne]
  show (if ((PySem.W.clsIn K M).isSome && PySem.W.typeIn K (.ref M) == some (.type "type")) = true then PySem.W.subIn K (.ref C) (.ref M) else none) = some b
  rw [if_pos e2]
  exact h4
theorem kit_base {K : PySem.W.Frag} {C : Addr} {b : Bool} (h4 : PySem.W.subIn K (.ref C) (.type "ValueError") = some b) : PySem.W.kitOne K (.ref C) (.type "ValueError") = some b := by
  have e : PySem.W.kitMeta "ValueError" = true := by decide +kernel
  show (if PySem.W.kitMeta "ValueError" = true then PySem.W.subIn K (.ref C) (.type "ValueError") else none) = some b
  rw [if_pos e]
  exact h4
def spLaw (K : PySem.W.Frag) : Sp := fun vs H Q _ => ∃ (a : Addr) (ns : List Int), vs = [.ref a] ∧ SqL K H a (ns.map V.int) ∧ ns.length ≤ 63 ∧ ∀ H', Q (.bl true) H'
theorem walk {l : PySem.W.OpenLaw} {q : Program} {loose : List Str} {XP : (Str → Option Value) → Heap → Prop} {YP : World → Heap → Prop} {d : DefRec} {K : Params → PySem.W.Frag} (hn : l.most = some 63) (hdf : d.params.defaults = [])
    (hY : ∀ (w : World) (h : Heap), YP w h → (K w.params).In h)
    (F : ∀ (w : World) (mg : Str → Option Value) (fa : Addr) (h : Heap), (K w.params).In h → h.Ns mainGlobals mg → mg d.name = some (.ref fa) →
      ∃ fd : FuncData, (∀ (s : Shared) (u : Value), BindsTo s fd ⟨[u], []⟩ [("_law_script", u)]) ∧ ∀ base : Heap, (K w.params).In base → base.Ns mainGlobals mg → FnOk l.prog w (K w.params) mg base CX0 30 fa fd ["_law_script"] (spLaw (K w.params))) :
    PySem.W.WalkO q loose XP YP l.row.toRowW d [] (fun f vs => PySem.call f vs) :=
  L2.walk_of (n := 63) (k := 30) (x := "_law_script") (CX := fun _ => CX0) (sp := fun w => spLaw (K w.params)) hn (by decide) hdf ⟨rfl, by decide, by decide⟩ hY F (fun _ _ a ns hl _ hS => ⟨a, ns, rfl, hS, hl, fun _ => rfl⟩) fun _ _ _ _ _ z => z
theorem law_fin {P : Program} {w : World} {K : PySem.W.Frag} {mg : Str → Option Value} {st : Stmt} {fa : Addr} {k : Nat} (Sx : Stands K mg "law" st) (hmg : mg "law" = some (.ref fa))
    (hb : ∀ {f : Addr} {fd : FuncData}, Fun K "law" "law" st f fd → Binds K fd ps_law []) (hb2 : ∀ {f : Addr} {fd : FuncData}, Fun K "law" "law" st f fd → ∀ (s : Shared) (u : Value), BindsTo s fd ⟨[u], []⟩ [("_law_script", u)]) (hk : k ≤ 30) (Df : ∀ base : Heap, Def P w K mg base k "law" ps_law F_law) :
    ∃ fd : FuncData, (∀ (s : Shared) (u : Value), BindsTo s fd ⟨[u], []⟩ [("_law_script", u)]) ∧ ∀ base : Heap, K.In base → base.Ns mainGlobals mg → FnOk P w K mg base CX0 30 fa fd ["_law_script"] (spLaw K) := by
  obtain ⟨f, fd, Fn, hm⟩ := Sx
  refine ⟨fd, hb2 Fn, fun base _ _ => ?_⟩
  obtain ⟨f', fd', h1, h2, h3, h4, oc, od, osl, lk⟩ := Df base
  have e1 : f' = f := by rw [h2] at hm; exact Value.ref.inj (Option.some.inj hm)
  have e2 : fa = f := by rw [hmg] at hm; exact Value.ref.inj (Option.some.inj hm)
  subst e1 e2
  obtain ⟨oc', od', kV, doc, pm, an, cdv, ct, osl', _, lk', _⟩ := Fn.ex
  have e3 : fd' = fd := by
    rw [lk] at lk'
    injection lk' with q
    injection q with _ _ q _
    injection q
  subst e3
  refine (h1.mono hk).imp ?_
  rintro vs H Q E ⟨a, ns, rfl, hS, hl, q⟩
  refine ⟨H, [.scr ns], .bl true, Same.refl _, Dats.one (dat_scr.mpr ⟨a, rfl, hS⟩), rfl, ⟨ns, rfl, hl, rfl⟩, fun v H0' H' _ _ _ _ d => ?_⟩
  rw [dat_bl.mp d]
  exact q H'
end Wm

namespace Wm
open PySem PySem.Spec PyProof.Rows L2
def top (i : Nat) : Stmt := PySem.Challenge.pw_wordmelt_k41_whole_lean.main.body.getD i (.Pass ⟨0, 0, 0, 0⟩)
abbrev st_stands : Stmt := top 1
abbrev st_places : Stmt := top 2
abbrev st_changed : Stmt := top 3
abbrev st_nexts : Stmt := top 4
abbrev st_ends : Stmt := top 5
abbrev st_end : Stmt := top 6
abbrev st_overlaps : Stmt := top 8
abbrev st_clashes : Stmt := top 9
abbrev st_doubt : Stmt := top 10
abbrev st_are_sure : Stmt := top 11
abbrev st_lean : Stmt := top 13
abbrev st_l_cell_at : Stmt := top 15
abbrev st_l_mixed : Stmt := top 16
abbrev st_l_drawn : Stmt := top 17
abbrev st_l_word : Stmt := top 18
abbrev st_l_less : Stmt := top 19
abbrev st_l_rule : Stmt := top 20
abbrev st_l_tame : Stmt := top 21
abbrev st_l_rules : Stmt := top 22
abbrev st_l_places : Stmt := top 23
abbrev st_l_changed : Stmt := top 24
abbrev st_l_nexts : Stmt := top 25
abbrev st_l_ends : Stmt := top 26
abbrev st_l_more : Stmt := top 27
abbrev st_law : Stmt := top 28
section
variable {P : Program} {w : World} {K : PySem.W.Frag} {mg : Str → Option Value} {base : Heap}
theorem sc_stands : FnScope ["rule", "word", "place"] ["rule", "word", "place"] (defScope st_stands) := ⟨rfl, rfl, rfl, by decide +kernel, rfl, by decide +kernel, by decide +kernel⟩
abbrev ps_stands : List Str := ["rule", "word", "place"]
def F_stands (ds : List D) (d : D) : Prop := ∃ (r : Ru) (wd : Wo) (p : Nat), ds = [rd r, .str wd, .int p] ∧ r.1.length ≤ 1000 ∧ wd.length ≤ 1000 ∧ d = .bl (standsAt r.1 wd p)
theorem def_stands (Sx : Stands K mg "stands" st_stands) (Nb : NoB mg) : Def P w K mg base 1 "stands" ps_stands F_stands := by
  refine Def.of Sx Nb sc_stands (fun Fn => Fn.binds fun _ _ _ _ _ _ us hl => match us, hl with | [_, _, _], _ => rfl) (by decide) fun f cdv A outer s H Ex hr B Nd ds d hl hF => ?_
  obtain ⟨r, wd, p, rfl, h1, h2, rfl⟩ := hF
  refine S.ret (E.cmp (E.slS (E.var 1 rfl) (EO.yes (E.var 2 rfl)) (EO.yes (E.bin (E.var 2 rfl) (E.callB (EA.cons (E.ixT (xs := [.str r.1, .str r.2]) (E.var 0 rfl) E.int rfl) EA.nil) (CallD.lenS ?_) B.len PySem.boot_len) Op2.add)) ?_) (E.ixT (xs := [.str r.1, .str r.2]) (E.var 0 rfl) E.int rfl) Op2.eqS) ?_
  · omega
  · omega
  · show D.bl _ = D.bl _
    rw [← Int.natCast_add, cutA_nn, Nat.add_sub_cancel_left]
    rfl

theorem sc_l_cell_at : FnScope ["_law_script", "_law_k"] ["_law_script", "_law_k"] (defScope st_l_cell_at) := ⟨rfl, rfl, rfl, by decide +kernel, rfl, by decide +kernel, by decide +kernel⟩
def F_l_cell_at (ds : List D) (d : D) : Prop := ∃ (ns : List Int) (k : Nat), ds = [.scr ns, .int k] ∧ d = .int (cellM ns k)
abbrev ps_l_cell_at : List Str := ["_law_script", "_law_k"]
theorem def_l_cell_at (Sx : Stands K mg "_law_cell_at" st_l_cell_at) (Nb : NoB mg)  : Def P w K mg base 1 "_law_cell_at" ps_l_cell_at F_l_cell_at := by
  refine Def.of Sx Nb sc_l_cell_at (fun Fn => Fn.binds fun _ _ _ _ _ _ us hl => match us, hl with | [_, _], _ => rfl) (by decide) fun f cdv A outer s H Ex hr B Nd ds d hl hF => ?_
  obtain ⟨ns, k, rfl, rfl⟩ := hF
  refine S.if (T.cmp (E.var 1 rfl) (E.callB (EA.cons (E.var 0 rfl) EA.nil) CallD.lenC B.len PySem.boot_len) Op2.lt) (fun hc => ?_) (fun hc => ?_)
  · have hk : k < ns.length := by have := of_decide_eq_true hc; omega
    refine S.ret (E.ixC (E.var 0 rfl) (E.var 1 rfl) (atI_nat (List.getElem?_eq_getElem hk))) ?_
    show D.int _ = D.int _
    unfold cellM
    rw [if_pos hk, List.getD_eq_getElem?_getD, List.getElem?_eq_getElem hk]; rfl
  refine S.nil ?_
  refine S.ret E.int ?_
  have hk : ¬ k < ns.length := by have := of_decide_eq_false hc; omega
  show D.int _ = D.int _
  unfold cellM
  rw [if_neg hk]
theorem sc_l_mixed : FnScope ["_law_script", "_law_k", "_law_drawn_here"] ["_law_script", "_law_k"] (defScope st_l_mixed) := ⟨rfl, rfl, rfl, by decide +kernel, rfl, by decide +kernel, by decide +kernel⟩
def F_l_mixed (ds : List D) (d : D) : Prop := ∃ (ns : List Int) (k : Nat), ds = [.scr ns, .int k] ∧ d = .int (mixedM ns k)
abbrev ps_l_mixed : List Str := ["_law_script", "_law_k"]
theorem def_l_mixed (Sx : Stands K mg "_law_mixed" st_l_mixed) (Nb : NoB mg) (G_l_cell_at : Def P w K mg base 1 "_law_cell_at" ps_l_cell_at F_l_cell_at) : Def P w K mg base 2 "_law_mixed" ps_l_mixed F_l_mixed := by
  refine Def.of Sx Nb sc_l_mixed (fun Fn => Fn.binds fun _ _ _ _ _ _ us hl => match us, hl with | [_, _], _ => rfl) (by decide) fun f cdv A outer s H Ex hr B Nd ds d hl hF => ?_
  obtain ⟨ns, k, rfl, rfl⟩ := hF
  refine S.asg 2 (E.bin (E.bin (E.bin (E.bin (E.call G_l_cell_at (hr.mono (by decide)) (EA.cons (E.var 0 rfl) (EA.cons (E.var 1 rfl) EA.nil)) ⟨_, _, rfl, rfl⟩) (E.bin E.int (E.var 1 rfl) (Op2.mul (.inl (by decide)))) Op2.add) E.int Op2.add) E.int (Op2.mul (.inr (by decide)))) E.int (Op2.mod (by decide))) ?_
  have hd := mixedD_lt ns k
  unfold mixedD at hd
  refine S.ret (E.bin (E.bin (E.bin (E.bin (E.var 2 rfl) (E.var 2 rfl) (Op2.mul (.inl (by omega)))) (E.bin E.int (E.var 2 rfl) (Op2.mul (.inl (by decide)))) Op2.add) (E.var 1 rfl) Op2.add) E.int (Op2.mod (by decide))) ?_
  rfl

theorem sc_l_drawn : FnScope ["_law_number", "_law_k", "_law_drawn_here"] ["_law_number", "_law_k"] (defScope st_l_drawn) := ⟨rfl, rfl, rfl, by decide +kernel, rfl, by decide +kernel, by decide +kernel⟩
def F_l_drawn (ds : List D) (d : D) : Prop := ∃ (n k : Int), ds = [.int n, .int k] ∧ d = .int (drawnM n k)
abbrev ps_l_drawn : List Str := ["_law_number", "_law_k"]
theorem def_l_drawn (Sx : Stands K mg "_law_drawn" st_l_drawn) (Nb : NoB mg)  : Def P w K mg base 1 "_law_drawn" ps_l_drawn F_l_drawn := by
  refine Def.of Sx Nb sc_l_drawn (fun Fn => Fn.binds fun _ _ _ _ _ _ us hl => match us, hl with | [_, _], _ => rfl) (by decide) fun f cdv A outer s H Ex hr B Nd ds d hl hF => ?_
  obtain ⟨n, k, rfl, rfl⟩ := hF
  refine S.asg 2 (E.bin (E.bin (E.bin (E.bin (E.var 0 rfl) (E.bin E.int (E.var 1 rfl) (Op2.mul (.inl (by decide)))) Op2.add) E.int Op2.add) E.int (Op2.mul (.inr (by decide)))) E.int (Op2.mod (by decide))) ?_
  have hd := drawnD_lt n k
  unfold drawnD at hd
  refine S.ret (E.bin (E.bin (E.bin (E.bin (E.var 2 rfl) (E.var 2 rfl) (Op2.mul (.inl (by omega)))) (E.bin E.int (E.var 2 rfl) (Op2.mul (.inl (by decide)))) Op2.add) (E.var 1 rfl) Op2.add) E.int (Op2.mod (by decide))) ?_
  rfl
theorem sc_l_word : FnScope ["_law_number", "_law_letters", "_law_most", "_law_found", "_law_k"] ["_law_number", "_law_letters", "_law_most"] (defScope st_l_word) := ⟨rfl, rfl, rfl, by decide +kernel, rfl, by decide +kernel, by decide +kernel⟩
def F_l_word (ds : List D) (d : D) : Prop := ∃ (n : Int) (ls : Wo) (m : Int), ds = [.int n, .str ls, .int m] ∧ ls ≠ [] ∧ ls.length ≤ 1000 ∧ 0 ≤ m ∧ m ≤ 1000 ∧ d = .str (wordM n ls m)
abbrev ps_l_word : List Str := ["_law_number", "_law_letters", "_law_most"]
theorem def_l_word (Sx : Stands K mg "_law_word" st_l_word) (Nb : NoB mg) (G_l_drawn : Def P w K mg base 1 "_law_drawn" ps_l_drawn F_l_drawn) : Def P w K mg base 2 "_law_word" ps_l_word F_l_word := by
  refine Def.of Sx Nb sc_l_word (fun Fn => Fn.binds fun _ _ _ _ _ _ us hl => match us, hl with | [_, _, _], _ => rfl) (by decide) fun f cdv A outer s H Ex hr B Nd ds d hl hF => ?_
  obtain ⟨n, ls, m, rfl, hls, hl1, hm0, hm1, rfl⟩ := hF
  have h1 := Int.emod_nonneg n (show m + 1 ≠ 0 by omega)
  have h2 := Int.emod_lt_of_pos n (show 0 < m + 1 by omega)
  have hlp : 0 < ls.length := List.length_pos_iff.mpr hls
  refine S.asg 3 E.lit ?_
  refine S.for (List.range (n % (m + 1)).toNat) (fun k => .int (k : Nat)) (It.range1 B.range (E.bin (E.var 0 rfl) (E.bin (E.var 2 rfl) E.int Op2.add) (Op2.mod (by omega))) (by omega))
    (fun pre ds => ∃ s, ds = [.d (.int n), .d (.str ls), .d (.int m), .d (.str (pre.map fun k => letterM ls (drawnM n (k : Nat) / 8))), s]) ⟨_, rfl⟩ (fun pre a post ds' e hP => ?_) (fun ds' hP => ?_) B.calm
  · obtain ⟨s, rfl⟩ := hP
    have hpre : pre.length ≤ 1000 := by
      have := congrArg List.length e
      rw [List.length_range, List.length_append] at this
      omega
    refine ⟨[4], _, G.name 4, ?_⟩
    refine S.asg 3 (E.bin (E.var 3 rfl) (E.ixS (E.var 1 rfl) (E.bin (E.bin (E.call G_l_drawn (hr.mono (by decide)) (EA.cons (E.var 0 rfl) (EA.cons (E.var 4 rfl) EA.nil)) ⟨_, _, rfl, rfl⟩) E.int (Op2.div (by decide))) (E.callB (EA.cons (E.var 1 rfl) EA.nil) (CallD.lenS (by omega)) B.len PySem.boot_len) (Op2.mod (by omega))) (letter_at _ hls) (by omega)) (Op2.addS ?_)) ?_
    · rw [List.length_map, List.length_singleton]; omega
    refine S.nil ⟨.d (.int (a : Nat)), ?_⟩
    rw [List.map_append]
    rfl
  · obtain ⟨s, rfl⟩ := hP
    refine S.ret (E.var 3 rfl) rfl
theorem sc_l_less : FnScope ["_law_one", "_law_other"] ["_law_one", "_law_other"] (defScope st_l_less) := ⟨rfl, rfl, rfl, by decide +kernel, rfl, by decide +kernel, by decide +kernel⟩
def F_l_less (ds : List D) (d : D) : Prop := ∃ (a b : Wo), ds = [.str a, .str b] ∧ a.length ≤ 100000 ∧ b.length ≤ 100000 ∧ d = .bl (decide (ltW a b))
abbrev ps_l_less : List Str := ["_law_one", "_law_other"]
theorem def_l_less (Sx : Stands K mg "_law_less" st_l_less) (Nb : NoB mg)  : Def P w K mg base 1 "_law_less" ps_l_less F_l_less := by
  refine Def.of Sx Nb sc_l_less (fun Fn => Fn.binds fun _ _ _ _ _ _ us hl => match us, hl with | [_, _], _ => rfl) (by decide) fun f cdv A outer s H Ex hr B Nd ds d hl hF => ?_
  obtain ⟨a, b, rfl, h1, h2, rfl⟩ := hF
  refine S.ret (E.cmp (E.tup (EA.cons (E.callB (EA.cons (E.var 0 rfl) EA.nil) (CallD.lenS (by omega)) B.len PySem.boot_len) (EA.cons (E.var 0 rfl) EA.nil)) (Nat.le_of_ble_eq_true rfl)) (E.tup (EA.cons (E.callB (EA.cons (E.var 1 rfl) EA.nil) (CallD.lenS (by omega)) B.len PySem.boot_len) (EA.cons (E.var 1 rfl) EA.nil)) (Nat.le_of_ble_eq_true rfl)) (Op2.ltP B)) ?_
  show D.bl _ = D.bl _
  rw [ltP_w]

def F_l_rule (six : Bool) (ds : List D) (d : D) : Prop := ∃ (n : Int) (ls : Wo), ds = [.int n, .str ls] ∧ Ls ls ∧ d = rd (ruleM six n ls)
abbrev ps_l_rule : List Str := ["_law_number", "_law_letters"]
theorem sc_l_rule : FnScope ["_law_number", "_law_letters", "_law_left", "_law_right"] ["_law_number", "_law_letters"] (defScope st_l_rule) := ⟨rfl, rfl, rfl, by decide +kernel, rfl, by decide +kernel, by decide +kernel⟩
theorem def_l_rule (Sx : Stands K mg "_law_rule" st_l_rule) (Nb : NoB mg) (G_l_word : Def P w K mg base 2 "_law_word" ps_l_word F_l_word) (G_l_drawn : Def P w K mg base 1 "_law_drawn" ps_l_drawn F_l_drawn) (G_l_less : Def P w K mg base 1 "_law_less" ps_l_less F_l_less) : Def P w K mg base 3 "_law_rule" ps_l_rule (F_l_rule false) := by
  refine Def.of Sx Nb sc_l_rule (fun Fn => Fn.binds fun _ _ _ _ _ _ us hl => match us, hl with | [_, _], _ => rfl) (by decide) fun f cdv A outer s H Ex hr B Nd ds d hl hF => ?_
  obtain ⟨n, ls, rfl, hls, rfl⟩ := hF
  have hle := hls.le
  have hge := hls.ge
  have l0 := left0_len n ls
  refine S.asg 2 (E.cast (E.bin (E.call G_l_word (hr.mono (by decide)) (EA.cons (E.bin (E.bin (E.bin E.int (E.bin (E.var 0 rfl) E.int (Op2.div (by decide))) (Op2.mul (.inl (by decide)))) E.int Op2.add) (E.bin (E.var 0 rfl) E.int (Op2.mod (by decide))) Op2.add) (EA.cons (E.var 1 rfl) (EA.cons E.int EA.nil))) ⟨_, _, _, rfl, hls.ne, by omega, by decide, by decide, rfl⟩) (E.ixS (E.var 1 rfl) (E.bin (E.bin (E.var 0 rfl) E.int (Op2.div (by decide))) (E.callB (EA.cons (E.var 1 rfl) EA.nil) (CallD.lenS (by omega)) B.len PySem.boot_len) (Op2.mod (by omega))) (letter_at _ hls.ne) (by omega)) (Op2.addS ?_)) (show _ = D.str (left0M n ls) from rfl)) ?_
  · have := wordM_len (n := 3 * (n / 4) + 1 + n % 3) (ls := ls) (show (0 : Int) ≤ 2 by decide)
    rw [List.length_singleton]; omega
  refine S.ifJ (fun ds => ds = [.d (.int n), .d (.str ls), .d (.str (leftM false n ls)), .no]) (T.cmp (E.bin (E.bin (E.var 0 rfl) E.int (Op2.div (by decide))) E.int (Op2.mod (by decide))) E.int Op2.eqI) (fun hc => ?_) (fun hc => ?_) (fun ds' hJ => ?_)
  · have hc' := of_decide_eq_true hc
    have m1 := Int.emod_nonneg (n / 288) (show (3 : Int) ≠ 0 by decide)
    refine S.asg 2 (E.slS (E.bin (E.var 2 rfl) E.int (Op2.mulS (by omega) (by omega) (by omega))) EO.no (EO.yes E.int) (by rw [rep_len, show (4 : Int).toNat = 4 from rfl]; omega)) ?_
    refine S.nil ?_
    unfold leftM
    rw [if_pos hc', cutA_0i _ (by omega)]
    rfl
  · have hc' := of_decide_eq_false hc
    refine S.nil ?_
    unfold leftM
    rw [if_neg hc']
    rfl
  subst hJ
  have l1 := left_len false n ls
  have rw0 := wordM_len (n := drawnM n 50) (ls := ls) (show (0 : Int) ≤ (leftM false n ls).length by omega)
  refine S.asg 3 (E.call G_l_word (hr.mono (by decide)) (EA.cons (E.call G_l_drawn (hr.mono (by decide)) (EA.cons (E.var 0 rfl) (EA.cons E.int EA.nil)) ⟨_, _, rfl, rfl⟩) (EA.cons (E.var 1 rfl) (EA.cons (E.callB (EA.cons (E.var 2 rfl) EA.nil) (CallD.lenS (by omega)) B.len PySem.boot_len) EA.nil))) ⟨_, _, _, rfl, hls.ne, by omega, by omega, by omega, rfl⟩) ?_
  refine S.ifJ (fun ds => ds = [.d (.int n), .d (.str ls), .d (.str (leftM false n ls)), .d (.str (rightM n ls (leftM false n ls)))]) (T.not (T.val (E.call G_l_less (hr.mono (by decide)) (EA.cons (E.var 3 rfl) (EA.cons (E.var 2 rfl) EA.nil)) ⟨_, _, rfl, by omega, by omega, rfl⟩))) (fun hc => ?_) (fun hc => ?_) (fun ds' hJ => ?_)
  · have hc' : ¬ ltW (wordM (drawnM n 50) ls (leftM false n ls).length) (leftM false n ls) := by simpa using hc
    refine S.asg 3 (E.slS (E.var 3 rfl) (EO.yes E.int) (EO.yes (E.callB (EA.cons (E.var 2 rfl) EA.nil) (CallD.lenS (by omega)) B.len PySem.boot_len)) (by omega)) ?_
    refine S.nil ?_
    unfold rightM
    rw [if_neg hc']
    have e := cutA_nn (wordM (drawnM n 50) ls (leftM false n ls).length) 1 (leftM false n ls).length
    rw [← e]
    rfl
  · have hc' : ltW (wordM (drawnM n 50) ls (leftM false n ls).length) (leftM false n ls) := by simpa using hc
    refine S.nil ?_
    unfold rightM
    rw [if_pos hc']
    rfl
  subst hJ
  refine S.ret (E.tup (EA.cons (E.var 2 rfl) (EA.cons (E.var 3 rfl) EA.nil)) (Nat.le_of_ble_eq_true rfl)) ?_
  rfl

theorem sc_l_tame : FnScope ["_law_number", "_law_letters", "_law_found", "_law_k", "_law_letter", "_law_drawn_here"] ["_law_number", "_law_letters"] (defScope st_l_tame) := ⟨rfl, rfl, rfl, by decide +kernel, rfl, by decide +kernel, by decide +kernel⟩
def F_l_tame (ds : List D) (d : D) : Prop := ∃ (n : Int) (ls : Wo), ds = [.int n, .str ls] ∧ Ls ls ∧ d = .lst ((tameM n ls).map rd)
abbrev ps_l_tame : List Str := ["_law_number", "_law_letters"]
def tame3 (n : Int) (ls : Wo) : List Ru := ([([98, 97], [97, 98]), ([99, 97], [97, 99]), ([99, 98], [98, 99])] : List Ru).take (2 * ls.length - 3)
theorem tame0_of (n : Int) (ls : Wo) : tame0 n ls = if n % 2 = 1 then (tame3 n ls).take (n / 2 % 2).toNat else tame3 n ls := rfl
theorem zipIdx_snoc {α : Type} (pre : List α) (a : α) : (pre ++ [a]).zipIdx = pre.zipIdx ++ [(a, pre.length)] := by
  rw [List.zipIdx_append]; simp
theorem def_l_tame (Sx : Stands K mg "_law_tame" st_l_tame) (Nb : NoB mg) (G_l_drawn : Def P w K mg base 1 "_law_drawn" ps_l_drawn F_l_drawn) : Def P w K mg base 2 "_law_tame" ps_l_tame F_l_tame := by
  refine Def.of Sx Nb sc_l_tame (fun Fn => Fn.binds fun _ _ _ _ _ _ us hl => match us, hl with | [_, _], _ => rfl) (by decide) fun f cdv A outer s H Ex hr B Nd ds d hl hF => ?_
  obtain ⟨n, ls, rfl, hls, rfl⟩ := hF
  have hle := hls.le
  have hge := hls.ge
  refine S.asgL 2 (EL.cast (EL.sl (EL.disp (EA.cons (E.tup (EA.cons E.lit (EA.cons E.lit EA.nil)) (Nat.le_of_ble_eq_true rfl)) (EA.cons (E.tup (EA.cons E.lit (EA.cons E.lit EA.nil)) (Nat.le_of_ble_eq_true rfl)) (EA.cons (E.tup (EA.cons E.lit (EA.cons E.lit EA.nil)) (Nat.le_of_ble_eq_true rfl)) EA.nil))) (Nat.le_of_ble_eq_true rfl)).e EO.no (EO.yes (E.bin (E.bin E.int (E.callB (EA.cons (E.var 1 rfl) EA.nil) (CallD.lenS (by omega)) B.len PySem.boot_len) (Op2.mul (.inl (by decide)))) E.int Op2.sub))) (show _ = (tame3 n ls).map rd from ?_)) ?_
  · rw [cutA_0i _ (by omega), show (2 * (ls.length : Int) - 3).toNat = 2 * ls.length - 3 by omega]
    unfold tame3
    rw [List.map_take]
    rfl
  refine S.ifJ (fun ds => ds = [.d (.int n), .d (.str ls), .ol ((tame0 n ls).map rd), .no, .no, .no]) (T.cmp (E.bin (E.var 0 rfl) E.int (Op2.mod (by decide))) E.int Op2.eqI) (fun hc => ?_) (fun hc => ?_) (fun ds' hJ => ?_)
  · refine S.freeze (i := 2) rfl ?_
    refine S.asgL 2 (EL.cast (EL.sl (E.var 2 rfl) EO.no (EO.yes (E.bin (E.bin (E.var 0 rfl) E.int (Op2.div (by decide))) E.int (Op2.mod (by decide))))) (show _ = (tame0 n ls).map rd from ?_)) ?_
    · have m1 := Int.emod_nonneg (n / 2) (show (2 : Int) ≠ 0 by decide)
      rw [cutA_0i _ m1, tame0_of, if_pos (of_decide_eq_true hc), List.map_take]
    exact S.nil rfl
  · refine S.nil ?_
    rw [tame0_of, if_neg (of_decide_eq_false hc)]
    rfl
  subst hJ
  refine S.for ls.zipIdx (fun q => .tup [.int (q.2 : Nat), .str [q.1]]) (It.cast (It.enumS B (E.var 1 rfl)) ?_) (fun pre ds => ∃ s1 s2 s3, ds = [.d (.int n), .d (.str ls), .ol ((tame0 n ls ++ pre.flatMap fun q => tame1 n q.2 q.1).map rd), s1, s2, s3]) ⟨_, _, _, by rw [List.flatMap_nil, List.append_nil]⟩ (fun pre a post ds' e hP => ?_) (fun ds' hP => ?_) B.calm
  · unfold enumD
    rw [List.zipIdx_map, List.map_map]
    rfl
  · obtain ⟨s1, s2, s3, rfl⟩ := hP
    refine ⟨[3, 4], _, (G.pair B.calm (G.name 3) (G.name 4)), ?_⟩
    refine S.asg 5 (E.call G_l_drawn (hr.mono (by decide)) (EA.cons (E.var 0 rfl) (EA.cons (E.var 3 rfl) EA.nil)) ⟨_, _, rfl, rfl⟩) ?_
    have t1 := Int.emod_nonneg (drawnM n (a.2 : Nat) / 3) (show (2 : Int) ≠ 0 by decide)
    have t2 := Int.emod_lt_of_pos (drawnM n (a.2 : Nat) / 3) (show (0 : Int) < 2 by decide)
    have t3 := Int.emod_nonneg (drawnM n (a.2 : Nat) / 6) (show (2 : Int) ≠ 0 by decide)
    have t4 := Int.emod_lt_of_pos (drawnM n (a.2 : Nat) / 6) (show (0 : Int) < 2 by decide)
    have len0 := (tame0_ok (n := n) (ls := ls)).1
    have fin : ∀ q ∈ ls.zipIdx, (tame1 n q.2 q.1).length ≤ 1 := fun q hq => (tame1_ok (hls.lw _ (List.fst_mem_of_mem_zipIdx hq))).1
    have flen := flatMap_len (f := fun q : Nat × Nat => tame1 n q.2 q.1) pre fun q hq => fin q (by rw [e]; exact List.mem_append_left _ hq)
    have plen : pre.length ≤ 3 := by
      have := congrArg List.length e
      rw [List.length_zipIdx, List.length_append] at this
      omega
    refine S.ifJ (fun ds => ds = [.d (.int n), .d (.str ls), .ol ((tame0 n ls ++ (pre ++ [a]).flatMap fun q => tame1 n q.2 q.1).map rd), .d (.int (a.2 : Nat)), .d (.str [a.1]), .d (.int (drawnM n (a.2 : Nat)))]) (T.cmp (E.bin (E.var 5 rfl) E.int (Op2.mod (by decide))) E.int Op2.gt) (fun hc => ?_) (fun hc => ?_) (fun ds' hJ => ?_)
    · refine S.append 2 rfl (E.tup (EA.cons (E.bin (E.var 4 rfl) (E.bin E.int (E.bin (E.bin (E.var 5 rfl) E.int (Op2.div (by decide))) E.int (Op2.mod (by decide))) Op2.add) (Op2.mulS (by omega) (by omega) (by simp))) (EA.cons (E.bin (E.var 4 rfl) (E.bin (E.bin (E.var 5 rfl) E.int (Op2.div (by decide))) E.int (Op2.mod (by decide))) (Op2.mulS (by omega) (by omega) (by simp))) EA.nil)) (Nat.le_of_ble_eq_true rfl)) ?_ ?_
      · rw [List.length_map, List.length_append]; omega
      refine S.nil ?_
      have one : ∀ k : Nat, (List.replicate k [a.1]).flatten = List.replicate k a.1 := fun k => by
        induction k with
        | zero => rfl
        | succ k ih => rw [List.replicate_succ, List.flatten_cons, ih]; rfl
      rw [List.flatMap_append, List.flatMap_singleton]
      unfold tame1
      rw [if_pos (of_decide_eq_true hc), ← List.append_assoc, List.map_append (l₂ := [_]), one, one]
      rfl
    · refine S.nil ?_
      rw [List.flatMap_append, List.flatMap_singleton]
      have e1 : tame1 n a.2 a.1 = [] := by unfold tame1; rw [if_neg (of_decide_eq_false hc)]
      rw [e1, List.append_nil]
      rfl
    subst hJ
    exact S.nil ⟨_, _, _, rfl⟩
  · obtain ⟨s1, s2, s3, rfl⟩ := hP
    refine S.freeze (i := 2) rfl ?_
    exact S.ret (E.var 2 rfl) rfl

theorem sc_l_rules : FnScope ["_law_number", "_law_letters", "_law_found", "_law_by", "_law_k"] ["_law_number"] (defScope st_l_rules) := ⟨rfl, rfl, rfl, by decide +kernel, rfl, by decide +kernel, by decide +kernel⟩
def F_l_rules (ds : List D) (d : D) : Prop := ∃ (n : Int), ds = [.int n] ∧ d = rsd (rulesM false 5 n)
abbrev ps_l_rules : List Str := ["_law_number"]
theorem def_l_rules (Sx : Stands K mg "_law_rules" st_l_rules) (Nb : NoB mg) (G_l_tame : Def P w K mg base 2 "_law_tame" ps_l_tame F_l_tame) (G_l_rule : Def P w K mg base 3 "_law_rule" ps_l_rule (F_l_rule false)) (G_l_drawn : Def P w K mg base 1 "_law_drawn" ps_l_drawn F_l_drawn) : Def P w K mg base 4 "_law_rules" ps_l_rules F_l_rules := by
  refine Def.of Sx Nb sc_l_rules (fun Fn => Fn.binds fun _ _ _ _ _ _ us hl => match us, hl with | [_], _ => rfl) (by decide) fun f cdv A outer s H Ex hr B Nd ds d hl hF => ?_
  obtain ⟨n, rfl, rfl⟩ := hF
  have hls := letters_ok n
  have m1 := Int.emod_nonneg (n / 4) (show (2 : Int) ≠ 0 by decide)
  have m2 := Int.emod_lt_of_pos (n / 4) (show (0 : Int) < 2 by decide)
  have k1 := Int.emod_nonneg (n / 8) (show (5 : Int) ≠ 0 by decide)
  have k2 := Int.emod_lt_of_pos (n / 8) (show (0 : Int) < 5 by decide)
  have f2 := found2_ok (six := false) (most := 5) (n := n) (by decide)
  refine S.asg 1 (E.cast (E.ixT (E.tup (EA.cons E.lit (EA.cons E.lit EA.nil)) (Nat.le_of_ble_eq_true rfl)) (E.bin (E.bin (E.var 0 rfl) E.int (Op2.div (by decide))) E.int (Op2.mod (by decide))) (atI_two (by omega))) (show _ = D.str (lettersM n) from ?_)) ?_
  · unfold lettersM
    by_cases c : n / 4 % 2 = 0
    · rw [if_pos c, if_pos c]; rfl
    · rw [if_neg c, if_neg c]; rfl
  refine S.asg 2 (E.call G_l_tame (hr.mono (by decide)) (EA.cons (E.bin (E.var 0 rfl) E.int (Op2.div (by decide))) (EA.cons (E.var 1 rfl) EA.nil)) ⟨_, _, rfl, hls, rfl⟩) ?_
  refine S.ifJ (fun ds => ∃ s3 s4, ds = [.d (.int n), .d (.str (lettersM n)), .d (.lst ((found2M false 5 n).map rd)), s3, s4]) (T.cmp (E.bin (E.var 0 rfl) E.int (Op2.mod (by decide))) E.int Op2.gt) (fun hc => ?_) (fun hc => ?_) (fun ds' hJ => ?_)
  · refine S.asgC [("_law_k", 4)] (as := List.range (n / 8 % 5).toNat) (ι := fun k => .int (k : Nat)) (p := fun _ => true) (f := fun k => rd (ruleM false (drawnM n (9 + (k : Nat))) (lettersM n))) 2 (It.range1 B.range (E.bin (E.bin (E.var 0 rfl) E.int (Op2.div (by decide))) E.int (Op2.mod (by decide))) (by omega)) (blkOk_by (by rfl)) ?_ (fun a ha => ⟨[4], _, by decide, by rfl, fun s H C cl fp => ⟨(G.name 4), rfl, fun hp => (E.call G_l_rule (hr.mono (by decide)) (EA.cons (E.call G_l_drawn (hr.mono (by decide)) (EA.cons (E.var 0 rfl) (EA.cons (E.bin E.int (E.var 4 rfl) Op2.add) EA.nil)) ⟨_, _, rfl, rfl⟩) (EA.cons (E.var 1 rfl) EA.nil)) ⟨_, _, rfl, hls, rfl⟩)⟩⟩) B.calm ?_ (sw_true rfl rfl rfl (by decide +kernel))
    · rw [List.length_range]; omega
    refine S.freeze (i := 2) rfl ?_
    refine S.nil ⟨.no, .no, ?_⟩
    unfold found2M
    rw [if_pos (of_decide_eq_true hc), List.map_map, List.filter_eq_self.mpr (fun _ _ => rfl)]
    rfl
  · have hc' := of_decide_eq_false hc
    have t := tame_ok (n := n / 8) hls
    refine S.ifJ (fun ds => ∃ s3 s4, ds = [.d (.int n), .d (.str (lettersM n)), .d (.lst ((found2M false 5 n).map rd)), s3, s4]) (T.cmp (E.bin (E.var 0 rfl) E.int (Op2.mod (by decide))) E.int Op2.eqI) (fun hc => ?_) (fun hc => ?_) (fun ds' hJ => ?_)
    · refine S.asgL 2 (EL.cat (E.var 2 rfl) (EL.disp (EA.cons (E.call G_l_rule (hr.mono (by decide)) (EA.cons (E.call G_l_drawn (hr.mono (by decide)) (EA.cons (E.var 0 rfl) (EA.cons E.int EA.nil)) ⟨_, _, rfl, rfl⟩) (EA.cons (E.var 1 rfl) EA.nil)) ⟨_, _, rfl, hls, rfl⟩) EA.nil) (Nat.le_of_ble_eq_true rfl)).e ?_) ?_
      · rw [List.length_map, List.length_singleton]; omega
      refine S.freeze (i := 2) rfl ?_
      refine S.nil ⟨.no, .no, ?_⟩
      unfold found2M
      rw [if_neg hc', if_pos (of_decide_eq_true hc), List.map_append]
      rfl
    · refine S.nil ⟨.no, .no, ?_⟩
      unfold found2M
      rw [if_neg hc', if_neg (of_decide_eq_false hc)]
      rfl
    exact S.nil hJ
  obtain ⟨s3, s4, rfl⟩ := hJ
  have b1 := Int.emod_nonneg (n / 640) (show (5 : Int) ≠ 0 by decide)
  refine S.asg 3 (E.bin (E.bin (E.var 0 rfl) E.int (Op2.div (by decide))) E.int (Op2.mod (by decide))) ?_
  refine S.ret (E.callT (EA.cons (EL.cat (EL.sl (E.var 2 rfl) (EO.yes (E.var 3 rfl)) EO.no).e (EL.sl (E.var 2 rfl) EO.no (EO.yes (E.var 3 rfl))).e ?_).e EA.nil) CallD.tupL B.tuple (by decide +kernel)) ?_
  · rw [cutA_i0 _ b1, cutA_0i _ b1, List.length_drop, List.length_take, List.length_map]; omega
  · show D.tup _ = D.tup _
    rw [cutA_i0 _ b1, cutA_0i _ b1]
    unfold rulesM
    rw [List.map_append, List.map_drop, List.map_take]

theorem rsd_eq (rs : List Ru) : rsd rs = .tup (rs.map rd) := rfl
theorem fine_str {w : Wo} (h : Lw w) (k : Nat) : fine k (.str w) = true := by
  cases k <;> exact h.fine
theorem filter_map_zip (rs : List Ru) (p : Ru → Bool) (f : Nat → D) : ((rs.zipIdx.filter fun q => p q.1).map fun q => f q.2) = (rs.zipIdx.filter fun q => p q.1).map fun q => f q.2 := rfl
theorem enum_rules (rs : List Ru) : enumD (rs.map rd) = rs.zipIdx.map fun q => D.tup [.int (q.2 : Nat), rd q.1] := by
  unfold enumD
  rw [List.zipIdx_map, List.map_map]
  rfl
theorem places_snoc (rs : List Ru) (w : Wo) (p : Nat) : ((List.range (p + 1)).flatMap fun p => (rs.zipIdx.filter fun q => standsAt q.1.1 w p).map fun q => (p, q.2)) = ((List.range p).flatMap fun p => (rs.zipIdx.filter fun q => standsAt q.1.1 w p).map fun q => (p, q.2)) ++ (rs.zipIdx.filter fun q => standsAt q.1.1 w p).map fun q => (p, q.2) := by
  rw [List.range_succ, List.flatMap_append, List.flatMap_singleton]
/-- the places below p -/
def plTo (rs : List Ru) (w : Wo) (ps : List Nat) : List (Nat × Nat) := ps.flatMap fun p => (rs.zipIdx.filter fun q => standsAt q.1.1 w p).map fun q => (p, q.2)
theorem plTo_snoc (rs : List Ru) (w : Wo) (ps : List Nat) (p : Nat) : plTo rs w (ps ++ [p]) = plTo rs w ps ++ (rs.zipIdx.filter fun q => standsAt q.1.1 w p).map fun q => (p, q.2) := by
  unfold plTo
  rw [List.flatMap_append, List.flatMap_singleton]
theorem plTo_len (rs : List Ru) (w : Wo) : ∀ ps : List Nat, (plTo rs w ps).length ≤ ps.length * rs.length
  | [] => by simp [plTo]
  | p :: ps => by
    unfold plTo
    rw [List.flatMap_cons, List.length_append, List.length_map, List.length_cons, Nat.succ_mul]
    have h := List.length_filter_le (fun q : Ru × Nat => standsAt q.1.1 w p) rs.zipIdx
    rw [List.length_zipIdx] at h
    have := plTo_len rs w ps
    unfold plTo at this
    omega
theorem sc_places : FnScope ["rules", "word", "found", "place", "k", "rule"] ["rules", "word"] (defScope st_places) := ⟨rfl, rfl, rfl, by decide +kernel, rfl, by decide +kernel, by decide +kernel⟩
def F_places (ds : List D) (d : D) : Prop := ∃ (rs : List Ru) (wd : Wo), ds = [rsd rs, .str wd] ∧ Rs rs ∧ wd.length ≤ 1000 ∧ d = .tup ((placesM rs wd).map pd)
abbrev ps_places : List Str := ["rules", "word"]
theorem def_places (Sx : Stands K mg "places" st_places) (Nb : NoB mg) (G_stands : Def P w K mg base 1 "stands" ps_stands F_stands) : Def P w K mg base 2 "places" ps_places F_places := by
  refine Def.of Sx Nb sc_places (fun Fn => Fn.binds fun _ _ _ _ _ _ us hl => match us, hl with | [_, _], _ => rfl) (by decide) fun f cdv A outer s H Ex hr B Nd ds d hl hF => ?_
  obtain ⟨rs, wd, rfl, hrs, hwd, rfl⟩ := hF
  have hfew := hrs.few
  refine S.asgL 2 (EL.disp EA.nil (Nat.le_of_ble_eq_true rfl)) ?_
  refine S.for (List.range wd.length) (fun p => .int (p : Nat)) (It.range1 B.range (E.callB (EA.cons (E.var 1 rfl) EA.nil) (CallD.lenS (by omega)) B.len PySem.boot_len) (by omega))
    (fun pre ds => ∃ s3, ds = [.d (rsd rs), .d (.str wd), .ol ((plTo rs wd pre).map pd), s3, .no, .no]) ⟨_, rfl⟩ (fun pre p post ds' e hP => ?_) (fun ds' hP => ?_) B.calm
  · obtain ⟨s3, rfl⟩ := hP
    have hpre : pre.length ≤ 1000 := by
      have := congrArg List.length e
      rw [List.length_range, List.length_append] at this
      omega
    have hlen := plTo_len rs wd pre
    have hlen2 : pre.length * rs.length ≤ 1000 * 20 := Nat.mul_le_mul hpre hfew
    refine ⟨[3], _, (G.name 3), ?_⟩
    refine S.extend 2 rfl (EL.e (EL.comp [("k", 4), ("rule", 5)] (as := rs.zipIdx) (ι := fun q => .tup [.int (q.2 : Nat), rd q.1]) (p := fun q => standsAt q.1.1 wd p) (f := fun q => pd (p, q.2)) (It.cast (It.enumT B (E.var 0 (rfl : _ = some (Sl.d (.tup (rs.map rd)))))) (enum_rules rs)) (blkOk_by (by rfl)) ?_ (fun a ha => ⟨[4, 5], _, by decide, by rfl, fun s H C cl fp => ⟨(G.pair (by rfl) (G.name 4) (G.name 5)), (T.val (E.call G_stands (hr.mono (by decide)) (EA.cons (E.var 5 rfl) (EA.cons (E.var 1 rfl) (EA.cons (E.var 3 rfl) EA.nil))) ⟨a.1, wd, p, rfl, ?_, hwd, rfl⟩)), fun hp => (E.tup (EA.cons (E.var 3 rfl) (EA.cons (E.var 4 rfl) EA.nil)) (Nat.le_of_ble_eq_true rfl))⟩⟩) B.calm)) ?_ ?_
    · rw [List.length_zipIdx]; omega
    · have := (hrs.all a.1 (List.fst_mem_of_mem_zipIdx ha)).most
      omega
    · have h := List.length_filter_le (fun q : Ru × Nat => standsAt q.1.1 wd p) rs.zipIdx
      rw [List.length_zipIdx] at h
      rw [List.length_map, List.length_map]
      omega
    refine S.nil ⟨.d (.int (p : Nat)), ?_⟩
    rw [plTo_snoc, List.map_append, List.map_map]
    rfl
  · obtain ⟨s3, rfl⟩ := hP
    refine S.freeze (i := 2) rfl ?_
    exact S.ret (E.callT (EA.cons (E.var 2 rfl) EA.nil) CallD.tupL B.tuple (by decide +kernel)) rfl
theorem sc_l_places : FnScope ["_law_rules_here", "_law_word_here", "_law_found", "_law_place", "_law_k", "_law_rule_here"] ["_law_rules_here", "_law_word_here"] (defScope st_l_places) := ⟨rfl, rfl, rfl, by decide +kernel, rfl, by decide +kernel, by decide +kernel⟩
def F_l_places (ds : List D) (d : D) : Prop := ∃ (rs : List Ru) (wd : Wo), ds = [rsd rs, .str wd] ∧ Rs rs ∧ wd.length ≤ 1000 ∧ d = .lst ((placesM rs wd).map pd)
abbrev ps_l_places : List Str := ["_law_rules_here", "_law_word_here"]
theorem def_l_places (Sx : Stands K mg "_law_places" st_l_places) (Nb : NoB mg)  : Def P w K mg base 1 "_law_places" ps_l_places F_l_places := by
  refine Def.of Sx Nb sc_l_places (fun Fn => Fn.binds fun _ _ _ _ _ _ us hl => match us, hl with | [_, _], _ => rfl) (by decide) fun f cdv A outer s H Ex hr B Nd ds d hl hF => ?_
  obtain ⟨rs, wd, rfl, hrs, hwd, rfl⟩ := hF
  have hfew := hrs.few
  refine S.asgL 2 (EL.disp EA.nil (Nat.le_of_ble_eq_true rfl)) ?_
  refine S.freeze (i := 2) rfl ?_
  refine S.for (List.range wd.length) (fun p => .int (p : Nat)) (It.range1 B.range (E.callB (EA.cons (E.var 1 rfl) EA.nil) (CallD.lenS (by omega)) B.len PySem.boot_len) (by omega))
    (fun pre ds => ∃ s3, ds = [.d (rsd rs), .d (.str wd), .d (.lst ((plTo rs wd pre).map pd)), s3, .no, .no]) ⟨_, rfl⟩ (fun pre p post ds' e hP => ?_) (fun ds' hP => ?_) B.calm
  · obtain ⟨s3, rfl⟩ := hP
    have hpre : pre.length ≤ 1000 := by
      have := congrArg List.length e
      rw [List.length_range, List.length_append] at this
      omega
    have hlen := plTo_len rs wd pre
    have hlen2 : pre.length * rs.length ≤ 1000 * 20 := Nat.mul_le_mul hpre hfew
    refine ⟨[3], _, (G.name 3), ?_⟩
    refine S.asgL 2 (EL.cat (E.var 2 rfl) (EL.e (EL.comp [("_law_k", 4), ("_law_rule_here", 5)] (as := rs.zipIdx) (ι := fun q => .tup [.int (q.2 : Nat), rd q.1]) (p := fun q => standsAt q.1.1 wd p) (f := fun q => pd (p, q.2)) (It.cast (It.enumT B (E.var 0 (rfl : _ = some (Sl.d (.tup (rs.map rd)))))) (enum_rules rs)) (blkOk_by (by rfl)) ?_ (fun a ha => ⟨[4, 5], _, by decide, by rfl, fun s H C cl fp => ⟨(G.pair (by rfl) (G.name 4) (G.name 5)), (T.cast (T.val (E.m1 PySem.F.slot_str_startswith PySem.F.type_str_startswith (E.slS (E.var 1 rfl) (EO.yes (E.var 3 rfl)) EO.no (by omega)) (E.ixT (xs := [.str a.1.1, .str a.1.2]) (E.var 5 rfl) E.int rfl) MtD.startswith)) ?_), fun hp => (E.tup (EA.cons (E.var 3 rfl) (EA.cons (E.var 4 rfl) EA.nil)) (Nat.le_of_ble_eq_true rfl))⟩⟩) B.calm)) ?_) ?_
    · rw [List.length_zipIdx]; omega
    · unfold standsAt
      rw [cutA_n0]
    · have h := List.length_filter_le (fun q : Ru × Nat => standsAt q.1.1 wd p) rs.zipIdx
      rw [List.length_zipIdx] at h
      rw [List.length_map, List.length_map]
      omega
    refine S.freeze (i := 2) rfl ?_
    refine S.nil ⟨.d (.int (p : Nat)), ?_⟩
    rw [plTo_snoc, List.map_append, List.map_map]
    rfl
  · obtain ⟨s3, rfl⟩ := hP
    exact S.ret (E.var 2 rfl) rfl
theorem rule_at {rs : List Ru} {k : Nat} (h : k < rs.length) : L2.atI (rs.map rd) (k : Int) = some (rd (rs.getD k ([], []))) := by
  refine atI_nat ?_
  rw [List.getElem?_map, List.getD_eq_getElem?_getD, List.getElem?_eq_getElem h]
  rfl
theorem chg_eq (r : Ru) (w : Wo) (p : Nat) : cutA w none (some (p : Int)) ++ r.2 ++ cutA w (some ((p : Int) + (r.1.length : Int))) none = chg r w p := by
  unfold chg
  rw [cutA_0n, ← Int.natCast_add, cutA_n0]
theorem sc_changed : FnScope ["rules", "word", "place", "k"] ["rules", "word", "place", "k"] (defScope st_changed) := ⟨rfl, rfl, rfl, by decide +kernel, rfl, by decide +kernel, by decide +kernel⟩
def F_changed (ds : List D) (d : D) : Prop := ∃ (rs : List Ru) (wd : Wo) (p k : Nat), ds = [rsd rs, .str wd, .int p, .int k] ∧ Rs rs ∧ wd.length ≤ 1000 ∧ k < rs.length ∧ d = .str (changedM rs wd p k)
abbrev ps_changed : List Str := ["rules", "word", "place", "k"]
theorem Rs.get {rs : List Ru} (h : Rs rs) {k : Nat} (hk : k < rs.length) : Rl (rs.getD k ([], [])) := by
  rw [List.getD_eq_getElem?_getD, List.getElem?_eq_getElem hk]
  exact h.all _ (List.getElem_mem hk)
theorem def_changed (Sx : Stands K mg "changed" st_changed) (Nb : NoB mg)  : Def P w K mg base 1 "changed" ps_changed F_changed := by
  refine Def.of Sx Nb sc_changed (fun Fn => Fn.binds fun _ _ _ _ _ _ us hl => match us, hl with | [_, _, _, _], _ => rfl) (by decide) fun f cdv A outer s H Ex hr B Nd ds d hl hF => ?_
  obtain ⟨rs, wd, p, k, rfl, hrs, hwd, hk, rfl⟩ := hF
  have hR := hrs.get hk
  have r1 := hR.most
  have r2 := hR.le
  refine S.ret (E.bin (E.bin (E.slS (E.var 1 rfl) EO.no (EO.yes (E.var 2 rfl)) (by omega)) (E.ixT (xs := [.str (rs.getD k ([], [])).1, .str (rs.getD k ([], [])).2]) (E.ixT (xs := rs.map rd) (E.var 0 rfl) (E.var 3 rfl) (rule_at hk)) E.int rfl) (Op2.addS ?_)) (E.slS (E.var 1 rfl) (EO.yes (E.bin (E.var 2 rfl) (E.callB (EA.cons (E.ixT (xs := [.str (rs.getD k ([], [])).1, .str (rs.getD k ([], [])).2]) (E.ixT (xs := rs.map rd) (E.var 0 rfl) (E.var 3 rfl) (rule_at hk)) E.int rfl) EA.nil) (CallD.lenS (by omega)) B.len PySem.boot_len) Op2.add)) EO.no (by omega)) (Op2.addS ?_)) ?_
  · rw [cutA_0n, List.length_take]; omega
  · rw [← Int.natCast_add, cutA_0n, cutA_n0, List.length_append, List.length_take, List.length_drop]; omega
  · show D.str _ = D.str _
    rw [chg_eq]; rfl
theorem sc_l_changed : FnScope ["_law_rules_here", "_law_word_here", "_law_place", "_law_k", "_law_left", "_law_right"] ["_law_rules_here", "_law_word_here", "_law_place", "_law_k"] (defScope st_l_changed) := ⟨rfl, rfl, rfl, by decide +kernel, rfl, by decide +kernel, by decide +kernel⟩
def F_l_changed (ds : List D) (d : D) : Prop := F_changed ds d
abbrev ps_l_changed : List Str := ["_law_rules_here", "_law_word_here", "_law_place", "_law_k"]
theorem def_l_changed (Sx : Stands K mg "_law_changed" st_l_changed) (Nb : NoB mg)  : Def P w K mg base 1 "_law_changed" ps_l_changed F_l_changed := by
  refine Def.of Sx Nb sc_l_changed (fun Fn => Fn.binds fun _ _ _ _ _ _ us hl => match us, hl with | [_, _, _, _], _ => rfl) (by decide) fun f cdv A outer s H Ex hr B Nd ds d hl hF => ?_
  obtain ⟨rs, wd, p, k, rfl, hrs, hwd, hk, rfl⟩ := hF
  have hR := hrs.get hk
  have r1 := hR.most
  have r2 := hR.le
  refine S.unpack (E.ixT (xs := rs.map rd) (E.var 0 rfl) (E.var 3 rfl) (rule_at hk)) (G.pair (x := .str (rs.getD k ([], [])).1) (y := .str (rs.getD k ([], [])).2) (by rfl) (G.name 4) (G.name 5)) ?_
  refine S.ret (E.bin (E.bin (E.slS (E.var 1 rfl) EO.no (EO.yes (E.var 2 rfl)) (by omega)) (E.var 5 rfl) (Op2.addS ?_)) (E.slS (E.var 1 rfl) (EO.yes (E.bin (E.var 2 rfl) (E.callB (EA.cons (E.var 4 rfl) EA.nil) (CallD.lenS (by omega)) B.len PySem.boot_len) Op2.add)) EO.no (by omega)) (Op2.addS ?_)) ?_
  · rw [cutA_0n, List.length_take]; omega
  · rw [← Int.natCast_add, cutA_0n, cutA_n0, List.length_append, List.length_take, List.length_drop]; omega
  · show D.str _ = D.str _
    rw [chg_eq]; rfl

def nxs (rs : List Ru) (w : Wo) (qs : List (Nat × Nat)) : List Wo := qs.map fun q => changedM rs w q.1 q.2
theorem places_kt {rs : List Ru} {w : Wo} {q : Nat × Nat} (h : q ∈ placesM rs w) : q.2 < rs.length := by
  obtain ⟨_, r, hr, _⟩ := mem_places (p := q.1) (k := q.2) |>.mp h
  exact (List.getElem?_eq_some_iff.mp hr).1
theorem places_few {rs : List Ru} {w : Wo} (h : Rs rs) (hw : w.length ≤ 100) : (placesM rs w).length ≤ 2000 :=
  Nat.le_trans (placesM_len rs w) (Nat.mul_le_mul hw h.few)
theorem sc_nexts : FnScope ["rules", "word", "place", "k"] ["rules", "word"] (defScope st_nexts) := ⟨rfl, rfl, rfl, by decide +kernel, rfl, by decide +kernel, by decide +kernel⟩
def F_nexts (ds : List D) (d : D) : Prop := ∃ (rs : List Ru) (wd : Wo), ds = [rsd rs, .str wd] ∧ Rs rs ∧ wd.length ≤ 100 ∧ d = .tup ((nextsM rs wd).map D.str)
abbrev ps_nexts : List Str := ["rules", "word"]
theorem def_nexts (Sx : Stands K mg "nexts" st_nexts) (Nb : NoB mg) (G_changed : Def P w K mg base 1 "changed" ps_changed F_changed) (G_places : Def P w K mg base 2 "places" ps_places F_places) : Def P w K mg base 3 "nexts" ps_nexts F_nexts := by
  refine Def.of Sx Nb sc_nexts (fun Fn => Fn.binds fun _ _ _ _ _ _ us hl => match us, hl with | [_, _], _ => rfl) (by decide) fun f cdv A outer s H Ex hr B Nd ds d hl hF => ?_
  obtain ⟨rs, wd, rfl, hrs, hwd, rfl⟩ := hF
  have few := places_few hrs hwd
  refine S.ret (E.callT (EA.cons (EL.e (EL.sortedSet (ws := nxs rs wd (placesM rs wd)) B (E.cast (EL.e (EL.comp [("place", 2), ("k", 3)] (as := placesM rs wd) (ι := pd) (p := fun _ => true) (f := fun q => .str (changedM rs wd q.1 q.2)) (It.tup (E.call G_places (hr.mono (by decide)) (EA.cons (E.var 0 rfl) (EA.cons (E.var 1 rfl) EA.nil)) ⟨rs, wd, rfl, hrs, by omega, rfl⟩)) (blkOk_by (by rfl)) ?_ (fun a ha => ⟨[2, 3], _, by decide, by rfl, fun s H C cl fp => ⟨(G.pair (by rfl) (G.name 2) (G.name 3)), by rfl, fun hp => (E.call G_changed (hr.mono (by decide)) (EA.cons (E.var 0 rfl) (EA.cons (E.var 1 rfl) (EA.cons (E.var 2 rfl) (EA.cons (E.var 3 rfl) EA.nil)))) ⟨rs, wd, a.1, a.2, rfl, hrs, by omega, places_kt ha, rfl⟩)⟩⟩) B.calm)) ?_) ?_)) EA.nil) CallD.tupL B.tuple (by decide +kernel)) ?_
  · omega
  · unfold nxs
    rw [List.filter_eq_self.mpr (fun _ _ => rfl), List.map_map]
    rfl
  · unfold nxs
    rw [List.length_map]; omega
  · rfl
theorem sc_l_nexts : FnScope ["_law_rules_here", "_law_word_here", "_law_found", "_law_place", "_law_k"] ["_law_rules_here", "_law_word_here"] (defScope st_l_nexts) := ⟨rfl, rfl, rfl, by decide +kernel, rfl, by decide +kernel, by decide +kernel⟩
def F_l_nexts (ds : List D) (d : D) : Prop := ∃ (rs : List Ru) (wd : Wo), ds = [rsd rs, .str wd] ∧ Rs rs ∧ wd.length ≤ 100 ∧ d = .lst ((nextsM rs wd).map D.str)
abbrev ps_l_nexts : List Str := ["_law_rules_here", "_law_word_here"]
theorem def_l_nexts (Sx : Stands K mg "_law_nexts" st_l_nexts) (Nb : NoB mg) (G_l_places : Def P w K mg base 1 "_law_places" ps_l_places F_l_places) (G_l_changed : Def P w K mg base 1 "_law_changed" ps_l_changed F_l_changed) : Def P w K mg base 2 "_law_nexts" ps_l_nexts F_l_nexts := by
  refine Def.of Sx Nb sc_l_nexts (fun Fn => Fn.binds fun _ _ _ _ _ _ us hl => match us, hl with | [_, _], _ => rfl) (by decide) fun f cdv A outer s H Ex hr B Nd ds d hl hF => ?_
  obtain ⟨rs, wd, rfl, hrs, hwd, rfl⟩ := hF
  have few := places_few hrs hwd
  refine S.asgL 2 (EL.disp EA.nil (Nat.le_of_ble_eq_true rfl)) ?_
  refine S.for (placesM rs wd) pd (It.list (E.call G_l_places (hr.mono (by decide)) (EA.cons (E.var 0 rfl) (EA.cons (E.var 1 rfl) EA.nil)) ⟨rs, wd, rfl, hrs, by omega, rfl⟩))
    (fun pre ds => ∃ s3 s4, ds = [.d (rsd rs), .d (.str wd), .ol ((nxs rs wd pre).map D.str), s3, s4]) ⟨_, _, rfl⟩ (fun pre a post ds' e hP => ?_) (fun ds' hP => ?_) B.calm
  · obtain ⟨s3, s4, rfl⟩ := hP
    have ha : a ∈ placesM rs wd := by rw [e]; exact List.mem_append_right _ List.mem_cons_self
    have plen : pre.length < 2000 := by
      have := congrArg List.length e
      rw [List.length_append, List.length_cons] at this
      omega
    refine ⟨[3, 4], _, (G.pair (by rfl) (G.name 3) (G.name 4)), ?_⟩
    refine S.append 2 rfl (E.call G_l_changed (hr.mono (by decide)) (EA.cons (E.var 0 rfl) (EA.cons (E.var 1 rfl) (EA.cons (E.var 3 rfl) (EA.cons (E.var 4 rfl) EA.nil)))) ⟨rs, wd, a.1, a.2, rfl, hrs, by omega, places_kt ha, rfl⟩) ?_ ?_
    · unfold nxs
      rw [List.length_map, List.length_map]; omega
    refine S.nil ⟨.d (.int (a.1 : Nat)), .d (.int (a.2 : Nat)), ?_⟩
    unfold nxs
    rw [List.map_append, List.map_append]
    rfl
  · obtain ⟨s3, s4, rfl⟩ := hP
    refine S.freeze (i := 2) rfl ?_
    refine S.ret (EL.e (EL.sortedSet (ws := nxs rs wd (placesM rs wd)) B (E.var 2 rfl) ?_)) rfl
    unfold nxs
    rw [List.length_map]; omega

theorem last_split {α : Type} {xs : List α} (h : 0 < xs.length) : ∃ ys y, xs = ys ++ [y] := by
  have hne : xs ≠ [] := fun e => by rw [e] at h; exact absurd h (Nat.lt_irrefl 0)
  exact ⟨xs.dropLast, xs.getLast hne, (List.dropLast_concat_getLast hne).symm⟩
theorem atI_head {α : Type} (x : α) (xs : List α) : L2.atI (x :: xs) 0 = some x := atI_nat (i := 0) rfl
theorem split_nodup {α : Type} {ys : List α} {y : α} (h : (ys ++ [y]).Nodup) : y ∉ ys ∧ ys.Nodup := by
  rw [List.nodup_append] at h
  exact ⟨fun z => h.2.2 y z y (List.mem_singleton.mpr rfl) rfl, h.1⟩
theorem sc_ends : FnScope ["rules", "word", "met", "todo", "found", "here", "some", "other"] ["rules", "word"] (defScope st_ends) := ⟨rfl, rfl, rfl, by decide +kernel, rfl, by decide +kernel, by decide +kernel⟩
def F_ends (ds : List D) (d : D) : Prop := F_endsG ds d
abbrev ps_ends : List Str := ["rules", "word"]
def endsP (rs : List Ru) (wd : Wo) (m : Nat) (ds : List Sl) : Prop := ∃ met todo found s5 s6 s7, ds = [.d (rsd rs), .d (.str wd), .od met, .ol (todo.map D.str), .ol (found.map D.str), s5, s6, s7] ∧ Srch rs wd met todo found [] ∧ m = 2 * (797161 - met.length) + todo.length
theorem def_ends (Sx : Stands K mg "ends" st_ends) (Nb : NoB mg) (G_nexts : Def P w K mg base 3 "nexts" ps_nexts F_nexts) : Def P w K mg base 4 "ends" ps_ends F_ends := by
  refine Def.of Sx Nb sc_ends (fun Fn => Fn.binds fun _ _ _ _ _ _ us hl => match us, hl with | [_, _], _ => rfl) (by decide) fun f cdv A outer s H Ex hr B Nd ds d hl hF => ?_
  obtain ⟨rs, wd, rfl, hrs, hlw, hle, rfl⟩ := hF
  refine S.asgD1 2 (j := 1) rfl ?_
  refine S.asgL 3 (EL.disp (EA.cons (E.var 1 rfl) EA.nil) (Nat.le_of_ble_eq_true rfl)) ?_
  refine S.asgL 4 (EL.disp EA.nil (Nat.le_of_ble_eq_true rfl)) ?_
  refine S.while (P := endsP rs wd) (2 * (797161 - 1) + 1) ⟨[wd], [wd], [], _, _, _, rfl, Srch.init, rfl⟩ (fun m ds' hP => ?_)
  obtain ⟨met, todo, found, s5, s6, s7, rfl, hS, rfl⟩ := hP
  refine ⟨_, (T.cmp (E.lenO (k := 3) B rfl) E.int Op2.gt), fun hc => ?_, fun hc => ?_⟩
  · have htl : 0 < todo.length := by
      have := of_decide_eq_true hc
      rw [List.length_map] at this
      omega
    obtain ⟨t0, h, rfl⟩ := last_split htl
    obtain ⟨hn, tn⟩ := split_nodup hS.tn
    have hhm : h ∈ met := hS.tm h (List.mem_append_right _ (List.mem_singleton.mpr rfl))
    have hh := hS.words hrs hlw hle h hhm
    have ffew := hS.ffew hrs hlw hle
    have hS1 := hS.pop (todo' := t0) (h := h) (fun v => by rw [List.mem_append, List.mem_singleton]) hn tn
    refine S.pop (xs := t0.map D.str) (d := .str h) 5 3 (by show some (Sl.ol ((t0 ++ [h]).map D.str)) = _; rw [List.map_append]; rfl) ?_
    refine S.asg 6 (E.call G_nexts (hr.mono (by decide)) (EA.cons (E.var 0 rfl) (EA.cons (E.var 5 rfl) EA.nil)) ⟨rs, h, rfl, hrs, by omega, rfl⟩) ?_
    refine S.ifJ (fun ds => ds = [.d (rsd rs), .d (.str wd), .od met, .ol (t0.map D.str), .ol ((if nextsM rs h = [] then found ++ [h] else found).map D.str), .d (.str h), .d (.tup ((nextsM rs h).map D.str)), s7]) (T.cmp (E.callB (EA.cons (E.var 6 rfl) EA.nil) CallD.lenT B.len PySem.boot_len) E.int Op2.eqI) (fun hc => ?_) (fun hc => ?_) (fun ds' hJ => ?_)
    · have e : nextsM rs h = [] := by
        have := of_decide_eq_true hc
        rw [List.length_map] at this
        exact List.length_eq_zero_iff.mp (by omega)
      refine S.append 4 rfl (E.var 5 rfl) (by rw [List.length_map]; omega) ?_
      refine S.nil ?_
      rw [if_pos e, List.map_append]
      rfl
    · have e : nextsM rs h ≠ [] := fun e => by
        have := of_decide_eq_false hc
        rw [List.length_map, e] at this
        exact this rfl
      refine S.nil ?_
      rw [if_neg e]
      rfl
    subst hJ
    generalize (if nextsM rs h = [] then found ++ [h] else found) = found2 at hS1 ⊢
    refine S.for (nextsM rs h) D.str (It.tup (E.var 6 rfl)) (fun pre ds => ∃ met' todo' s7', ds = [.d (rsd rs), .d (.str wd), .od met', .ol (todo'.map D.str), .ol (found2.map D.str), .d (.str h), .d (.tup ((nextsM rs h).map D.str)), s7'] ∧ Srch rs wd met' todo' found2 [h] ∧ (∀ x ∈ pre, x ∈ met') ∧ h ∈ met' ∧ 2 * (797161 - met'.length) + todo'.length ≤ 2 * (797161 - met.length) + t0.length) ⟨met, t0, s7, rfl, hS1, by simp, hhm, Nat.le_refl _⟩ (fun pre x post ds' e hP => ?_) (fun ds' hP => ?_) B.calm
    · obtain ⟨met', todo', s7', rfl, hS2, hpre, hm2, hle2⟩ := hP
      have hx : x ∈ nextsM rs h := by rw [e]; exact List.mem_append_right _ List.mem_cons_self
      have few2 := hS2.few hrs hlw hle
      have tfew2 := hS2.tfew hrs hlw hle
      refine ⟨[7], _, (G.name 7), ?_⟩
      refine S.ifJ (fun ds => ∃ met'' todo'', ds = [.d (rsd rs), .d (.str wd), .od met'', .ol (todo''.map D.str), .ol (found2.map D.str), .d (.str h), .d (.tup ((nextsM rs h).map D.str)), .d (.str x)] ∧ Srch rs wd met'' todo'' found2 [h] ∧ (∀ y ∈ pre ++ [x], y ∈ met'') ∧ h ∈ met'' ∧ 2 * (797161 - met''.length) + todo''.length ≤ 2 * (797161 - met.length) + t0.length) (T.notInOD 2 B (E.var 7 rfl) rfl) (fun hc => ?_) (fun hc => ?_) (fun ds' hJ => ?_)
      · have hxn : x ∉ met' := by simpa using hc
        have hS3 := hS2.add hm2 hx hxn
        have few3 := hS3.few hrs hlw hle
        rw [List.length_append, List.length_singleton] at few3
        refine S.dput 2 B rfl (E.var 7 rfl) (by omega) ?_
        refine S.append 3 rfl (E.var 7 rfl) (by rw [List.length_map]; omega) ?_
        refine S.nil ⟨met' ++ [x], todo' ++ [x], ?_, hS3, fun y hy => ?_, List.mem_append_left _ hm2, ?_⟩
        · rw [insW_new hxn, List.map_append]
          rfl
        · exact (List.mem_append.mp hy).elim (fun q => List.mem_append_left _ (hpre y q)) fun q => List.mem_append_right _ q
        · rw [List.length_append, List.length_append, List.length_singleton]
          omega
      · have hxm : x ∈ met' := by simpa using hc
        refine S.nil ⟨met', todo', rfl, hS2, fun y hy => ?_, hm2, hle2⟩
        exact (List.mem_append.mp hy).elim (hpre y) fun q => by rw [List.mem_singleton.mp q]; exact hxm
      obtain ⟨met'', todo'', rfl, q1, q2, q3, q4⟩ := hJ
      exact S.nil ⟨met'', todo'', _, rfl, q1, q2, q3, q4⟩
    · obtain ⟨met', todo', s7', rfl, hS2, hpre, hm2, hle2⟩ := hP
      refine S.nil ⟨2 * (797161 - met'.length) + todo'.length, ?_, met', todo', found2, _, _, _, rfl, hS2.done hpre, rfl⟩
      rw [List.length_append, List.length_singleton]
      omega
  · have htl : todo = [] := by
      have := of_decide_eq_false hc
      rw [List.length_map] at this
      exact List.length_eq_zero_iff.mp (by omega)
    subst htl
    refine S.freeze (i := 4) rfl ?_
    refine S.ret (E.callT (EA.cons (EL.e (EL.callB (EA.cons (E.var 4 rfl) EA.nil) CallL.sortedL B.sorted (by decide +kernel))) EA.nil) CallD.tupL B.tuple (by decide +kernel)) ?_
    rw [endsM_of hrs hlw hS.fn hS.fin]
theorem first_mem {rs : List Ru} {h : Wo} {q : Nat × Nat} {l : List (Nat × Nat)} (e : placesM rs h = q :: l) : q ∈ placesM rs h := by rw [e]; exact List.mem_cons_self

theorem sc_end : FnScope ["rules", "word", "here", "some"] ["rules", "word"] (defScope st_end) := ⟨rfl, rfl, rfl, by decide +kernel, rfl, by decide +kernel, by decide +kernel⟩
def F_end (ds : List D) (d : D) : Prop := ∃ (rs : List Ru) (wd : Wo), ds = [rsd rs, .str wd] ∧ Rs rs ∧ Lw wd ∧ wd.length ≤ 100 ∧ d = .str (endM rs wd)
abbrev ps_end : List Str := ["rules", "word"]
def endP (rs : List Ru) (wd : Wo) (m : Nat) (ds : List Sl) : Prop := ∃ h, ds = [.d (rsd rs), .d (.str wd), .d (.str h), .d (.tup ((placesM rs h).map pd))] ∧ Lw h ∧ h.length ≤ 100 ∧ endM rs h = endM rs wd ∧ m = rankW h
theorem def_end (Sx : Stands K mg "end" st_end) (Nb : NoB mg) (G_changed : Def P w K mg base 1 "changed" ps_changed F_changed) (G_places : Def P w K mg base 2 "places" ps_places F_places) : Def P w K mg base 3 "end" ps_end F_end := by
  refine Def.of Sx Nb sc_end (fun Fn => Fn.binds fun _ _ _ _ _ _ us hl => match us, hl with | [_, _], _ => rfl) (by decide) fun f cdv A outer s H Ex hr B Nd ds d hl hF => ?_
  obtain ⟨rs, wd, rfl, hrs, hlw, hle, rfl⟩ := hF
  refine S.asg 2 (E.var 1 rfl) ?_
  refine S.asg 3 (E.call G_places (hr.mono (by decide)) (EA.cons (E.var 0 rfl) (EA.cons (E.var 2 rfl) EA.nil)) ⟨rs, wd, rfl, hrs, by omega, rfl⟩) ?_
  refine S.while (P := endP rs wd) (rankW wd) ⟨wd, rfl, hlw, hle, rfl, rfl⟩ (fun m ds' hP => ?_)
  obtain ⟨h, rfl, hh, hhl, he, rfl⟩ := hP
  refine ⟨_, (T.cmp (E.callB (EA.cons (E.var 3 rfl) EA.nil) CallD.lenT B.len PySem.boot_len) E.int Op2.gt), fun hc => ?_, fun hc => ?_⟩
  · cases e : placesM rs h with
    | nil =>
      rw [e] at hc
      exact absurd (of_decide_eq_true hc) (by decide)
    | cons q l =>
      have hq := first_mem e
      have hnx : changedM rs h q.1 q.2 ∈ nextsM rs h := mem_nexts.mpr ⟨q, hq, rfl⟩
      refine S.asg 2 (E.call G_changed (hr.mono (by decide)) (EA.cons (E.var 0 rfl) (EA.cons (E.var 2 rfl) (EA.cons (E.ixT (xs := [.int (q.1 : Nat), .int (q.2 : Nat)]) (E.ixT (xs := pd q :: l.map pd) (E.var 3 rfl) E.int (atI_head _ _)) E.int rfl) (EA.cons (E.ixT (xs := [.int (q.1 : Nat), .int (q.2 : Nat)]) (E.ixT (xs := pd q :: l.map pd) (E.var 3 rfl) E.int (atI_head _ _)) E.int rfl) EA.nil)))) ⟨rs, h, q.1, q.2, rfl, hrs, by omega, places_kt hq, rfl⟩) ?_
      have nl := next_len hrs hnx
      refine S.asg 3 (E.call G_places (hr.mono (by decide)) (EA.cons (E.var 0 rfl) (EA.cons (E.var 2 rfl) EA.nil)) ⟨rs, _, rfl, hrs, by omega, rfl⟩) ?_
      refine S.nil ⟨_, next_rank hrs hh hnx, _, rfl, next_lw hrs hh hnx, by omega, ?_, rfl⟩
      rw [← he, endM_cons hrs hh e]
  · have e : placesM rs h = [] := by
      have := of_decide_eq_false hc
      rw [List.length_map] at this
      exact List.length_eq_zero_iff.mp (by omega)
    refine S.ret (E.var 2 rfl) ?_
    rw [← he, endM_nil e]

theorem sc_l_ends : FnScope ["_law_rules_here", "_law_word_here", "_law_met", "_law_found", "_law_at", "_law_some", "_law_other"] ["_law_rules_here", "_law_word_here"] (defScope st_l_ends) := ⟨rfl, rfl, rfl, by decide +kernel, rfl, by decide +kernel, by decide +kernel⟩
def F_l_ends (ds : List D) (d : D) : Prop := F_endsG ds d
abbrev ps_l_ends : List Str := ["_law_rules_here", "_law_word_here"]
def lendsP (rs : List Ru) (wd : Wo) (m : Nat) (ds : List Sl) : Prop := ∃ met found s5 s6, ∃ i : Nat, ds = [.d (rsd rs), .d (.str wd), .d (.lst (met.map D.str)), .ol (found.map D.str), .d (.int i), s5, s6] ∧ i ≤ met.length ∧ Srch rs wd met (met.drop i) found [] ∧ m = 797161 - i
theorem def_l_ends (Sx : Stands K mg "_law_ends" st_l_ends) (Nb : NoB mg) (G_l_nexts : Def P w K mg base 2 "_law_nexts" ps_l_nexts F_l_nexts) : Def P w K mg base 3 "_law_ends" ps_l_ends F_l_ends := by
  refine Def.of Sx Nb sc_l_ends (fun Fn => Fn.binds fun _ _ _ _ _ _ us hl => match us, hl with | [_, _], _ => rfl) (by decide) fun f cdv A outer s H Ex hr B Nd ds d hl hF => ?_
  obtain ⟨rs, wd, rfl, hrs, hlw, hle, rfl⟩ := hF
  refine S.asgL 2 (EL.disp (EA.cons (E.var 1 rfl) EA.nil) (Nat.le_of_ble_eq_true rfl)) ?_
  refine S.freeze (i := 2) rfl ?_
  refine S.asgL 3 (EL.disp EA.nil (Nat.le_of_ble_eq_true rfl)) ?_
  refine S.asg 4 E.int ?_
  refine S.while (P := lendsP rs wd) (797161 - 0) ⟨[wd], [], _, _, 0, rfl, Nat.zero_le _, Srch.init, rfl⟩ (fun m ds' hP => ?_)
  obtain ⟨met, found, s5, s6, i, rfl, hi, hS, rfl⟩ := hP
  refine ⟨_, (T.cmp (E.var 4 rfl) (E.callB (EA.cons (E.var 2 rfl) EA.nil) CallD.lenL B.len PySem.boot_len) Op2.lt), fun hc => ?_, fun hc => ?_⟩
  · have hlt : i < met.length := by
      have := of_decide_eq_true hc
      rw [List.length_map] at this
      omega
    have hdrop : met.drop i = met[i] :: met.drop (i + 1) := List.drop_eq_getElem_cons hlt
    have hat : L2.atI (met.map D.str) (i : Int) = some (.str met[i]) := atI_nat (by rw [List.getElem?_map, List.getElem?_eq_getElem hlt]; rfl)
    have hhm : met[i] ∈ met := List.getElem_mem hlt
    revert hdrop hat hhm
    generalize met[i] = h
    intro hdrop hat hhm
    have hh := hS.words hrs hlw hle h hhm
    have ffew := hS.ffew hrs hlw hle
    have few := hS.few hrs hlw hle
    have nfew := nextsM_few (w := h) hrs (by omega)
    have tnd := hS.tn
    rw [hdrop] at tnd
    have tn := List.nodup_cons.mp tnd
    have hS1 := hS.pop (todo' := met.drop (i + 1)) (h := h) (fun v => by rw [hdrop, List.mem_cons]; exact or_comm) tn.1 tn.2
    refine S.asg 5 (E.call G_l_nexts (hr.mono (by decide)) (EA.cons (E.var 0 rfl) (EA.cons (E.ixL (E.var 2 rfl) (E.var 4 rfl) hat) EA.nil)) ⟨rs, h, rfl, hrs, by omega, rfl⟩) ?_
    have fineL : fine 64 (.lst ((nextsM rs h).map D.str)) = true := fine_lst (fine_map fun v hv => fine_wo (next_lw hrs hh.1 hv) 63)
    refine S.ifJ (fun ds => ds = [.d (rsd rs), .d (.str wd), .d (.lst (met.map D.str)), .ol ((if nextsM rs h = [] then found ++ [h] else found).map D.str), .d (.int i), .d (.lst ((nextsM rs h).map D.str)), s6]) (T.cmp (E.var 5 rfl) (EL.e (EL.disp EA.nil (Nat.le_of_ble_eq_true rfl))) (Op2.eqD B fineL (by rfl))) (fun hc => ?_) (fun hc => ?_) (fun ds' hJ => ?_)
    · have e : nextsM rs h = [] := List.map_eq_nil_iff.mp ((eqv_lst (ys := []) (nob_strs _) rfl).mp hc)
      refine S.append 3 rfl (E.ixL (E.var 2 rfl) (E.var 4 rfl) hat) (by rw [List.length_map]; omega) ?_
      refine S.nil ?_
      rw [if_pos e, List.map_append]
      rfl
    · have e : nextsM rs h ≠ [] := fun e => by
        rw [e] at hc
        have : D.eqv (.lst (([] : List Wo).map D.str)) (.lst []) = true := (eqv_lst rfl rfl).mpr rfl
        rw [this] at hc
        cases hc
      refine S.nil ?_
      rw [if_neg e]
      rfl
    subst hJ
    generalize (if nextsM rs h = [] then found ++ [h] else found) = found2 at hS1 ⊢
    refine S.asgL 2 (EL.cast (EL.cat (E.var 2 rfl) (EL.e (EL.comp [("_law_other", 6)] (as := nextsM rs h) (ι := D.str) (p := fun v => !decide (v ∈ met)) (f := D.str) (It.list (E.var 5 rfl)) (blkOk_by (by rfl)) (by omega) (fun a ha => ⟨[6], _, by decide, by rfl, fun s H C cl fp => ⟨(G.name 6), (T.cmp (E.var 6 rfl) (E.var 2 rfl) Op2.notInLS), fun hp => (E.var 6 rfl)⟩⟩) B.calm)) ?_) (show _ = (met ++ (nextsM rs h).filter fun v => !decide (v ∈ met)).map D.str from ?_)) ?_
    · have := List.length_filter_le (fun v => !decide (v ∈ met)) (nextsM rs h)
      rw [List.length_map, List.length_map]; omega
    · rw [List.map_append]
    refine S.freeze (i := 2) rfl ?_
    refine S.asg 4 (E.bin (E.var 4 rfl) E.int Op2.add) ?_
    have hS2 := hS1.addAll (xs := (nextsM rs h).filter fun v => !decide (v ∈ met)) hhm (fun x hx => by
      have := List.mem_filter.mp hx
      exact ⟨this.1, by simpa using this.2⟩) ((nextsM_nodup rs h).filter _)
    have hS3 := hS2.done (fun x hx => by
      by_cases c : x ∈ met
      · exact List.mem_append_left _ c
      · exact List.mem_append_right _ (List.mem_filter.mpr ⟨hx, by simpa using c⟩))
    refine S.nil ⟨797161 - (i + 1), by omega, _, _, _, _, i + 1, rfl, ?_, ?_, rfl⟩
    · rw [List.length_append]; omega
    · rw [List.drop_append_of_le_length (by omega)]
      exact hS3
  · have hge : met.length ≤ i := by
      have := of_decide_eq_false hc
      rw [List.length_map] at this
      omega
    rw [List.drop_eq_nil_of_le hge] at hS
    refine S.freeze (i := 3) rfl ?_
    refine S.ret (E.callT (EA.cons (EL.e (EL.callB (EA.cons (E.var 3 rfl) EA.nil) CallL.sortedL B.sorted (by decide +kernel))) EA.nil) CallD.tupL B.tuple (by decide +kernel)) ?_
    rw [endsM_of hrs hlw hS.fn hS.fin]

theorem R6.len {rs : List Ru} (h : R6 rs) : rs.length ≤ 20 := h.ok.few
theorem overM_len (one other : Wo) : (overM one other).length ≤ one.length := by
  unfold overM
  rw [List.length_map]
  exact Nat.le_trans (List.length_filter_le _ _) (by rw [List.length_range]; exact Nat.le_refl _)
def od2 (q : Nat × Wo) : D := .tup [.int (q.1 : Nat), .str q.2]
theorem sc_overlaps : FnScope ["one", "other", "found", "place", "size"] ["one", "other"] (defScope st_overlaps) := ⟨rfl, rfl, rfl, by decide +kernel, rfl, by decide +kernel, by decide +kernel⟩
def F_overlaps (ds : List D) (d : D) : Prop := ∃ (one other : Wo), ds = [.str one, .str other] ∧ one.length ≤ 1000 ∧ other.length ≤ 1000 ∧ d = .lst ((overM one other).map od2)
abbrev ps_overlaps : List Str := ["one", "other"]
def overTo (one other : Wo) (ps : List Nat) : List (Nat × Wo) := (ps.filter (overC one other)).map fun p => (p, overW one other p)
theorem def_overlaps (Sx : Stands K mg "overlaps" st_overlaps) (Nb : NoB mg)  : Def P w K mg base 1 "overlaps" ps_overlaps F_overlaps := by
  refine Def.of Sx Nb sc_overlaps (fun Fn => Fn.binds fun _ _ _ _ _ _ us hl => match us, hl with | [_, _], _ => rfl) (by decide) fun f cdv A outer s H Ex hr B Nd ds d hl hF => ?_
  obtain ⟨one, other, rfl, h1, h2, rfl⟩ := hF
  refine S.asgL 2 (EL.disp EA.nil (Nat.le_of_ble_eq_true rfl)) ?_
  refine S.for (List.range one.length) (fun p => .int (p : Nat)) (It.range1 B.range (E.callB (EA.cons (E.var 0 rfl) EA.nil) (CallD.lenS (by omega)) B.len PySem.boot_len) (by omega))
    (fun pre ds => ∃ s3 s4, ds = [.d (.str one), .d (.str other), .ol ((overTo one other pre).map od2), s3, s4]) ⟨_, _, rfl⟩ (fun pre p post ds' e hP => ?_) (fun ds' hP => ?_) B.calm
  · obtain ⟨s3, s4, rfl⟩ := hP
    have hp : p < one.length := by
      have : p ∈ List.range one.length := by rw [e]; exact List.mem_append_right _ List.mem_cons_self
      exact List.mem_range.mp this
    have hpre : pre.length ≤ 1000 := by
      have := congrArg List.length e
      rw [List.length_range, List.length_append] at this
      omega
    have hlen : (overTo one other pre).length ≤ 1000 := by
      unfold overTo
      rw [List.length_map]
      exact Nat.le_trans (List.length_filter_le _ _) hpre
    refine ⟨[3], _, (G.name 3), ?_⟩
    refine S.asg 4 (E.cast (E.callB (EA.cons (E.bin (E.callB (EA.cons (E.var 0 rfl) EA.nil) (CallD.lenS (by omega)) B.len PySem.boot_len) (E.var 3 rfl) Op2.sub) (EA.cons (E.callB (EA.cons (E.var 1 rfl) EA.nil) (CallD.lenS (by omega)) B.len PySem.boot_len) EA.nil)) (CallD.min2 B) B.min (by decide +kernel)) (show _ = D.int (overN one other p : Nat) from ?_)) ?_
    · unfold overN
      congr 1
      omega
    refine S.ifJ (fun ds => ds = [.d (.str one), .d (.str other), .ol ((overTo one other (pre ++ [p])).map od2), .d (.int (p : Nat)), .d (.int (overN one other p : Nat))]) (T.cast (T.cmp (E.slS (E.var 0 rfl) (EO.yes (E.var 3 rfl)) (EO.yes (E.bin (E.var 3 rfl) (E.var 4 rfl) Op2.add)) (by omega)) (E.slS (E.var 1 rfl) EO.no (EO.yes (E.var 4 rfl)) (by omega)) Op2.eqS) (show _ = overC one other p from ?_)) (fun hc => ?_) (fun hc => ?_) (fun ds' hJ => ?_)
    · rw [← Int.natCast_add, cutA_nn, cutA_0n, Nat.add_sub_cancel_left]
      rfl
    · refine S.append 2 rfl (E.tup (EA.cons (E.var 3 rfl) (EA.cons (E.bin (E.bin (E.slS (E.var 0 rfl) EO.no (EO.yes (E.var 3 rfl)) (by omega)) (E.var 1 rfl) (Op2.addS ?_)) (E.slS (E.var 0 rfl) (EO.yes (E.bin (E.var 3 rfl) (E.callB (EA.cons (E.var 1 rfl) EA.nil) (CallD.lenS (by omega)) B.len PySem.boot_len) Op2.add)) EO.no (by omega)) (Op2.addS ?_)) EA.nil)) (Nat.le_of_ble_eq_true rfl)) ?_ ?_
      · rw [cutA_0n, List.length_take]; omega
      · rw [← Int.natCast_add, cutA_0n, cutA_n0, List.length_append, List.length_take, List.length_drop]; omega
      · rw [List.length_map]; omega
      refine S.nil ?_
      unfold overTo
      rw [List.filter_append, List.filter_cons, if_pos hc, List.map_append, List.map_append, ← Int.natCast_add, cutA_0n, cutA_n0]
      rfl
    · refine S.nil ?_
      unfold overTo
      rw [List.filter_append, List.filter_cons, if_neg (by rw [hc]; decide), List.filter_nil, List.append_nil]
      rfl
    subst hJ
    exact S.nil ⟨_, _, rfl⟩
  · obtain ⟨s3, s4, rfl⟩ := hP
    refine S.freeze (i := 2) rfl ?_
    exact S.ret (E.var 2 rfl) rfl
theorem onceW_snoc (ws : List Wo) (w : Wo) : onceW (ws ++ [w]) = insW (onceW ws) w := by
  unfold onceW
  rw [List.foldl_append]
  rfl
theorem sc_clashes : FnScope ["rules", "found", "k", "one", "n", "other", "place", "word"] ["rules"] (defScope st_clashes) := ⟨rfl, rfl, rfl, by decide +kernel, rfl, by decide +kernel, by decide +kernel⟩
def F_clashes (ds : List D) (d : D) : Prop := ∃ (rs : List Ru), ds = [rsd rs] ∧ R6 rs ∧ d = .tup ((clashesM rs).map D.str)
abbrev ps_clashes : List Str := ["rules"]
def clashI (rs : List Ru) (a : Ru × Nat) (bs : List (Ru × Nat)) : List Wo := bs.flatMap fun b => clashPair a b
def clashO (rs : List Ru) (as : List (Ru × Nat)) : List Wo := as.flatMap fun a => clashI rs a rs.zipIdx
theorem clashPair_len {a b : Ru × Nat} (h : a.1.1.length ≤ 6) : (clashPair a b).length ≤ 6 := by
  unfold clashPair
  rw [List.length_map]
  exact Nat.le_trans (List.length_filter_le _ _) (Nat.le_trans (overM_len _ _) h)
theorem flatMap_le {α β : Type} {f : α → List β} {c : Nat} : ∀ (xs : List α), (∀ x ∈ xs, (f x).length ≤ c) → (xs.flatMap f).length ≤ xs.length * c
  | [], _ => by simp
  | x :: xs, h => by
    rw [List.flatMap_cons, List.length_append, List.length_cons, Nat.succ_mul]
    have := h x List.mem_cons_self
    have := flatMap_le xs fun y hy => h y (List.mem_cons_of_mem _ hy)
    omega
theorem def_clashes (Sx : Stands K mg "clashes" st_clashes) (Nb : NoB mg) (G_overlaps : Def P w K mg base 1 "overlaps" ps_overlaps F_overlaps) : Def P w K mg base 2 "clashes" ps_clashes F_clashes := by
  refine Def.of Sx Nb sc_clashes (fun Fn => Fn.binds fun _ _ _ _ _ _ us hl => match us, hl with | [_], _ => rfl) (by decide) fun f cdv A outer s H Ex hr B Nd ds d hl hF => ?_
  obtain ⟨rs, rfl, hrs, rfl⟩ := hF
  have hfew := hrs.len
  have six : ∀ a ∈ rs.zipIdx, a.1.1.length ≤ 6 := fun a ha => hrs.six a.1 (List.fst_mem_of_mem_zipIdx ha)
  have zl : rs.zipIdx.length ≤ 20 := by rw [List.length_zipIdx]; exact hfew
  refine S.asgD0 1 ?_
  refine S.for rs.zipIdx (fun q => .tup [.int (q.2 : Nat), rd q.1]) (It.cast (It.enumT B (E.var 0 (rfl : _ = some (Sl.d (.tup (rs.map rd)))))) (enum_rules rs)) (fun pre ds => ∃ s2 s3 s4 s5 s6 s7, ds = [.d (rsd rs), .od (onceW (clashO rs pre)), s2, s3, s4, s5, s6, s7]) ⟨_, _, _, _, _, _, rfl⟩ (fun pre a post ds' e hP => ?_) (fun ds' hP => ?_) B.calm
  · obtain ⟨s2, s3, s4, s5, s6, s7, rfl⟩ := hP
    have ha : a ∈ rs.zipIdx := by rw [e]; exact List.mem_append_right _ List.mem_cons_self
    have hpre : pre.length ≤ 20 := by
      have := congrArg List.length e
      rw [List.length_append, List.length_cons] at this
      omega
    have lO : (clashO rs pre).length ≤ 20 * (20 * 6) := by
      refine Nat.le_trans (flatMap_le (c := 20 * 6) pre fun x hx => ?_) (Nat.mul_le_mul_right _ hpre)
      refine Nat.le_trans (flatMap_le (c := 6) _ fun y hy => clashPair_len (six x ?_)) (Nat.mul_le_mul_right _ zl)
      rw [e]; exact List.mem_append_left _ hx
    refine ⟨[2, 3], _, (G.pair (by rfl) (G.name 2) (G.name 3)), ?_⟩
    refine S.for rs.zipIdx (fun q => .tup [.int (q.2 : Nat), rd q.1]) (It.cast (It.enumT B (E.var 0 (rfl : _ = some (Sl.d (.tup (rs.map rd)))))) (enum_rules rs)) (fun pre2 ds => ∃ s4 s5 s6 s7, ds = [.d (rsd rs), .od (onceW (clashO rs pre ++ clashI rs a pre2)), .d (.int (a.2 : Nat)), .d (rd a.1), s4, s5, s6, s7]) ⟨_, _, _, _, by rw [show clashI rs a [] = [] from rfl, List.append_nil]; rfl⟩ (fun pre2 b post2 ds' e2 hP => ?_) (fun ds' hP => ?_) B.calm
    · obtain ⟨s4, s5, s6, s7, rfl⟩ := hP
      have hb : b ∈ rs.zipIdx := by rw [e2]; exact List.mem_append_right _ List.mem_cons_self
      have hpre2 : pre2.length ≤ 20 := by
        have := congrArg List.length e2
        rw [List.length_append, List.length_cons] at this
        omega
      have lI : (clashI rs a pre2).length ≤ 20 * 6 := Nat.le_trans (flatMap_le (c := 6) _ fun y hy => clashPair_len (six a ha)) (Nat.mul_le_mul_right _ hpre2)
      have a6 := six a ha
      have b6 := six b hb
      refine ⟨[4, 5], _, (G.pair (by rfl) (G.name 4) (G.name 5)), ?_⟩
      refine S.for (overM a.1.1 b.1.1) od2 (It.list (E.call G_overlaps (hr.mono (by decide)) (EA.cons (E.ixT (xs := [.str a.1.1, .str a.1.2]) (E.var 3 rfl) E.int rfl) (EA.cons (E.ixT (xs := [.str b.1.1, .str b.1.2]) (E.var 5 rfl) E.int rfl) EA.nil)) ⟨a.1.1, b.1.1, rfl, by omega, by omega, rfl⟩)) (fun pre3 ds => ∃ s6 s7, ds = [.d (rsd rs), .od (onceW (clashO rs pre ++ clashI rs a pre2 ++ (pre3.filter (clashQ a b)).map (·.2))), .d (.int (a.2 : Nat)), .d (rd a.1), .d (.int (b.2 : Nat)), .d (rd b.1), s6, s7]) ⟨_, _, by rw [List.filter_nil, List.map_nil, List.append_nil]; rfl⟩ (fun pre3 q post3 ds' e3 hP => ?_) (fun ds' hP => ?_) B.calm
      · obtain ⟨s6, s7, rfl⟩ := hP
        have l3 : ((pre3.filter (clashQ a b)).map (·.2)).length ≤ 6 := by
          rw [List.length_map]
          refine Nat.le_trans (List.length_filter_le _ _) ?_
          have h := overM_len a.1.1 b.1.1
          rw [e3, List.length_append] at h
          omega
        refine ⟨[6, 7], _, (G.pair (x := .int (q.1 : Nat)) (y := .str q.2) (by rfl) (G.name 6) (G.name 7)), ?_⟩
        refine S.ifJ (fun ds => ds = [.d (rsd rs), .od (onceW (clashO rs pre ++ clashI rs a pre2 ++ ((pre3 ++ [q]).filter (clashQ a b)).map (·.2))), .d (.int (a.2 : Nat)), .d (rd a.1), .d (.int (b.2 : Nat)), .d (rd b.1), .d (.int (q.1 : Nat)), .d (.str q.2)]) (T.cast (TW.t (TW.or (T.cmp (E.var 2 rfl) (E.var 4 rfl) Op2.neI) fun _ => (TW.or1 (T.cmp (E.var 6 rfl) E.int Op2.gt)))) (show _ = clashQ a b q from rfl)) (fun hc => ?_) (fun hc => ?_) (fun ds' hJ => ?_)
        · refine S.dput 1 B rfl (E.var 7 rfl) ?_ ?_
          · refine Nat.lt_of_le_of_lt (onceW_len _) ?_
            rw [List.length_append, List.length_append]; omega
          refine S.nil ?_
          rw [List.filter_append, List.filter_cons, if_pos hc, List.filter_nil, List.map_append, ← List.append_assoc, List.map_cons, List.map_nil, onceW_snoc]
          rfl
        · refine S.nil ?_
          rw [List.filter_append, List.filter_cons, if_neg (by rw [hc]; decide), List.filter_nil, List.append_nil]
          rfl
        subst hJ
        exact S.nil ⟨_, _, rfl⟩
      · obtain ⟨s6, s7, rfl⟩ := hP
        refine S.nil ⟨.d (.int (b.2 : Nat)), .d (rd b.1), s6, s7, ?_⟩
        have ee : clashI rs a (pre2 ++ [b]) = clashI rs a pre2 ++ clashPair a b := by
          unfold clashI
          rw [List.flatMap_append, List.flatMap_singleton]
        rw [ee, ← List.append_assoc]
        rfl
    · obtain ⟨s4, s5, s6, s7, rfl⟩ := hP
      refine S.nil ⟨.d (.int (a.2 : Nat)), .d (rd a.1), s4, s5, s6, s7, ?_⟩
      have ee : clashO rs (pre ++ [a]) = clashO rs pre ++ clashI rs a rs.zipIdx := by
        unfold clashO
        rw [List.flatMap_append, List.flatMap_singleton]
      rw [ee]
  · obtain ⟨s2, s3, s4, s5, s6, s7, rfl⟩ := hP
    exact S.ret (E.callT (EA.cons (EL.e (EL.sortedOD 1 B rfl)) EA.nil) CallD.tupL B.tuple (by decide +kernel)) rfl
theorem sc_doubt : FnScope ["rules", "word"] ["rules"] (defScope st_doubt) := ⟨rfl, rfl, rfl, by decide +kernel, rfl, by decide +kernel, by decide +kernel⟩
def oD (o : Option Wo) : D := match o with
  | none => .non
  | some w => .str w
def F_doubt (ds : List D) (d : D) : Prop := ∃ (rs : List Ru), ds = [rsd rs] ∧ R6 rs ∧ d = oD (doubtM rs)
abbrev ps_doubt : List Str := ["rules"]
theorem def_doubt (Sx : Stands K mg "doubt" st_doubt) (Nb : NoB mg) (G_clashes : Def P w K mg base 2 "clashes" ps_clashes F_clashes) (G_ends : Def P w K mg base 4 "ends" ps_ends F_ends) : Def P w K mg base 5 "doubt" ps_doubt F_doubt := by
  refine Def.of Sx Nb sc_doubt (fun Fn => Fn.binds fun _ _ _ _ _ _ us hl => match us, hl with | [_], _ => rfl) (by decide) fun f cdv A outer s H Ex hr B Nd ds d hl hF => ?_
  obtain ⟨rs, rfl, hrs, rfl⟩ := hF
  refine S.for (clashesM rs) D.str (It.tup (E.call G_clashes (hr.mono (by decide)) (EA.cons (E.var 0 rfl) EA.nil) ⟨rs, rfl, hrs, rfl⟩)) (fun pre ds => (∃ s1, ds = [.d (rsd rs), s1]) ∧ ∀ c ∈ pre, ¬ 1 < (endsM rs c).length) ⟨⟨_, rfl⟩, by simp⟩ (fun pre c post ds' e hP => ?_) (fun ds' hP => ?_) B.calm
  · obtain ⟨⟨s1, rfl⟩, hpre⟩ := hP
    have hc' : c ∈ clashesM rs := by rw [e]; exact List.mem_append_right _ List.mem_cons_self
    have co := clash_ok hrs hc'
    refine ⟨[1], _, (G.name 1), ?_⟩
    refine S.if (T.cmp (E.callB (EA.cons (E.call G_ends (hr.mono (by decide)) (EA.cons (E.var 0 rfl) (EA.cons (E.var 1 rfl) EA.nil)) ⟨rs, c, rfl, hrs.ok, co.1, by omega, rfl⟩) EA.nil) CallD.lenT B.len PySem.boot_len) E.int Op2.gt) (fun hc => ?_) (fun hc => ?_)
    · have h1 : 1 < (endsM rs c).length := by
        have := of_decide_eq_true hc
        rw [List.length_map] at this
        omega
      refine S.ret (E.var 1 rfl) ?_
      have : doubtM rs = some c := by
        unfold doubtM
        rw [e, List.find?_append, List.find?_eq_none.mpr (fun x hx => by simpa using hpre x hx)]
        simp [h1]
      rw [this]
      rfl
    refine S.nil ?_
    have h1 : ¬ 1 < (endsM rs c).length := by
      have := of_decide_eq_false hc
      rw [List.length_map] at this
      omega
    refine S.nil ⟨⟨_, rfl⟩, fun x hx => ?_⟩
    rcases List.mem_append.mp hx with q | q
    · exact hpre x q
    · rw [List.mem_singleton.mp q]; exact h1
  · obtain ⟨⟨s1, rfl⟩, hall⟩ := hP
    refine S.ret E.non ?_
    have : doubtM rs = none := List.find?_eq_none.mpr fun x hx => by simpa using hall x hx
    rw [this]
    rfl
theorem sc_are_sure : FnScope ["rules"] ["rules"] (defScope st_are_sure) := ⟨rfl, rfl, rfl, by decide +kernel, rfl, by decide +kernel, by decide +kernel⟩
def F_are_sure (ds : List D) (d : D) : Prop := ∃ (rs : List Ru), ds = [rsd rs] ∧ R6 rs ∧ d = .bl (doubtM rs).isNone
abbrev ps_are_sure : List Str := ["rules"]
theorem oD_isN (o : Option Wo) : (oD o).isN = o.isNone := by cases o <;> rfl
theorem def_are_sure (Sx : Stands K mg "are_sure" st_are_sure) (Nb : NoB mg) (G_doubt : Def P w K mg base 5 "doubt" ps_doubt F_doubt) : Def P w K mg base 6 "are_sure" ps_are_sure F_are_sure := by
  refine Def.of Sx Nb sc_are_sure (fun Fn => Fn.binds fun _ _ _ _ _ _ us hl => match us, hl with | [_], _ => rfl) (by decide) fun f cdv A outer s H Ex hr B Nd ds d hl hF => ?_
  obtain ⟨rs, rfl, hrs, rfl⟩ := hF
  refine S.ret (E.cmp (E.call G_doubt (hr.mono (by decide)) (EA.cons (E.var 0 rfl) EA.nil) ⟨rs, rfl, hrs, rfl⟩) E.non Op2.isN) ?_
  rw [oD_isN]

theorem tame_six {n : Int} {ls : Wo} (h : Ls ls) : ∀ r ∈ tameM n ls, r.1.length ≤ 6 := by
  have key : ∀ r ∈ ([([98, 97], [97, 98]), ([99, 97], [97, 99]), ([99, 98], [98, 99])] : List Ru), r.1.length ≤ 6 := by decide
  intro r hr
  unfold tameM at hr
  rcases List.mem_append.mp hr with hr | hr
  · unfold tame0 at hr
    simp only at hr
    split at hr
    · exact key r (List.mem_of_mem_take (List.mem_of_mem_take hr))
    · exact key r (List.mem_of_mem_take hr)
  · obtain ⟨q, hq, hr⟩ := List.mem_flatMap.mp hr
    unfold tame1 at hr
    split at hr
    · rw [List.mem_singleton.mp hr]
      have h2 := Int.emod_lt_of_pos (drawnM n (q.2 : Nat) / 3) (show (0 : Int) < 2 by decide)
      simp only [List.length_replicate]
      omega
    · cases hr
theorem rules_r6 {six : Bool} {most : Int} {n : Int} (hm : 0 < most ∧ most ≤ 9) : R6 (rulesM six most n) := by
  refine ⟨rules_ok hm, fun r hr => ?_⟩
  have f : ∀ r ∈ found2M six most n, r.1.length ≤ 6 := fun r hr => by
    unfold found2M at hr
    split at hr
    · obtain ⟨k, _, rfl⟩ := List.mem_map.mp hr
      exact (left_len _ _ _).2
    · split at hr
      · rcases List.mem_append.mp hr with hr | hr
        · exact tame_six (letters_ok n) r hr
        · rw [List.mem_singleton.mp hr]; exact (left_len _ _ _).2
      · exact tame_six (letters_ok n) r hr
  unfold rulesM at hr
  rcases List.mem_append.mp hr with hr | hr
  · exact f r (List.mem_of_mem_drop hr)
  · exact f r (List.mem_of_mem_take hr)
theorem find_sign {c : Nat} (h : c = 97 ∨ c = 98 ∨ c = 99) : decide (findM (cs "abc") [c] < 0) = false := by
  refine decide_eq_false fun q => ?_
  have : 0 ≤ findM (cs "abc") [c] := by
    refine findM_ge.mpr ?_
    rcases h with rfl | rfl | rfl
    · exact ⟨0, by decide +kernel, by decide +kernel⟩
    · exact ⟨1, by decide +kernel, by decide +kernel⟩
    · exact ⟨2, by decide +kernel, by decide +kernel⟩
  omega

theorem sc_lean : FnScope ["rules", "lefts", "kept", "left", "right", "other"] ["rules"] (defScope st_lean) := ⟨rfl, rfl, rfl, by decide +kernel, rfl, by decide +kernel, by decide +kernel⟩
def F_lean (ds : List D) (d : D) : Prop := ∃ (rs : List Ru), ds = [rsd rs] ∧ R6 rs ∧ d = rsd (leanM rs)
abbrev ps_lean : List Str := ["rules"]
theorem def_lean (Sx : Stands K mg "lean" st_lean) (Nb : NoB mg) (G_end : Def P w K mg base 3 "end" ps_end F_end) : Def P w K mg base 4 "lean" ps_lean F_lean := by
  refine Def.of Sx Nb sc_lean (fun Fn => Fn.binds fun _ _ _ _ _ _ us hl => match us, hl with | [_], _ => rfl) (by decide) fun f cdv A outer s H Ex hr B Nd ds d hl hF => ?_
  obtain ⟨rs, rfl, hrs, rfl⟩ := hF
  have few := hrs.len
  have lfew := lefts_len hrs
  refine S.asgL 1 (EL.sortedSet (ws := rs.map (·.1)) B (E.cast (EL.e (EL.comp [("left", 3), ("right", 4)] (as := rs) (ι := rd) (p := fun _ => true) (f := fun r => .str r.1) (It.tup (E.var 0 rfl)) (blkOk_by (by rfl)) (by omega) (fun a ha => ⟨[3, 4], _, by decide, by rfl, fun s H C cl fp => ⟨(G.pair (x := .str a.1) (y := .str a.2) (by rfl) (G.name 3) (G.name 4)), by rfl, fun hp => (E.var 3 rfl)⟩⟩) B.calm)) ?_) ?_) ?_
  · rw [List.filter_eq_self.mpr (fun _ _ => rfl), List.map_map]
    rfl
  · rw [List.length_map]; omega
  refine S.freeze (i := 1) rfl ?_
  refine S.asgC [("left", 3)] (as := leftsM rs) (ι := D.str) (p := keepM (leftsM rs)) (f := D.str) 2 (It.list (E.var 1 rfl)) (blkOk_by (by rfl)) (by omega) (fun a ha => ⟨[3], _, by decide, by rfl, fun s H C cl fp => ⟨(G.name 3), (T.cast (T.not (T.val (E.callB (EA.cons (E.cast (EL.e (EL.comp [("other", 5)] (as := leftsM rs) (ι := D.str) (p := fun _ => true) (f := fun o => .bl (inM a o)) (It.list (E.var 1 rfl)) (blkOk_by (by rfl)) (by omega) (fun b hb => ⟨[5], _, by decide, by rfl, fun s H C cl fp => ⟨(G.name 5), by rfl, fun hp => (E.and (E.cmp (E.var 5 rfl) (E.var 3 rfl) Op2.neS) fun _ => (E.one (E.cmp (E.m1 PySem.F.slot_str_find PySem.F.type_str_find (E.var 3 rfl) (E.var 5 rfl) MtD.find) E.int Op2.ge)))⟩⟩) (by rfl))) (show _ = D.lst (((leftsM rs).map (inM a)).map D.bl) by rw [List.filter_eq_self.mpr (fun _ _ => rfl), List.map_map]; rfl)) EA.nil) (CallD.any (by exact B)) (by exact B.any) (by decide +kernel)))) (by rfl)), fun hp => (E.var 3 rfl)⟩⟩) B.calm ?_ (sw_true rfl rfl rfl (by decide +kernel))
  refine S.freeze (i := 2) rfl ?_
  refine S.ret (E.callT (EA.cons (EL.e (EL.comp [("left", 3)] (as := (leftsM rs).filter (keepM (leftsM rs))) (ι := D.str) (p := fun _ => true) (f := fun l => rd (l, endM rs l)) (It.list (E.var 2 rfl)) (blkOk_by (by rfl)) ?_ (fun a ha => ⟨[3], _, by decide, by rfl, fun s H C cl fp => ⟨(G.name 3), by rfl, fun hp => (E.tup (EA.cons (E.var 3 rfl) (EA.cons (E.call G_end (hr.mono (by decide)) (EA.cons (E.var 0 rfl) (EA.cons (E.var 3 rfl) EA.nil)) ⟨rs, a, rfl, hrs.ok, (lefts_lw hrs (List.mem_filter.mp ha).1).1, by have := (lefts_lw hrs (List.mem_filter.mp ha).1).2.1; omega, rfl⟩) EA.nil)) (Nat.le_of_ble_eq_true rfl))⟩⟩) B.calm)) EA.nil) CallD.tupL B.tuple (by decide +kernel)) ?_
  · have := List.length_filter_le (keepM (leftsM rs)) (leftsM rs)
    omega
  · show D.tup _ = D.tup _
    unfold leanM
    rw [List.filter_eq_self.mpr (fun _ _ => rfl), List.map_map]
    rfl

theorem eqv_nil (xs : List Wo) : D.eqv (.lst (xs.map D.str)) (.lst []) = decide (xs = []) := by
  rw [Bool.eq_iff_iff, eqv_lst (nob_strs _) rfl, decide_eq_true_iff, List.map_eq_nil_iff]
theorem atI_first {xs : List Wo} (h : xs ≠ []) : L2.atI (xs.map D.str) 0 = some (.str (xs.headD [])) := by
  cases xs with
  | nil => exact absurd rfl h
  | cons x l => exact atI_head _ _
theorem atI_end {xs : List Wo} (h : xs ≠ []) : L2.atI (xs.map D.str) (-1) = some (.str (xs.getLastD [])) := by
  obtain ⟨ys, y, rfl⟩ := last_split (List.length_pos_iff.mpr h)
  rw [List.map_append, List.getLastD_concat]
  exact Wm.atI_last _ _
theorem sc_l_more : FnScope ["_law_rules_here", "_law_number", "_law_found", "_law_k", "_law_word_here", "_law_some"] ["_law_rules_here", "_law_number"] (defScope st_l_more) := ⟨rfl, rfl, rfl, by decide +kernel, rfl, by decide +kernel, by decide +kernel⟩
def F_l_more (ds : List D) (d : D) : Prop := ∃ (rs : List Ru) (n : Int), ds = [rsd rs, .int n] ∧ Rs rs ∧ d = rsd (moreM rs n)
abbrev ps_l_more : List Str := ["_law_rules_here", "_law_number"]
theorem def_l_more (Sx : Stands K mg "_law_more" st_l_more) (Nb : NoB mg) (G_l_word : Def P w K mg base 2 "_law_word" ps_l_word F_l_word) (G_l_nexts : Def P w K mg base 2 "_law_nexts" ps_l_nexts F_l_nexts) (G_l_drawn : Def P w K mg base 1 "_law_drawn" ps_l_drawn F_l_drawn) (G_l_ends : Def P w K mg base 3 "_law_ends" ps_l_ends F_l_ends) : Def P w K mg base 4 "_law_more" ps_l_more F_l_more := by
  refine Def.of Sx Nb sc_l_more (fun Fn => Fn.binds fun _ _ _ _ _ _ us hl => match us, hl with | [_, _], _ => rfl) (by decide) fun f cdv A outer s H Ex hr B Nd ds d hl hF => ?_
  obtain ⟨rs, n, rfl, hrs, rfl⟩ := hF
  have h1 := Int.emod_nonneg n (show (4 : Int) ≠ 0 by decide)
  have h2 := Int.emod_lt_of_pos n (show (0 : Int) < 4 by decide)
  refine S.asgL 2 (EL.disp EA.nil (Nat.le_of_ble_eq_true rfl)) ?_
  refine S.for (List.range (n % 4).toNat) (fun k => .int (k : Nat)) (It.range1 B.range (E.bin (E.var 1 rfl) E.int (Op2.mod (by decide))) (by omega))
    (fun pre ds => ∃ s3 s4 s5, ds = [.d (rsd rs), .d (.int n), .ol ((pre.flatMap (moreM1 rs n)).map rd), s3, s4, s5]) ⟨_, _, _, rfl⟩ (fun pre k post ds' e hP => ?_) (fun ds' hP => ?_) B.calm
  · obtain ⟨s3, s4, s5, rfl⟩ := hP
    have hpre : pre.length ≤ 3 := by
      have := congrArg List.length e
      rw [List.length_range, List.length_append] at this
      omega
    have hfl : (pre.flatMap (moreM1 rs n)).length ≤ 3 := Nat.le_trans (flatMap_len _ fun k _ => more1_len rs n k) hpre
    have hsnoc : (pre ++ [k]).flatMap (moreM1 rs n) = pre.flatMap (moreM1 rs n) ++ moreM1 rs n k := by rw [List.flatMap_append, List.flatMap_singleton]
    refine ⟨[3], _, (G.name 3), ?_⟩
    refine S.asg 4 (E.call G_l_word (hr.mono (by decide)) (EA.cons (E.call G_l_drawn (hr.mono (by decide)) (EA.cons (E.var 1 rfl) (EA.cons (E.var 3 rfl) EA.nil)) ⟨_, _, rfl, rfl⟩) (EA.cons E.lit (EA.cons E.int EA.nil))) ⟨_, [97, 98, 99], _, rfl, by decide, by decide, by decide, by decide, rfl⟩) ?_
    have hlw : Lw (wordM (drawnM n k) [97, 98, 99] 6) := (word_wd (by decide)).lw
    have hw6 : ((wordM (drawnM n k) [97, 98, 99] 6).length : Int) ≤ 6 := wordM_len (by decide)
    have hone : moreM1 rs n k = if nextsM rs (wordM (drawnM n k) [97, 98, 99] 6) = [] then [] else
      [(wordM (drawnM n k) [97, 98, 99] 6, if drawnM n k / 16 % 2 = 0 then (endsM rs (wordM (drawnM n k) [97, 98, 99] 6)).headD [] else (nextsM rs (wordM (drawnM n k) [97, 98, 99] 6)).getLastD [])] := rfl
    revert hlw hw6 hone
    generalize wordM (drawnM n k) [97, 98, 99] 6 = wd
    intro hlw hw6 hone
    refine S.asg 5 (E.call G_l_nexts (hr.mono (by decide)) (EA.cons (E.var 0 rfl) (EA.cons (E.var 4 rfl) EA.nil)) ⟨rs, wd, rfl, hrs, by omega, rfl⟩) ?_
    refine S.ifJ (fun ds => ∃ s3 s4 s5, ds = [.d (rsd rs), .d (.int n), .ol (((pre ++ [k]).flatMap (moreM1 rs n)).map rd), s3, s4, s5]) (k := !decide (nextsM rs wd = [])) (T.cast (T.cmp (E.var 5 rfl) (EL.e (EL.disp EA.nil (Nat.le_of_ble_eq_true rfl))) (Op2.neD B (fine_lst (fine_map fun v hv => fine_wo (next_lw hrs hlw hv) 63)) (by rfl))) (by rw [eqv_nil])) (fun hc => ?_) (fun hc => ?_) (fun ds' hJ => ?_)
    · have hne : nextsM rs wd ≠ [] := by simpa using hc
      have m1 := Int.emod_nonneg (drawnM n k / 16) (show (2 : Int) ≠ 0 by decide)
      have m2 := Int.emod_lt_of_pos (drawnM n k / 16) (show (0 : Int) < 2 by decide)
      have hat : L2.atI [D.str ((endsM rs wd).headD []), D.str ((nextsM rs wd).getLastD [])] (drawnM n k / 16 % 2) = some (.str (if drawnM n k / 16 % 2 = 0 then (endsM rs wd).headD [] else (nextsM rs wd).getLastD [])) := by
        rw [atI_two (by omega)]
        split <;> rfl
      refine S.append 2 rfl (E.tup (EA.cons (E.var 4 rfl) (EA.cons (E.ixL (EL.e (EL.disp (EA.cons (E.ixT (E.call G_l_ends (hr.mono (by decide)) (EA.cons (E.var 0 rfl) (EA.cons (E.var 4 rfl) EA.nil)) ⟨rs, wd, rfl, hrs, hlw, by omega, rfl⟩) E.int (atI_first (endsM_ne hrs hlw))) (EA.cons (E.ixL (E.var 5 rfl) (E.neg E.int) (atI_end hne)) EA.nil)) (Nat.le_of_ble_eq_true rfl))) (E.bin (E.bin (E.call G_l_drawn (hr.mono (by decide)) (EA.cons (E.var 1 rfl) (EA.cons (E.var 3 rfl) EA.nil)) ⟨_, _, rfl, rfl⟩) E.int (Op2.div (by decide))) E.int (Op2.mod (by decide))) hat) EA.nil)) (Nat.le_of_ble_eq_true rfl)) ?_ ?_
      · rw [List.length_map]; omega
      refine S.nil ⟨.d (.int (k : Nat)), .d (.str wd), .d (.lst ((nextsM rs wd).map D.str)), ?_⟩
      rw [hsnoc, hone, if_neg hne, List.map_append]
      rfl
    · have hn : nextsM rs wd = [] := by simpa using hc
      refine S.nil ⟨.d (.int (k : Nat)), .d (.str wd), .d (.lst ((nextsM rs wd).map D.str)), ?_⟩
      rw [hsnoc, hone, if_pos hn, List.append_nil]
      rfl
    obtain ⟨t3, t4, t5, rfl⟩ := hJ
    exact S.nil ⟨_, _, _, rfl⟩
  · obtain ⟨s3, s4, s5, rfl⟩ := hP
    refine S.freeze (i := 2) rfl ?_
    exact S.ret (E.callT (EA.cons (E.var 2 rfl) EA.nil) CallD.tupL B.tuple (by decide +kernel)) rfl

theorem sc_law : FnScope ["_law_script", "_law_rules_here", "_law_found", "_law_lefts", "_law_first", "_law_word_here", "_law_more_here", "_law_left", "_law_right", "_law_rule_here", "_law_other"] ["_law_script"] (defScope st_law) := ⟨rfl, rfl, rfl, by decide +kernel, rfl, by decide +kernel, by decide +kernel⟩
theorem fine_q {qs : List Ru} (h : R6 qs) : fine 64 (rsd qs) = true := fine_tup (fine_map fun r hr => fine_rd (h.ok.all r hr) 62)
theorem once_len {ls : List Wo} (h : ls.Nodup) : (onceW ls).length = ls.length := ((List.perm_ext_iff_of_nodup (onceW_nodup ls) h).mpr fun w => mem_onceW).length_eq
/-- what the law asks of lean rules -/
structure LeanOk (rs qs : List Ru) : Prop where
  r6 : R6 qs
  asc : qs.Pairwise fun a b => a.1 < b.1
  fin : FinR rs qs
  self : leanM qs = qs
  left : ∀ q ∈ qs, q.1 ∈ rs.map (·.1)
  apart : ∀ q ∈ qs, ∀ o ∈ qs.map (·.1), inM q.1 o = false
  right : ∀ q ∈ qs, placesM rs q.2 = [] ∧ q.2.length ≤ 6
  more : ∀ ms, MoreR rs ms → R6 (rs ++ ms) → R6 (ms ++ rs) → leanM (rs ++ ms) = qs ∧ leanM (ms ++ rs) = qs
theorem lean_ok {rs : List Ru} (h : R6 rs) (s : SureM rs) : LeanOk rs (leanM rs) where
  r6 := lean_r6 h
  asc := lean_asc rs
  fin := lean_fin h
  self := lean_lean h s
  left := fun q hq => by
    have : q.1 ∈ keptM rs := by rw [← lean_lefts]; exact List.mem_map.mpr ⟨q, hq, rfl⟩
    obtain ⟨r, hr, e⟩ := mem_lefts.mp (mem_kept.mp this).1
    exact List.mem_map.mpr ⟨r, hr, e⟩
  apart := fun q hq o ho => by
    have h1 : q.1 ∈ keptM rs := by rw [← lean_lefts]; exact List.mem_map.mpr ⟨q, hq, rfl⟩
    rw [lean_lefts] at ho
    unfold inM
    cases hd : decide ((0 : Int) ≤ findM q.1 o) with
    | false => rw [Bool.and_false]
    | true =>
      have := (mem_kept.mp h1).2 o (mem_kept.mp ho).1 (find_iff.mp (of_decide_eq_true hd))
      rw [decide_eq_true this]; rfl
  right := fun q hq => by
    rw [lean_eq] at hq
    obtain ⟨l, hl, rfl⟩ := List.mem_map.mp hq
    obtain ⟨l1, l2, _⟩ := lefts_lw h (mem_kept.mp hl).1
    exact ⟨nexts_nil.mp (endM_isEnd h.ok l1).2, Nat.le_trans (endM_len h.ok l1) l2⟩
  more := fun ms M g g' => ⟨more_lean M h g s, lean_more M h g g' s⟩
theorem def_law (Sx : Stands K mg "law" st_law) (Nb : NoB mg) (G_l_rules : Def P w K mg base 4 "_law_rules" ps_l_rules F_l_rules) (G_lean : Def P w K mg base 4 "lean" ps_lean F_lean) (G_l_word : Def P w K mg base 2 "_law_word" ps_l_word F_l_word) (G_l_more : Def P w K mg base 4 "_law_more" ps_l_more F_l_more) (G_l_mixed : Def P w K mg base 2 "_law_mixed" ps_l_mixed F_l_mixed) (G_are_sure : Def P w K mg base 6 "are_sure" ps_are_sure F_are_sure) (G_l_ends : Def P w K mg base 3 "_law_ends" ps_l_ends F_l_ends) (G_l_places : Def P w K mg base 1 "_law_places" ps_l_places F_l_places) : Def P w K mg base 7 "law" ps_law F_law := by
  refine Def.of Sx Nb sc_law (fun Fn => Fn.binds fun _ _ _ _ _ _ us hl => match us, hl with | [_], _ => rfl) (by decide) fun f cdv A outer s H Ex hr B Nd ds d hl hF => ?_
  obtain ⟨ns, rfl, hns, rfl⟩ := hF
  refine S.asg 1 (E.call G_l_rules (hr.mono (by decide)) (EA.cons (E.call G_l_mixed (hr.mono (by decide)) (EA.cons (E.var 0 rfl) (EA.cons E.int EA.nil)) ⟨ns, 0, rfl, rfl⟩) EA.nil) ⟨_, rfl, rfl⟩) ?_
  have hrs : R6 (rulesM false 5 (mixedM ns 0)) := rules_r6 (by decide)
  have h8 : (rulesM false 5 (mixedM ns 0)).length ≤ 8 := rules_len (by decide)
  revert hrs h8
  generalize rulesM false 5 (mixedM ns 0) = rs
  intro hrs h8
  refine S.if (T.not (T.val (E.call G_are_sure (hr.mono (by decide)) (EA.cons (E.var 1 rfl) EA.nil) ⟨rs, rfl, hrs, rfl⟩))) (fun hc => S.ret E.bl rfl) (fun hc => ?_)
  have hnone : (doubtM rs).isNone = true := by
    cases z : (doubtM rs).isNone with
    | true => rfl
    | false => rw [z] at hc; cases hc
  have hsure : SureM rs := (doubt_none hrs).mp (Option.isNone_iff_eq_none.mp hnone)
  refine S.nil ?_
  refine S.asg 2 (E.call G_lean (hr.mono (by decide)) (EA.cons (E.var 1 rfl) EA.nil) ⟨rs, rfl, hrs, rfl⟩) ?_
  have L := lean_ok hrs hsure
  revert L
  generalize leanM rs = qs
  intro L
  have q20 : qs.length ≤ 20 := L.r6.ok.few
  refine S.if (k := false) (T.cast (TW.t (TW.or (T.not (T.val (E.isi (ty := "tuple") (b := true) (by exact B) (E.var 2 rfl) (by exact B.tuple) bb_tuple kit_tuple_tuple))) fun _ => (TW.or1 (T.cmp (EL.e (EL.callT (EA.cons (E.var 2 (rfl : _ = some (Sl.d (.tup (qs.map rd))))) EA.nil) CallL.ofT B.list (by decide +kernel))) (EL.e (EL.sortedSetP (ps := qs) B (E.var 2 (rfl : _ = some (Sl.d (.tup (qs.map rd))))) (by omega) L.asc)) (Op2.neD B (fine_lst (fine_map fun r hr => fine_rd (L.r6.ok.all r hr) 62)) (fine_lst (fine_map fun r hr => fine_rd (L.r6.ok.all r hr) 62))))))) ?_) (fun hc => by cases hc) (fun hc => ?_)
  · rw [bne_self (x := .lst _) (nob_rds qs)]
    rfl
  refine S.nil ?_
  refine S.asgC [("_law_left", 7), ("_law_right", 8)] (as := qs) (ι := rd) (p := fun _ => true) (f := fun r => .str r.1) 3 (It.tup (E.var 2 rfl)) (blkOk_by (by rfl)) (by omega) (fun a ha => ⟨[7, 8], _, by decide, by rfl, fun s H C cl fp => ⟨(G.pair (x := .str a.1) (y := .str a.2) (by rfl) (G.name 7) (G.name 8)), by rfl, fun hp => (E.var 7 rfl)⟩⟩) B.calm ?_ (sw_true rfl rfl rfl (by decide +kernel))
  have el : (qs.filter (fun _ => true)).map (fun r : Ru => D.str r.1) = (qs.map (·.1)).map D.str := by
    rw [List.filter_eq_self.mpr (fun _ _ => rfl), List.map_map]; rfl
  rw [el]
  refine S.freeze (i := 3) rfl ?_
  have lnd : (qs.map (·.1)).Nodup := (List.pairwise_map.mpr L.asc).imp fun {a b} h e => by rw [e] at h; exact List.lt_irrefl _ h
  have llen : (qs.map (·.1)).length ≤ 20 := by rw [List.length_map]; exact q20
  refine S.if (k := false) (T.cast (T.cmp (E.lenSet (ws := qs.map (·.1)) B (E.var 3 rfl) (by omega)) (E.callB (EA.cons (E.var 3 rfl) EA.nil) CallD.lenL B.len PySem.boot_len) Op2.neI) ?_) (fun hc => by cases hc) (fun hc => ?_)
  · rw [once_len lnd, List.length_map (f := D.str), decide_eq_true rfl]; rfl
  refine S.nil ?_
  refine S.asgC [("_law_rule_here", 9)] (as := rs) (ι := rd) (p := fun _ => true) (f := fun r => .str r.1) 4 (It.tup (E.var 1 rfl)) (blkOk_by (by rfl)) (by omega) (fun a ha => ⟨[9], _, by decide, by rfl, fun s H C cl fp => ⟨(G.name 9), by rfl, fun hp => (E.ixT (xs := [.str a.1, .str a.2]) (E.var 9 rfl) E.int rfl)⟩⟩) B.calm ?_ (sw_true rfl rfl rfl (by decide +kernel))
  have ef : (rs.filter (fun _ => true)).map (fun r : Ru => D.str r.1) = (rs.map (·.1)).map D.str := by
    rw [List.filter_eq_self.mpr (fun _ _ => rfl), List.map_map]; rfl
  rw [ef]
  refine S.freeze (i := 4) rfl ?_
  refine S.for qs rd (It.tup (E.var 2 (rfl : _ = some (Sl.d (.tup (qs.map rd)))))) (fun pre ds => ∃ s7 s8 s9 s10, ds = [.d (.scr ns), .d (rsd rs), .d (rsd qs), .d (.lst ((qs.map (·.1)).map D.str)), .d (.lst ((rs.map (·.1)).map D.str)), .no, .no, s7, s8, s9, s10]) ⟨_, _, _, _, rfl⟩ (fun pre a post ds' e hP => ?_) (fun ds' hP => ?_) B.calm
  · obtain ⟨s7, s8, s9, s10, rfl⟩ := hP
    have ha : a ∈ qs := by rw [e]; exact List.mem_append_right _ List.mem_cons_self
    obtain ⟨r1, r2⟩ := L.right a ha
    have ap := L.apart a ha
    refine ⟨[7, 8], _, (G.pair (x := .str a.1) (y := .str a.2) (by rfl) (G.name 7) (G.name 8)), ?_⟩
    refine S.if (k := false) (T.cast (T.cmp (E.var 7 rfl) (E.var 4 rfl) Op2.notInLS) ?_) (fun hc => by cases hc) (fun hc => ?_)
    · rw [decide_eq_true (L.left a ha)]; rfl
    refine S.nil ?_
    refine S.if (k := false) (T.cast (T.cmp (EL.e (EL.cast (EL.comp [("_law_other", 10)] (as := qs.map (·.1)) (ι := D.str) (p := inM a.1) (f := D.str) (It.list (E.var 3 rfl)) (blkOk_by (by rfl)) (by omega) (fun b hb => ⟨[10], _, by decide, by rfl, fun s H C cl fp => ⟨(G.name 10), (T.cast (TW.t (TW.and (T.cmp (E.var 10 rfl) (E.var 7 rfl) Op2.neS) fun _ => (TW.and1 (T.cmp (E.var 10 rfl) (E.var 7 rfl) Op2.inS)))) (by rfl)), fun hp => (E.var 10 rfl)⟩⟩) B.calm) (show _ = ([] : List D) from ?_))) (EL.e (EL.disp EA.nil (Nat.le_of_ble_eq_true rfl))) (Op2.neD B (by rfl) (by rfl))) (bne_self (x := .lst []) rfl)) (fun hc => by cases hc) (fun hc => ?_)
    · rw [List.filter_eq_nil_iff.mpr fun o ho => by rw [ap o ho]; decide]
      rfl
    refine S.nil ?_
    refine S.if (k := false) (T.cast (T.cmp (E.cast (E.call G_l_places (hr.mono (by decide)) (EA.cons (E.var 1 rfl) (EA.cons (E.var 8 rfl) EA.nil)) ⟨rs, a.2, rfl, hrs.ok, by omega, rfl⟩) (show _ = D.lst [] by rw [r1]; rfl)) (EL.e (EL.disp EA.nil (Nat.le_of_ble_eq_true rfl))) (Op2.neD B (by rfl) (by rfl))) (bne_self (x := .lst []) rfl)) (fun hc => by cases hc) (fun hc => ?_)
    refine S.nil ?_
    exact S.nil ⟨_, _, _, _, rfl⟩
  · obtain ⟨s7, s8, s9, s10, rfl⟩ := hP
    refine S.asg 5 (E.call G_l_word (hr.mono (by decide)) (EA.cons (E.call G_l_mixed (hr.mono (by decide)) (EA.cons (E.var 0 rfl) (EA.cons E.int EA.nil)) ⟨ns, 1, rfl, rfl⟩) (EA.cons E.lit (EA.cons E.int EA.nil))) ⟨_, [97, 98, 99], _, rfl, by decide, by decide, by decide, by decide, rfl⟩) ?_
    have hlw : Lw (wordM (mixedM ns 1) [97, 98, 99] 6) := (word_wd (by decide)).lw
    have hw6 : ((wordM (mixedM ns 1) [97, 98, 99] 6).length : Int) ≤ 6 := wordM_len (by decide)
    revert hlw hw6
    generalize wordM (mixedM ns 1) [97, 98, 99] 6 = wd
    intro hlw hw6
    have fE : ∀ {ts : List Ru}, Rs ts → fine 64 (.tup ((endsM ts wd).map D.str)) = true := fun ht => fine_tup (fine_map fun v hv => fine_wo (endsM_lw ht hlw hv).1 63)
    refine S.if (k := false) (T.cast (T.cmp (E.call G_l_ends (hr.mono (by decide)) (EA.cons (E.var 2 rfl) (EA.cons (E.var 5 rfl) EA.nil)) ⟨qs, wd, rfl, L.r6.ok, hlw, by omega, rfl⟩) (E.call G_l_ends (hr.mono (by decide)) (EA.cons (E.var 1 rfl) (EA.cons (E.var 5 rfl) EA.nil)) ⟨rs, wd, rfl, hrs.ok, hlw, by omega, rfl⟩) (Op2.neD B (fE L.r6.ok) (fE hrs.ok))) ?_) (fun hc => by cases hc) (fun hc => ?_)
    · rw [L.fin.ends hrs.ok L.r6.ok hsure hlw]
      exact bne_self (x := .tup _) (nob_strs _)
    refine S.nil ?_
    refine S.if (k := false) (T.cast (TW.t (TW.or (T.not (T.val (E.call G_are_sure (hr.mono (by decide)) (EA.cons (E.var 2 rfl) EA.nil) ⟨qs, rfl, L.r6, rfl⟩))) fun _ => (TW.or1 (T.cmp (E.cast (E.call G_lean (hr.mono (by decide)) (EA.cons (E.var 2 rfl) EA.nil) ⟨qs, rfl, L.r6, rfl⟩) (congrArg rsd L.self)) (E.var 2 rfl) (Op2.neD B (fine_q L.r6) (fine_q L.r6)))))) ?_) (fun hc => by cases hc) (fun hc => ?_)
    · rw [show doubtM qs = none from (doubt_none L.r6).mpr (L.fin.sure hrs.ok L.r6.ok hsure), bne_self (x := rsd qs) (nob_rds qs)]
      rfl
    refine S.nil ?_
    refine S.asg 6 (E.call G_l_more (hr.mono (by decide)) (EA.cons (E.var 1 rfl) (EA.cons (E.call G_l_mixed (hr.mono (by decide)) (EA.cons (E.var 0 rfl) (EA.cons E.int EA.nil)) ⟨ns, 2, rfl, rfl⟩) EA.nil)) ⟨rs, _, rfl, hrs.ok, rfl⟩) ?_
    have M := more_more hrs.ok (mixedM ns 2)
    have m3 := more_len rs (mixedM ns 2)
    have G6 := more_r6 hrs h8 m3 fun m hm => ⟨(more_ok hrs.ok hm).1, (more_ok hrs.ok hm).2.1⟩
    revert M m3 G6
    generalize moreM rs (mixedM ns 2) = ms
    intro M m3 G6
    obtain ⟨g, g'⟩ := G6
    obtain ⟨l1, l2⟩ := L.more ms M g g'
    refine S.ret (E.cast (E.and (E.cmp (E.cast (E.call G_lean (hr.mono (by decide)) (EA.cons (E.cast (E.catT (E.var 1 (rfl : _ = some (Sl.d (.tup (rs.map rd))))) (E.var 6 (rfl : _ = some (Sl.d (.tup (ms.map rd))))) ?_) (show _ = rsd (rs ++ ms) by unfold rsd; rw [List.map_append])) EA.nil) ⟨rs ++ ms, rfl, g, rfl⟩) (congrArg rsd l1)) (E.var 2 rfl) (Op2.eqD B (fine_q L.r6) (fine_q L.r6))) fun _ => (E.one (E.cmp (E.cast (E.call G_lean (hr.mono (by decide)) (EA.cons (E.cast (E.catT (E.var 6 (rfl : _ = some (Sl.d (.tup (ms.map rd))))) (E.var 1 (rfl : _ = some (Sl.d (.tup (rs.map rd))))) ?_) (show _ = rsd (ms ++ rs) by unfold rsd; rw [List.map_append])) EA.nil) ⟨ms ++ rs, rfl, g', rfl⟩) (congrArg rsd l2)) (E.var 2 rfl) (Op2.eqD B (fine_q L.r6) (fine_q L.r6))))) ?_) rfl
    · rw [List.length_map, List.length_map]; omega
    · rw [List.length_map, List.length_map]; omega
    · show D.bl (D.eqv (rsd qs) (rsd qs) && D.eqv (rsd qs) (rsd qs)) = D.bl true
      rw [D.eqv_self (show nob (rsd qs) = true from nob_rds _)]
      rfl

end
end Wm
open PySem PySem.W PyProof.Rows
set_option maxRecDepth 100000 in
set_option maxHeartbeats 0 in
theorem PySem.Challenge.cw_wordmelt_k41_whole_lean_holds : PySem.Challenge.rw_wordmelt_k41_whole_lean.Holds := by
  w_on; o_law; k_head; (case hw => w_witness2)
  k_fill
  refine Wm.walk (l := PySem.Challenge.rw_wordmelt_k41_whole_lean) rfl rfl (fun w h Y => PySem.W.kIn_of Y) ?F
  case F =>
    intro w mg fa h KX G hmg
    refine' Wm.with_def "stands" (Wm.top 1) KX G ?a_stands ?l_stands ?c_stands ?k_stands fun s_stands => ?n_stands
    (case a_stands => k_is); (case l_stands => k_is); (case c_stands => k_is); (case k_stands => k_is)
    refine' Wm.with_def "places" (Wm.top 2) KX G ?a_places ?l_places ?c_places ?k_places fun s_places => ?n_places
    (case a_places => k_is); (case l_places => k_is); (case c_places => k_is); (case k_places => k_is)
    refine' Wm.with_def "changed" (Wm.top 3) KX G ?a_changed ?l_changed ?c_changed ?k_changed fun s_changed => ?n_changed
    (case a_changed => k_is); (case l_changed => k_is); (case c_changed => k_is); (case k_changed => k_is)
    refine' Wm.with_def "nexts" (Wm.top 4) KX G ?a_nexts ?l_nexts ?c_nexts ?k_nexts fun s_nexts => ?n_nexts
    (case a_nexts => k_is); (case l_nexts => k_is); (case c_nexts => k_is); (case k_nexts => k_is)
    refine' Wm.with_def "ends" (Wm.top 5) KX G ?a_ends ?l_ends ?c_ends ?k_ends fun s_ends => ?n_ends
    (case a_ends => k_is); (case l_ends => k_is); (case c_ends => k_is); (case k_ends => k_is)
    refine' Wm.with_def "end" (Wm.top 6) KX G ?a_end ?l_end ?c_end ?k_end fun s_end => ?n_end
    (case a_end => k_is); (case l_end => k_is); (case c_end => k_is); (case k_end => k_is)
    refine' Wm.with_def "overlaps" (Wm.top 8) KX G ?a_overlaps ?l_overlaps ?c_overlaps ?k_overlaps fun s_overlaps => ?n_overlaps
    (case a_overlaps => k_is); (case l_overlaps => k_is); (case c_overlaps => k_is); (case k_overlaps => k_is)
    refine' Wm.with_def "clashes" (Wm.top 9) KX G ?a_clashes ?l_clashes ?c_clashes ?k_clashes fun s_clashes => ?n_clashes
    (case a_clashes => k_is); (case l_clashes => k_is); (case c_clashes => k_is); (case k_clashes => k_is)
    refine' Wm.with_def "doubt" (Wm.top 10) KX G ?a_doubt ?l_doubt ?c_doubt ?k_doubt fun s_doubt => ?n_doubt
    (case a_doubt => k_is); (case l_doubt => k_is); (case c_doubt => k_is); (case k_doubt => k_is)
    refine' Wm.with_def "are_sure" (Wm.top 11) KX G ?a_are_sure ?l_are_sure ?c_are_sure ?k_are_sure fun s_are_sure => ?n_are_sure
    (case a_are_sure => k_is); (case l_are_sure => k_is); (case c_are_sure => k_is); (case k_are_sure => k_is)
    refine' Wm.with_def "lean" (Wm.top 13) KX G ?a_lean ?l_lean ?c_lean ?k_lean fun s_lean => ?n_lean
    (case a_lean => k_is); (case l_lean => k_is); (case c_lean => k_is); (case k_lean => k_is)
    refine' Wm.with_def "_law_cell_at" (Wm.top 15) KX G ?a_l_cell_at ?l_l_cell_at ?c_l_cell_at ?k_l_cell_at fun s_l_cell_at => ?n_l_cell_at
    (case a_l_cell_at => k_is); (case l_l_cell_at => k_is); (case c_l_cell_at => k_is); (case k_l_cell_at => k_is)
    refine' Wm.with_def "_law_mixed" (Wm.top 16) KX G ?a_l_mixed ?l_l_mixed ?c_l_mixed ?k_l_mixed fun s_l_mixed => ?n_l_mixed
    (case a_l_mixed => k_is); (case l_l_mixed => k_is); (case c_l_mixed => k_is); (case k_l_mixed => k_is)
    refine' Wm.with_def "_law_drawn" (Wm.top 17) KX G ?a_l_drawn ?l_l_drawn ?c_l_drawn ?k_l_drawn fun s_l_drawn => ?n_l_drawn
    (case a_l_drawn => k_is); (case l_l_drawn => k_is); (case c_l_drawn => k_is); (case k_l_drawn => k_is)
    refine' Wm.with_def "_law_word" (Wm.top 18) KX G ?a_l_word ?l_l_word ?c_l_word ?k_l_word fun s_l_word => ?n_l_word
    (case a_l_word => k_is); (case l_l_word => k_is); (case c_l_word => k_is); (case k_l_word => k_is)
    refine' Wm.with_def "_law_less" (Wm.top 19) KX G ?a_l_less ?l_l_less ?c_l_less ?k_l_less fun s_l_less => ?n_l_less
    (case a_l_less => k_is); (case l_l_less => k_is); (case c_l_less => k_is); (case k_l_less => k_is)
    refine' Wm.with_def "_law_rule" (Wm.top 20) KX G ?a_l_rule ?l_l_rule ?c_l_rule ?k_l_rule fun s_l_rule => ?n_l_rule
    (case a_l_rule => k_is); (case l_l_rule => k_is); (case c_l_rule => k_is); (case k_l_rule => k_is)
    refine' Wm.with_def "_law_tame" (Wm.top 21) KX G ?a_l_tame ?l_l_tame ?c_l_tame ?k_l_tame fun s_l_tame => ?n_l_tame
    (case a_l_tame => k_is); (case l_l_tame => k_is); (case c_l_tame => k_is); (case k_l_tame => k_is)
    refine' Wm.with_def "_law_rules" (Wm.top 22) KX G ?a_l_rules ?l_l_rules ?c_l_rules ?k_l_rules fun s_l_rules => ?n_l_rules
    (case a_l_rules => k_is); (case l_l_rules => k_is); (case c_l_rules => k_is); (case k_l_rules => k_is)
    refine' Wm.with_def "_law_places" (Wm.top 23) KX G ?a_l_places ?l_l_places ?c_l_places ?k_l_places fun s_l_places => ?n_l_places
    (case a_l_places => k_is); (case l_l_places => k_is); (case c_l_places => k_is); (case k_l_places => k_is)
    refine' Wm.with_def "_law_changed" (Wm.top 24) KX G ?a_l_changed ?l_l_changed ?c_l_changed ?k_l_changed fun s_l_changed => ?n_l_changed
    (case a_l_changed => k_is); (case l_l_changed => k_is); (case c_l_changed => k_is); (case k_l_changed => k_is)
    refine' Wm.with_def "_law_nexts" (Wm.top 25) KX G ?a_l_nexts ?l_l_nexts ?c_l_nexts ?k_l_nexts fun s_l_nexts => ?n_l_nexts
    (case a_l_nexts => k_is); (case l_l_nexts => k_is); (case c_l_nexts => k_is); (case k_l_nexts => k_is)
    refine' Wm.with_def "_law_ends" (Wm.top 26) KX G ?a_l_ends ?l_l_ends ?c_l_ends ?k_l_ends fun s_l_ends => ?n_l_ends
    (case a_l_ends => k_is); (case l_l_ends => k_is); (case c_l_ends => k_is); (case k_l_ends => k_is)
    refine' Wm.with_def "_law_more" (Wm.top 27) KX G ?a_l_more ?l_l_more ?c_l_more ?k_l_more fun s_l_more => ?n_l_more
    (case a_l_more => k_is); (case l_l_more => k_is); (case c_l_more => k_is); (case k_l_more => k_is)
    refine' Wm.with_def "law" (Wm.top 28) KX G ?a_law ?l_law ?c_law ?k_law fun s_law => ?n_law
    (case a_law => k_is); (case l_law => k_is); (case c_law => k_is); (case k_law => k_is)
    refine' Wm.with_no "len" KX G ?z_len fun z_len => ?m_len
    (case z_len => k_is)
    refine' Wm.with_no "range" KX G ?z_range fun z_range => ?m_range
    (case z_range => k_is)
    refine' Wm.with_no "tuple" KX G ?z_tuple fun z_tuple => ?m_tuple
    (case z_tuple => k_is)
    refine' Wm.with_no "list" KX G ?z_list fun z_list => ?m_list
    (case z_list => k_is)
    refine' Wm.with_no "set" KX G ?z_set fun z_set => ?m_set
    (case z_set => k_is)
    refine' Wm.with_no "sorted" KX G ?z_sorted fun z_sorted => ?m_sorted
    (case z_sorted => k_is)
    refine' Wm.with_no "enumerate" KX G ?z_enumerate fun z_enumerate => ?m_enumerate
    (case z_enumerate => k_is)
    refine' Wm.with_no "zip" KX G ?z_zip fun z_zip => ?m_zip
    (case z_zip => k_is)
    refine' Wm.with_no "min" KX G ?z_min fun z_min => ?m_min
    (case z_min => k_is)
    refine' Wm.with_no "any" KX G ?z_any fun z_any => ?m_any
    (case z_any => k_is)
    refine' Wm.with_no "all" KX G ?z_all fun z_all => ?m_all
    (case z_all => k_is)
    refine' Wm.with_no "isinstance" KX G ?z_isinstance fun z_isinstance => ?m_isinstance
    (case z_isinstance => k_is)
    refine' Wm.with_no "int" KX G ?z_int fun z_int => ?m_int
    (case z_int => k_is)
    refine' Wm.with_no "bool" KX G ?z_bool fun z_bool => ?m_bool
    (case z_bool => k_is)
    refine' Wm.with_no "str" KX G ?z_str fun z_str => ?m_str
    (case z_str => k_is)
    have Nb : Wm.NoB mg := ⟨z_len, z_range, z_tuple, z_list, z_set, z_sorted, z_enumerate, z_zip, z_min, z_any, z_all, z_isinstance, z_int, z_bool, z_str⟩
    refine Wm.law_fin (k := 7) s_law hmg (fun Fn => Fn.binds fun _ _ _ _ _ _ us hl => match us, hl with | [_], _ => rfl) (fun Fn => ?_) (by decide) fun base => ?_
    · obtain ⟨oc, od, kV, doc, pm, an, cdv, ct, osl, rfl, lk, hcd⟩ := Fn.ex
      exact fun s u => .of_eq rfl
    have G_l_drawn := Wm.def_l_drawn (P := PySem.Challenge.pw_wordmelt_k41_whole_lean) (w := w) (base := base) (Sx := s_l_drawn) (Nb := Nb) 
    have G_l_tame := Wm.def_l_tame (P := PySem.Challenge.pw_wordmelt_k41_whole_lean) (w := w) (base := base) (Sx := s_l_tame) (Nb := Nb) (G_l_drawn := G_l_drawn)
    have G_l_word := Wm.def_l_word (P := PySem.Challenge.pw_wordmelt_k41_whole_lean) (w := w) (base := base) (Sx := s_l_word) (Nb := Nb) (G_l_drawn := G_l_drawn)
    have G_l_less := Wm.def_l_less (P := PySem.Challenge.pw_wordmelt_k41_whole_lean) (w := w) (base := base) (Sx := s_l_less) (Nb := Nb) 
    have G_l_rule := Wm.def_l_rule (P := PySem.Challenge.pw_wordmelt_k41_whole_lean) (w := w) (base := base) (Sx := s_l_rule) (Nb := Nb) (G_l_word := G_l_word) (G_l_drawn := G_l_drawn) (G_l_less := G_l_less)
    have G_l_rules := Wm.def_l_rules (P := PySem.Challenge.pw_wordmelt_k41_whole_lean) (w := w) (base := base) (Sx := s_l_rules) (Nb := Nb) (G_l_tame := G_l_tame) (G_l_rule := G_l_rule) (G_l_drawn := G_l_drawn)
    have G_changed := Wm.def_changed (P := PySem.Challenge.pw_wordmelt_k41_whole_lean) (w := w) (base := base) (Sx := s_changed) (Nb := Nb) 
    have G_stands := Wm.def_stands (P := PySem.Challenge.pw_wordmelt_k41_whole_lean) (w := w) (base := base) (Sx := s_stands) (Nb := Nb) 
    have G_places := Wm.def_places (P := PySem.Challenge.pw_wordmelt_k41_whole_lean) (w := w) (base := base) (Sx := s_places) (Nb := Nb) (G_stands := G_stands)
    have G_end := Wm.def_end (P := PySem.Challenge.pw_wordmelt_k41_whole_lean) (w := w) (base := base) (Sx := s_end) (Nb := Nb) (G_changed := G_changed) (G_places := G_places)
    have G_lean := Wm.def_lean (P := PySem.Challenge.pw_wordmelt_k41_whole_lean) (w := w) (base := base) (Sx := s_lean) (Nb := Nb) (G_end := G_end)
    have G_l_places := Wm.def_l_places (P := PySem.Challenge.pw_wordmelt_k41_whole_lean) (w := w) (base := base) (Sx := s_l_places) (Nb := Nb) 
    have G_l_changed := Wm.def_l_changed (P := PySem.Challenge.pw_wordmelt_k41_whole_lean) (w := w) (base := base) (Sx := s_l_changed) (Nb := Nb) 
    have G_l_nexts := Wm.def_l_nexts (P := PySem.Challenge.pw_wordmelt_k41_whole_lean) (w := w) (base := base) (Sx := s_l_nexts) (Nb := Nb) (G_l_places := G_l_places) (G_l_changed := G_l_changed)
    have G_l_ends := Wm.def_l_ends (P := PySem.Challenge.pw_wordmelt_k41_whole_lean) (w := w) (base := base) (Sx := s_l_ends) (Nb := Nb) (G_l_nexts := G_l_nexts)
    have G_l_more := Wm.def_l_more (P := PySem.Challenge.pw_wordmelt_k41_whole_lean) (w := w) (base := base) (Sx := s_l_more) (Nb := Nb) (G_l_word := G_l_word) (G_l_nexts := G_l_nexts) (G_l_drawn := G_l_drawn) (G_l_ends := G_l_ends)
    have G_l_cell_at := Wm.def_l_cell_at (P := PySem.Challenge.pw_wordmelt_k41_whole_lean) (w := w) (base := base) (Sx := s_l_cell_at) (Nb := Nb) 
    have G_l_mixed := Wm.def_l_mixed (P := PySem.Challenge.pw_wordmelt_k41_whole_lean) (w := w) (base := base) (Sx := s_l_mixed) (Nb := Nb) (G_l_cell_at := G_l_cell_at)
    have G_overlaps := Wm.def_overlaps (P := PySem.Challenge.pw_wordmelt_k41_whole_lean) (w := w) (base := base) (Sx := s_overlaps) (Nb := Nb) 
    have G_clashes := Wm.def_clashes (P := PySem.Challenge.pw_wordmelt_k41_whole_lean) (w := w) (base := base) (Sx := s_clashes) (Nb := Nb) (G_overlaps := G_overlaps)
    have G_nexts := Wm.def_nexts (P := PySem.Challenge.pw_wordmelt_k41_whole_lean) (w := w) (base := base) (Sx := s_nexts) (Nb := Nb) (G_changed := G_changed) (G_places := G_places)
    have G_ends := Wm.def_ends (P := PySem.Challenge.pw_wordmelt_k41_whole_lean) (w := w) (base := base) (Sx := s_ends) (Nb := Nb) (G_nexts := G_nexts)
    have G_doubt := Wm.def_doubt (P := PySem.Challenge.pw_wordmelt_k41_whole_lean) (w := w) (base := base) (Sx := s_doubt) (Nb := Nb) (G_clashes := G_clashes) (G_ends := G_ends)
    have G_are_sure := Wm.def_are_sure (P := PySem.Challenge.pw_wordmelt_k41_whole_lean) (w := w) (base := base) (Sx := s_are_sure) (Nb := Nb) (G_doubt := G_doubt)
    exact Wm.def_law (P := PySem.Challenge.pw_wordmelt_k41_whole_lean) (w := w) (base := base) (Sx := s_law) (Nb := Nb) (G_l_rules := G_l_rules) (G_lean := G_lean) (G_l_word := G_l_word) (G_l_more := G_l_more) (G_l_mixed := G_l_mixed) (G_are_sure := G_are_sure) (G_l_ends := G_l_ends) (G_l_places := G_l_places)
