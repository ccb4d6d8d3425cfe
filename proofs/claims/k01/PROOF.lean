import PyProof.Rows.All
import Wide.All
import OpenK.AllK
import Wide.FinOn
import HandS.ForMost
import HandS.ForExc
import HandS.Walk
import HandS.TupAny
import HandS.TupMul
import HandS.Wide
import HandS.IsInst
import HandS.Zip
import HandS.Flow
import HandS.TryMany
import KE.DataEq
import PyProof.ListMulRoad
import PyProof.FactsAll.tuple_2
import PyProof.EnumMake
import HandS.Style
import HandS.SortKw
import HandS.Dict
import PySem.Challenge.RW_dogruns_k01_drills_runs_and_beginnings
set_option Elab.async false
set_option linter.all false
set_option maxRecDepth 100000
set_option maxHeartbeats 4000000
set_option autoImplicit false
/-! The data level: the body of a def read over data (trees), without a heap to be seen. -/
namespace DL
open PySem PySem.Spec PyProof.Rows L2

/-- data; raw: a value that is not looked into; scr: the script's ints -/
inductive D where
  | non | bl (b : Bool) | int (i : Int) | str (x : Str) | raw (x : V)
  | tup (xs : List D) | lst (xs : List D) | scr (ns : List Int)

mutual
inductive Dp (K : PySem.W.Frag) (G : Hp) : V → D → Prop
  | non : Dp K G .non .non
  | bl (b : Bool) : Dp K G (.bl b) (.bl b)
  | int (i : Int) : Dp K G (.int i) (.int i)
  | str (x : Str) : Dp K G (.str x) (.str x)
  | raw (x : V) : Dp K G x (.raw x)
  | tup {p : Addr} {vs : List V} {ds : List D} : SqT K G p vs → vs.length ≤ sizeLine → Dps K G vs ds → Dp K G (.ref p) (.tup ds)
  | lst {p : Addr} {vs : List V} {ds : List D} : G p = some (.lst vs) → vs.length ≤ sizeLine → Dps K G vs ds → Dp K G (.ref p) (.lst ds)
  | scr {p : Addr} {ns : List Int} : SqL K G p (ns.map V.int) → Dp K G (.ref p) (.scr ns)
inductive Dps (K : PySem.W.Frag) (G : Hp) : List V → List D → Prop
  | nil : Dps K G [] []
  | cons {v : V} {vs : List V} {d : D} {ds : List D} : Dp K G v d → Dps K G vs ds → Dps K G (v :: vs) (d :: ds)
end

theorem same_t {K : PySem.W.Frag} {G G' : Hp} {p : Addr} {vs : List V} (e : Same G G') (h : SqT K G p vs) : SqT K G' p vs := by
  rcases h with (h | ⟨o, h⟩) | h
  · exact .inl (.inl (e _ _ h))
  · exact .inl (.inr ⟨o, e _ _ h⟩)
  · exact .inr h
section
variable {K : PySem.W.Frag} {G G' H H' : Hp}
mutual
theorem Dp.mono (e : Same G G') : ∀ (d : D) (v : V), Dp K G v d → Dp K G' v d
  | .non, _, h => by cases h; exact .non
  | .bl _, _, h => by cases h; exact .bl _
  | .int _, _, h => by cases h; exact .int _
  | .str _, _, h => by cases h; exact .str _
  | .raw _, _, h => by cases h; exact .raw _
  | .tup ds, _, h => by
    cases h with
    | tup a l r => exact .tup (same_t e a) l (Dps.mono e ds _ r)
  | .lst ds, _, h => by
    cases h with
    | lst a l r => exact .lst (e _ _ a) l (Dps.mono e ds _ r)
  | .scr _, _, h => by
    cases h with
    | scr a => exact .scr (e.seq a)
theorem Dps.mono (e : Same G G') : ∀ (ds : List D) (vs : List V), Dps K G vs ds → Dps K G' vs ds
  | [], _, h => by cases h; exact .nil
  | d :: ds, _, h => by
    cases h with
    | cons a r => exact .cons (Dp.mono e d _ a) (Dps.mono e ds _ r)
end
theorem Dp.up {d : D} {v : V} (h : Dp K G v d) (e : Same G G') : Dp K G' v d := Dp.mono e d v h
theorem Dps.up {ds : List D} {vs : List V} (h : Dps K G vs ds) (e : Same G G') : Dps K G' vs ds := Dps.mono e ds vs h
theorem Dps.len : ∀ {vs : List V} {ds : List D}, Dps K G vs ds → vs.length = ds.length
  | _, _, .nil => rfl
  | _, _, .cons _ r => congrArg (· + 1) (Dps.len r)
theorem Dps.get : ∀ {vs : List V} {ds : List D} {i : Nat} {d : D}, Dps K G vs ds → ds[i]? = some d → ∃ v, vs[i]? = some v ∧ Dp K G v d
  | _, _, _, _, .nil, h => by simp at h
  | _, _, 0, _, .cons a _, h => by
    have e := Option.some.inj h
    subst e
    exact ⟨_, rfl, a⟩
  | _, _, i + 1, _, .cons _ r, h => Dps.get (i := i) r h
theorem Dps.getV : ∀ {vs : List V} {ds : List D} {i : Nat} {v : V}, Dps K G vs ds → vs[i]? = some v → ∃ d, ds[i]? = some d ∧ Dp K G v d
  | _, _, _, _, .nil, h => by simp at h
  | _, _, 0, _, .cons a _, h => by
    have e := Option.some.inj h
    subst e
    exact ⟨_, rfl, a⟩
  | _, _, i + 1, _, .cons _ r, h => Dps.getV (i := i) r h
theorem Dps.app : ∀ {vs ws : List V} {ds es : List D}, Dps K G vs ds → Dps K G ws es → Dps K G (vs ++ ws) (ds ++ es)
  | _, _, _, _, .nil, s => s
  | _, _, _, _, .cons a r, s => .cons a (Dps.app r s)
theorem Dps.take : ∀ {vs : List V} {ds : List D} (n : Nat), Dps K G vs ds → Dps K G (vs.take n) (ds.take n)
  | _, _, 0, _ => .nil
  | _, _, _ + 1, .nil => .nil
  | _, _, n + 1, .cons a r => .cons a (Dps.take n r)
theorem Dps.drop : ∀ {vs : List V} {ds : List D} (n : Nat), Dps K G vs ds → Dps K G (vs.drop n) (ds.drop n)
  | _, _, 0, r => r
  | _, _, _ + 1, .nil => .nil
  | _, _, n + 1, .cons _ r => Dps.drop n r
theorem Dps.set {v : V} {d : D} (a : Dp K G v d) : ∀ {vs : List V} {ds : List D} (i : Nat), Dps K G vs ds → Dps K G (vs.set i v) (ds.set i d)
  | _, _, _, .nil => .nil
  | _, _, 0, .cons _ r => .cons a r
  | _, _, i + 1, .cons b r => .cons b (Dps.set a i r)
theorem Dps.rep {vs : List V} {ds : List D} (h : Dps K G vs ds) : ∀ k : Nat, Dps K G (List.replicate k vs).flatten (List.replicate k ds).flatten
  | 0 => .nil
  | k + 1 => by
    rw [List.replicate_succ, List.replicate_succ, List.flatten_cons, List.flatten_cons]
    exact h.app (h.rep k)
theorem Dps.ints : ∀ (ns : List Int), Dps K G (ns.map V.int) (ns.map D.int)
  | [] => .nil
  | n :: ns => .cons (.int n) (Dps.ints ns)
end

/-! ### the table of mutable objects, the environment -/
inductive Ob where
  | dead | lst (xs : List D)
inductive Sl where
  | dat (d : D) | ob (k : Nat)
structure Env where
  T : List Ob
  s : List (Option Sl)

def ObR (K : PySem.W.Frag) (G H : Hp) (a : Addr) : Ob → Prop
  | .dead => True
  | .lst ds => G a = none ∧ ∃ vs, H a = some (.lst vs) ∧ vs.length ≤ sizeLine ∧ Dps K G vs ds
def SlR (K : PySem.W.Frag) (G : Hp) (la : List Addr) (v : V) : Sl → Prop
  | .dat d => Dp K G v d
  | .ob k => ∃ a, la[k]? = some a ∧ v = .ref a
structure Rl (K : PySem.W.Frag) (G H : Hp) (la : List Addr) (T : List Ob) : Prop where
  ext : Same G H
  nd : la.Nodup
  len : la.length = T.length
  tab : ∀ (k : Nat) (a : Addr) (o : Ob), la[k]? = some a → T[k]? = some o → ObR K G H a o
  there : ∀ (k : Nat) (a : Addr), la[k]? = some a → H a ≠ none
structure Re (K : PySem.W.Frag) (G H : Hp) (la : List Addr) (σ : L2.St) (ρ : Env) : Prop where
  tb : Rl K G H la ρ.T
  sl : ρ.s.length = σ.length
  at_ : ∀ (i : Nat) (x : Sl), ρ.s[i]? = some (some x) → ∃ v, σ[i]? = some (some v) ∧ SlR K G la v x

/-- the heap, and the known part of it, grow -/
structure Grow (G H G' H' : Hp) : Prop where
  g : Same G G'
  h : Same H H'
  i : Same G' H'
  n : ∀ a, G a = none → H a ≠ none → G' a = none
section
variable {K : PySem.W.Frag} {G H G' H' : Hp} {la la' : List Addr} {σ : L2.St} {ρ : Env} {T : List Ob}
theorem Grow.refl (e : Same G H) : Grow G H G H := ⟨Same.refl _, Same.refl _, e, fun _ h _ => h⟩
theorem same_new {H : Hp} {p : Addr} {o : HO} (h : H p = none) : Same H (upd H p o) := fun b x e => by
  rw [upd_ne (ne_of_none e h)]
  exact e
theorem same_upd2 {p : Addr} {o : HO} (e : Same G H) : Same (upd G p o) (upd H p o) := fun b x q => by
  by_cases hb : b = p
  · subst hb
    rw [upd_same] at q ⊢
    exact q
  · rw [upd_ne hb] at q ⊢
    exact e b x q
theorem none_of (e : Same G H) {p : Addr} (h : H p = none) : G p = none := e.free h
/-- a new object, known -/
theorem Grow.new {p : Addr} {o : HO} (e : Same G H) (h : H p = none) : Grow G H (upd G p o) (upd H p o) :=
  ⟨same_new (none_of e h), same_new h, same_upd2 e, fun a ga ha => by
    rw [upd_ne (fun z => ha (by rw [z]; exact h))]
    exact ga⟩
theorem Grow.trans {G2 H2 : Hp} (x : Grow G H G' H') (y : Grow G' H' G2 H2) : Grow G H G2 H2 :=
  ⟨x.g.trans y.g, x.h.trans y.h, y.i, fun a ga ha => y.n a (x.n a ga ha) (fun z => by
    cases q : H a with
    | none => exact ha q
    | some o =>
      rw [x.h a o q] at z
      cases z)⟩
theorem ObR.grow (w : Grow G H G' H') {a : Addr} : ∀ {o : Ob}, ObR K G H a o → ObR K G' H' a o
  | .dead, _ => True.intro
  | .lst ds, ⟨g, vs, h, l, r⟩ => ⟨w.n a g (by rw [h]; simp), vs, w.h _ _ h, l, r.up w.g⟩
theorem SlR.grow (w : Same G G') (pf : la <+: la') {v : V} : ∀ {x : Sl}, SlR K G la v x → SlR K G' la' v x
  | .dat d, h => Dp.up (show Dp K G v d from h) w
  | .ob k, ⟨a, h, e⟩ => ⟨a, by
      obtain ⟨t, rfl⟩ := pf
      rw [List.getElem?_append_left (List.getElem?_eq_some_iff.mp h).1]
      exact h, e⟩
theorem there_grow (w : Same H H') {a : Addr} (h : H a ≠ none) : H' a ≠ none := fun z => by
  cases q : H a with
  | none => exact h q
  | some o =>
    rw [w a o q] at z
    cases z
theorem Rl.grow (w : Grow G H G' H') (r : Rl K G H la T) : Rl K G' H' la T :=
  ⟨w.i, r.nd, r.len, fun k a o h1 h2 => (r.tab k a o h1 h2).grow w, fun k a h => there_grow w.h (r.there k a h)⟩
theorem Re.grow (w : Grow G H G' H') (r : Re K G H la σ ρ) : Re K G' H' la σ ρ :=
  ⟨r.tb.grow w, r.sl, fun i x h => by
    obtain ⟨v, a, b⟩ := r.at_ i x h
    exact ⟨v, a, b.grow w.g (List.prefix_rfl)⟩⟩
theorem Re.ext (r : Re K G H la σ ρ) : Same G H := r.tb.ext
/-- a slot is set -/
theorem Re.set (r : Re K G H la σ ρ) {i : Nat} {v : V} {x : Sl} (h : SlR K G la v x) : Re K G H la (σ.set i (some v)) ⟨ρ.T, ρ.s.set i (some x)⟩ :=
  ⟨r.tb, by simp [r.sl], fun j y hy => by
    by_cases hj : j = i
    · subst hj
      by_cases hl : j < ρ.s.length
      · have hl2 : j < σ.length := by rw [← r.sl]; exact hl
        rw [show (⟨ρ.T, ρ.s.set j (some x)⟩ : Env).s = ρ.s.set j (some x) from rfl, List.getElem?_set_self hl] at hy
        have e := Option.some.inj (Option.some.inj hy)
        subst e
        exact ⟨v, List.getElem?_set_self hl2, h⟩
      · have hy' : (ρ.s.set j (some x))[j]? = some (some y) := hy
        rw [List.getElem?_eq_none (by simpa using hl)] at hy'
        cases hy'
    · have hy' : (ρ.s.set i (some x))[j]? = some (some y) := hy
      rw [List.getElem?_set_ne (Ne.symm hj)] at hy'
      obtain ⟨u, a, b⟩ := r.at_ j y hy'
      exact ⟨u, by rw [List.getElem?_set_ne (Ne.symm hj)]; exact a, b⟩⟩
/-- a slot is forgotten, at both -/
theorem Re.forget (r : Re K G H la σ ρ) (i : Nat) : Re K G H la (σ.set i none) ⟨ρ.T, ρ.s.set i none⟩ :=
  ⟨r.tb, by simp [r.sl], fun j y hy => by
    have hy' : (ρ.s.set i none)[j]? = some (some y) := hy
    by_cases hj : j = i
    · subst hj
      by_cases hl : j < ρ.s.length
      · rw [List.getElem?_set_self hl] at hy'
        cases hy'
      · rw [List.getElem?_eq_none (by simpa using hl)] at hy'
        cases hy'
    · rw [List.getElem?_set_ne (Ne.symm hj)] at hy'
      obtain ⟨u, a, b⟩ := r.at_ j y hy'
      exact ⟨u, by rw [List.getElem?_set_ne (Ne.symm hj)]; exact a, b⟩⟩
/-- the list at k becomes known for ever -/
theorem Rl.freeze (r : Rl K G H la T) {k : Nat} {a : Addr} {xs : List D} (ha : la[k]? = some a) (hk : T[k]? = some (.lst xs)) :
    ∃ vs, H a = some (.lst vs) ∧ G a = none ∧ Same G (upd G a (.lst vs)) ∧ Dp K (upd G a (.lst vs)) (.ref a) (.lst xs) ∧ Rl K (upd G a (.lst vs)) H la (T.set k .dead) := by
  obtain ⟨g, vs, h, l, d⟩ := r.tab k a _ ha hk
  have s1 : Same G (upd G a (.lst vs)) := same_new g
  refine ⟨vs, h, g, s1, .lst upd_same l (d.up s1), ⟨fun b o e => ?_, r.nd, by simp [r.len], fun j b o hb ho => ?_, r.there⟩⟩
  · by_cases hb : b = a
    · subst hb
      rw [upd_same] at e
      rw [← e]
      exact h
    · rw [upd_ne hb] at e
      exact r.ext b o e
  · by_cases hj : j = k
    · subst hj
      have hl : j < T.length := (List.getElem?_eq_some_iff.mp hk).1
      rw [List.getElem?_set_self hl] at ho
      have e := Option.some.inj ho
      subst e
      exact True.intro
    · rw [List.getElem?_set_ne (Ne.symm hj)] at ho
      have nb : b ≠ a := fun e => by
        subst e
        obtain ⟨h1, e1⟩ := List.getElem?_eq_some_iff.mp hb
        obtain ⟨h2, e2⟩ := List.getElem?_eq_some_iff.mp ha
        exact hj ((List.getElem_inj r.nd).mp (e1.trans e2.symm))
      have z := r.tab j b o hb ho
      cases o with
      | dead => exact True.intro
      | lst ds =>
        obtain ⟨g2, vs2, h2, l2, d2⟩ := z
        exact ⟨by rw [upd_ne nb]; exact g2, vs2, h2, l2, d2.up s1⟩
/-- the list at k is written -/
theorem Rl.write (r : Rl K G H la T) {k : Nat} {a : Addr} {xs ys : List D} {ws : List V} (ha : la[k]? = some a) (hk : T[k]? = some (.lst xs)) (l : ws.length ≤ sizeLine) (d : Dps K G ws ys) :
    Rl K G (upd H a (.lst ws)) la (T.set k (.lst ys)) := by
  obtain ⟨g, vs, h, _, _⟩ := r.tab k a _ ha hk
  refine ⟨fun b o e => ?_, r.nd, by simp [r.len], fun j b o hb ho => ?_, fun j b hb => ?_⟩
  · have nb : b ≠ a := fun z => by
      rw [z, g] at e
      cases e
    rw [upd_ne nb]
    exact r.ext b o e
  · by_cases hj : j = k
    · subst hj
      have hl : j < T.length := (List.getElem?_eq_some_iff.mp hk).1
      rw [List.getElem?_set_self hl] at ho
      have e := Option.some.inj ho
      subst e
      have e2 := Option.some.inj (hb.symm.trans ha)
      subst e2
      exact ⟨g, ws, upd_same, l, d⟩
    · rw [List.getElem?_set_ne (Ne.symm hj)] at ho
      have nb : b ≠ a := fun e => by
        subst e
        obtain ⟨h1, e1⟩ := List.getElem?_eq_some_iff.mp hb
        obtain ⟨h2, e2⟩ := List.getElem?_eq_some_iff.mp ha
        exact hj ((List.getElem_inj r.nd).mp (e1.trans e2.symm))
      have z := r.tab j b o hb ho
      cases o with
      | dead => exact True.intro
      | lst ds =>
        obtain ⟨g2, vs2, h2, l2, d2⟩ := z
        exact ⟨g2, vs2, by rw [upd_ne nb]; exact h2, l2, d2⟩
  · by_cases hb2 : b = a
    · subst hb2
      rw [upd_same]
      simp
    · rw [upd_ne hb2]
      exact r.there j b hb
/-- a new list, ours alone -/
theorem Rl.fresh (r : Rl K G H la T) {p : Addr} {vs : List V} {xs : List D} (hp : H p = none) (l : vs.length ≤ sizeLine) (d : Dps K G vs xs) :
    Rl K G (upd H p (.lst vs)) (la ++ [p]) (T ++ [.lst xs]) := by
  have hn : p ∉ la := fun hm => by
    obtain ⟨i, hi, e⟩ := List.getElem_of_mem hm
    exact r.there i p (by rw [List.getElem?_eq_getElem hi, e]) hp
  have s1 : Same H (upd H p (.lst vs)) := same_new hp
  refine ⟨r.ext.trans s1, ?_, by simp [r.len], fun j b o hb ho => ?_, fun j b hb => ?_⟩
  · rw [List.nodup_append]
    exact ⟨r.nd, by simp, fun x hx y hy => by
      have e : y = p := by simpa using hy
      rw [e]
      intro z
      exact hn (z ▸ hx)⟩
  · by_cases hj : j < la.length
    · rw [List.getElem?_append_left hj] at hb
      rw [List.getElem?_append_left (by rw [← r.len]; exact hj)] at ho
      exact (r.tab j b o hb ho).grow ⟨Same.refl _, s1, r.ext.trans s1, fun _ h _ => h⟩
    · rw [List.getElem?_append_right (by omega)] at hb
      rw [List.getElem?_append_right (by rw [← r.len]; omega), ← r.len] at ho
      cases q : j - la.length with
      | zero =>
        rw [q] at hb ho
        have e1 : p = b := Option.some.inj hb
        have e2 : Ob.lst xs = o := Option.some.inj ho
        subst e1 e2
        exact ⟨none_of r.ext hp, vs, upd_same, l, d⟩
      | succ m =>
        rw [q] at hb
        simp at hb
  · by_cases hj : j < la.length
    · rw [List.getElem?_append_left hj] at hb
      exact there_grow s1 (r.there j b hb)
    · rw [List.getElem?_append_right (by omega)] at hb
      cases q : j - la.length with
      | zero =>
        rw [q] at hb
        have e1 : p = b := Option.some.inj hb
        subst e1
        rw [upd_same]
        simp
      | succ m =>
        rw [q] at hb
        simp at hb
end
end DL
set_option Elab.async false
set_option linter.all false
set_option maxRecDepth 100000
set_option maxHeartbeats 4000000
set_option autoImplicit false
/-! The data level: readings (expressions, tests, arguments, statements) and what they mean of the heap. -/
namespace DL
open PySem PySem.Spec PyProof.Rows L2

/-- an exception: its class, its own field -/
structure Xn where
  C : Value
  f : Option (Str × D)
def XR (K : PySem.W.Frag) (G H : Hp) (x : Xn) (cls : Value) (od : Option Addr) : Prop := cls = x.C ∧ match x.f with
  | none => True
  | some (f, d) => ∃ a v, od = some a ∧ H a = some (.xd [(f, v)]) ∧ Dp K G v d
abbrev XP := Xn → Env → Prop
abbrev DE := XP → Env → (D → Env → Prop) → Prop
abbrev DL' := XP → Env → (Sl → Env → Prop) → Prop
abbrev DT := XP → Env → (Bool → Env → Prop) → Prop
abbrev DA := XP → Env → (List Sl → Env → Prop) → Prop
abbrev DI := XP → Env → (List D → Env → Prop) → Prop
abbrev DG := D → Env → (Env → Prop) → Prop
structure DN where
  nx : Env → Prop
  rt : Sl → Env → Prop
  bk : Env → Prop := fun _ => False
  ct : Env → Prop := fun _ => False
  xn : XP
abbrev DS := DN → Env → Prop

/-- a state behind another one -/
structure Aft (K : PySem.W.Frag) (G : Hp) (la : List Addr) (σ : L2.St) (ρ : Env) (G' : Hp) (la' : List Addr) (H' : Hp) : Prop where
  g : Same G G'
  p : la <+: la'
  r : Re K G' H' la' σ ρ
def XO (K : PySem.W.Frag) (G : Hp) (la : List Addr) (W : WX) (X : XP) : Prop := ∀ (x : Xn) (ρ' : Env) (σ' : L2.St) (G' : Hp) (la' : List Addr) (H' : Hp) (cls : Value) (od : Option Addr),
  X x ρ' → Aft K G la σ' ρ' G' la' H' → XR K G' H' x cls od → W cls od σ' H'
inductive SlsR (K : PySem.W.Frag) (G : Hp) (la : List Addr) : List V → List Sl → Prop
  | nil : SlsR K G la [] []
  | cons {v : V} {vs : List V} {x : Sl} {xs : List Sl} : SlR K G la v x → SlsR K G la vs xs → SlsR K G la (v :: vs) (x :: xs)

def lE (K : PySem.W.Frag) (W : WX) (f : DE) : TE := fun σ H Q => ∃ ρ G la P X, Re K G H la σ ρ ∧ f X ρ P ∧ (∀ d ρ' v G' la' H', P d ρ' → Aft K G la σ ρ' G' la' H' → Dp K G' v d → Q v H') ∧ XO K G la W X
def lL (K : PySem.W.Frag) (W : WX) (f : DL') : TE := fun σ H Q => ∃ ρ G la P X, Re K G H la σ ρ ∧ f X ρ P ∧ (∀ d ρ' v G' la' H', P d ρ' → Aft K G la σ ρ' G' la' H' → SlR K G' la' v d → Q v H') ∧ XO K G la W X
def lT (K : PySem.W.Frag) (W : WX) (f : DT) : TT := fun σ H Q => ∃ ρ G la P X, Re K G H la σ ρ ∧ f X ρ P ∧ (∀ b ρ' G' la' H', P b ρ' → Aft K G la σ ρ' G' la' H' → Q b H') ∧ XO K G la W X
def lA (K : PySem.W.Frag) (W : WX) (f : DA) : TA := fun σ H Q => ∃ ρ G la P X, Re K G H la σ ρ ∧ f X ρ P ∧ (∀ xs ρ' vs G' la' H', P xs ρ' → Aft K G la σ ρ' G' la' H' → SlsR K G' la' vs xs → Q vs H') ∧ XO K G la W X
structure Bk (K : PySem.W.Frag) (G : Hp) (la : List Addr) (W : WX) (E : DN) (D : Ends) : Prop where
  nx : ∀ (ρ' : Env) (σ' : L2.St) (G' : Hp) (la' : List Addr) (H' : Hp), E.nx ρ' → Aft K G la σ' ρ' G' la' H' → D.nx σ' H'
  bk : ∀ (ρ' : Env) (σ' : L2.St) (G' : Hp) (la' : List Addr) (H' : Hp), E.bk ρ' → Aft K G la σ' ρ' G' la' H' → D.bk σ' H'
  ct : ∀ (ρ' : Env) (σ' : L2.St) (G' : Hp) (la' : List Addr) (H' : Hp), E.ct ρ' → Aft K G la σ' ρ' G' la' H' → D.ct σ' H'
  rt : ∀ (x : Sl) (ρ' : Env) (v : V) (σ' : L2.St) (G' : Hp) (la' : List Addr) (H' : Hp), E.rt x ρ' → Aft K G la σ' ρ' G' la' H' → SlR K G' la' v x → D.rt v H'
  xn : XO K G la W E.xn
def lS (K : PySem.W.Frag) (W : WX) (f : DS) : TS := fun D σ H => ∃ ρ G la E, Re K G H la σ ρ ∧ f E ρ ∧ Bk K G la W E D

section
variable {K : PySem.W.Frag} {G G' G2 H H' H2 : Hp} {la la' la2 : List Addr} {σ : L2.St} {ρ ρ' ρ2 : Env} {W : WX} {X : XP} {E : DN} {D : Ends}
theorem Aft.refl (r : Re K G H la σ ρ) : Aft K G la σ ρ G la H := ⟨Same.refl _, List.prefix_rfl, r⟩
theorem Aft.trans {σ' : L2.St} (a : Aft K G la σ ρ G' la' H') (b : Aft K G' la' σ' ρ2 G2 la2 H2) : Aft K G la σ' ρ2 G2 la2 H2 := ⟨a.g.trans b.g, a.p.trans b.p, b.r⟩
theorem Aft.grow (a : Aft K G la σ ρ G' la' H') (w : Grow G' H' G2 H2) : Aft K G la σ ρ G2 la' H2 := ⟨a.g.trans w.g, a.p, a.r.grow w⟩
theorem XO.up (x : XO K G la W X) (g : Same G G') (p : la <+: la') : XO K G' la' W X := fun y ρ' σ' G2 la2 H2 cls od h a z => x y ρ' σ' G2 la2 H2 cls od h ⟨g.trans a.g, p.trans a.p, a.r⟩ z
theorem Bk.up (b : Bk K G la W E D) (g : Same G G') (p : la <+: la') : Bk K G' la' W E D :=
  ⟨fun ρ' σ' G2 la2 H2 h a => b.nx ρ' σ' G2 la2 H2 h ⟨g.trans a.g, p.trans a.p, a.r⟩, fun ρ' σ' G2 la2 H2 h a => b.bk ρ' σ' G2 la2 H2 h ⟨g.trans a.g, p.trans a.p, a.r⟩,
   fun ρ' σ' G2 la2 H2 h a => b.ct ρ' σ' G2 la2 H2 h ⟨g.trans a.g, p.trans a.p, a.r⟩, fun x ρ' v σ' G2 la2 H2 h a r => b.rt x ρ' v σ' G2 la2 H2 h ⟨g.trans a.g, p.trans a.p, a.r⟩ r, b.xn.up g p⟩
theorem SlsR.up (g : Same G G') (p : la <+: la') : ∀ {vs : List V} {xs : List Sl}, SlsR K G la vs xs → SlsR K G' la' vs xs
  | _, _, .nil => .nil
  | _, _, .cons a r => .cons (a.grow g p) (SlsR.up g p r)
theorem SlsR.len : ∀ {vs : List V} {xs : List Sl}, SlsR K G la vs xs → vs.length = xs.length
  | _, _, .nil => rfl
  | _, _, .cons _ r => congrArg (· + 1) (SlsR.len r)
theorem SlsR.get : ∀ {vs : List V} {xs : List Sl} {i : Nat} {x : Sl}, SlsR K G la vs xs → xs[i]? = some x → ∃ v, vs[i]? = some v ∧ SlR K G la v x
  | _, _, _, _, .nil, h => by simp at h
  | _, _, 0, _, .cons a _, h => by
    have e := Option.some.inj h
    subst e
    exact ⟨_, rfl, a⟩
  | _, _, i + 1, _, .cons _ r, h => SlsR.get (i := i) r h
end

/-! ### weakening -/
theorem pe_imp {X : Cx} {e : Expr} {t t' : TE} (h : PE X e t) (w : ∀ σ H Q, t' σ H Q → t σ H Q) : PE X e t' := ⟨fun pins s σ H Q I q => h.run pins s σ H Q I (w σ H Q q)⟩
theorem pt_imp {X : Cx} {e : Expr} {t t' : TT} (h : PT X e t) (w : ∀ σ H Q, t' σ H Q → t σ H Q) : PT X e t' := ⟨fun pins s σ H Q I q => h.run pins s σ H Q I (w σ H Q q)⟩
theorem pw_imp {X : Cx} {e : Expr} {t t' : TT} (h : PW X e t) (w : ∀ σ H Q, t' σ H Q → t σ H Q) : PW X e t' := ⟨fun wh pins s σ H Q I q => h.run wh pins s σ H Q I (w σ H Q q)⟩
theorem pa_imp {X : Cx} {es : List Expr} {t t' : TA} (h : PA X es t) (w : ∀ σ H Q, t' σ H Q → t σ H Q) : PA X es t' := ⟨fun pos pins s σ H Q I q => h.run pos pins s σ H Q I (w σ H Q q)⟩
theorem ps_imp {X : Cx} {st : Stmt} {t t' : TS} (h : PS X st t) (w : ∀ D σ H, t' D σ H → t D σ H) : PS X st t' := ⟨fun pins s σ H D I q => h.run pins s σ H D I (w D σ H q)⟩
theorem pss_imp {X : Cx} {st : List Stmt} {t t' : TS} (h : PSs X st t) (w : ∀ D σ H, t' D σ H → t D σ H) : PSs X st t' := ⟨fun pins s σ H D I q => h.run pins s σ H D I (w D σ H q)⟩

/-! ### the readings at data level -/
def dVar (i : Nat) : DE := fun _ ρ Q => match ρ.s[i]? with
  | some (some (.dat d)) => Q d ρ
  | some (some (.ob k)) => match ρ.T[k]? with
    | some (.lst xs) => Q (.lst xs) ⟨ρ.T.set k .dead, ρ.s.set i (some (.dat (.lst xs)))⟩
    | _ => False
  | _ => False
def dC (d : D) : DE := fun _ ρ Q => Q d ρ
def dVarL (i : Nat) : DL' := fun _ ρ Q => match ρ.s[i]? with
  | some (some x) => Q x ρ
  | _ => False
def dDat (f : DE) : DL' := fun X ρ Q => f X ρ fun d ρ' => Q (.dat d) ρ'
/-- an object that nobody else has becomes data -/

class Kept (α : Type) where
  q : α
def valK [h : Kept (D → Env → Prop)] : Sl → Env → Prop := fun x ρ' => match x with
  | .dat d => h.q d ρ'
  | .ob k => match ρ'.T[k]? with
    | some (.lst xs) => h.q (.lst xs) ⟨ρ'.T.set k .dead, ρ'.s⟩
    | _ => False
def dVal (f : DL') : DE := fun X ρ Q => f X ρ (@valK ⟨Q⟩)
def dBin (g : D → D → (D → Prop) → Prop) (fa fb : DE) : DE := fun X ρ Q => fa X ρ fun d ρ1 => fb X ρ1 fun e ρ2 => g d e fun z => Q z ρ2
def dUn (g : D → (D → Prop) → Prop) (fa : DE) : DE := fun X ρ Q => fa X ρ fun d ρ1 => g d fun z => Q z ρ1
def dNil : DA := fun _ ρ Q => Q [] ρ
def dCons (fa : DL') (fr : DA) : DA := fun X ρ Q => fa X ρ fun x ρ1 => fr X ρ1 fun xs ρ2 => Q (x :: xs) ρ2
/-- all of them data -/
def dats : List Sl → Option (List D)
  | [] => some []
  | .dat d :: r => (dats r).map (d :: ·)
  | _ :: _ => none
def dTup (fa : DA) : DE := fun X ρ Q => fa X ρ fun xs ρ' => match dats xs with
  | some ds => ds.length ≤ 1000 ∧ Q (.tup ds) ρ'
  | none => False
def dLst (fa : DA) : DE := fun X ρ Q => fa X ρ fun xs ρ' => match dats xs with
  | some ds => ds.length ≤ 1000 ∧ Q (.lst ds) ρ'
  | none => False
/-- a list that may be changed -/
def dNew (fa : DA) : DL' := fun X ρ Q => fa X ρ fun xs ρ' => match dats xs with
  | some ds => ds.length ≤ 1000 ∧ Q (.ob ρ'.T.length) ⟨ρ'.T ++ [.lst ds], ρ'.s⟩
  | none => False
def dTest (f : DE) : DT := fun X ρ Q => f X ρ fun d ρ' => match d with
  | .bl b => Q b ρ'
  | _ => False
def dtAnd (t u : DT) : DT := fun X ρ Q => t X ρ fun b ρ' => if b = true then u X ρ' Q else Q false ρ'
def dtOr (t u : DT) : DT := fun X ρ Q => t X ρ fun b ρ' => if b = true then Q true ρ' else u X ρ' Q
def dtNot (t : DT) : DT := fun X ρ Q => t X ρ fun b ρ' => Q (!b) ρ'
def dAnd (f : DE) (g : DE) : DE := fun X ρ Q => f X ρ fun d ρ' => match d with
  | .bl b => if b = true then g X ρ' Q else Q (.bl false) ρ'
  | _ => False
def dOr (f : DE) (g : DE) : DE := fun X ρ Q => f X ρ fun d ρ' => match d with
  | .bl b => if b = true then Q (.bl true) ρ' else g X ρ' Q
  | _ => False
def dNot (f : DE) : DE := fun X ρ Q => f X ρ fun d ρ' => match d with
  | .bl b => Q (.bl (!b)) ρ'
  | _ => False
def dIf (t : DT) (f g : DE) : DE := fun X ρ Q => t X ρ fun b ρ' => if b = true then f X ρ' Q else g X ρ' Q
def dChain (g g' : D → D → (D → Prop) → Prop) (fa fb fc : DE) : DE := fun X ρ Q => fa X ρ fun d ρ1 => fb X ρ1 fun e ρ2 => g d e fun z => match z with
  | .bl b => if b = true then fc X ρ2 fun c ρ3 => g' e c fun y => Q y ρ3 else Q (.bl false) ρ2
  | _ => False

section
variable {X : Cx} {W : WX}

/-! ### names, constants -/
theorem pv' (i : Nat) {x : Str} {pos : Pos} (hN : X.N[i]? = some x) (hv : Vis X.env.scope x) (hd : (x == ("__debug__" : Str)) = false) (hcd : (x == ("__classdict__" : Str)) = false) : PE X (.Name x pos) (tVar i) := pe_var hN hv hd hcd
theorem de_var (i : Nat) {x : Str} {pos : Pos} (hN : X.N[i]? = some x := by rfl) (hv : Vis X.env.scope x := by first | exact Or.inl rfl | exact Or.inr (Or.inl rfl) | exact Or.inr (Or.inr rfl)) (hd : (x == ("__debug__" : Str)) = false := by decide)
    (hcd : (x == ("__classdict__" : Str)) = false := by decide) : PE X (.Name x pos) (lE X.K W (dVar i)) := pe_imp (pe_var (i := i) hN hv hd hcd) fun σ H Q h => by
  obtain ⟨ρ, G, la, P, XX, r, f, q, _⟩ := h
  unfold dVar at f
  split at f
  · rename_i d hs
    obtain ⟨v, hv, rel⟩ := r.at_ _ _ hs
    exact ⟨v, hv, q _ _ _ _ _ _ f (Aft.refl r) rel⟩
  · rename_i k hs
    obtain ⟨v, hv, a, ha, ev⟩ := r.at_ _ _ hs
    subst ev
    split at f
    · rename_i xs hk
      obtain ⟨vs, hH, gn, s1, dp, rl⟩ := r.tb.freeze ha hk
      refine ⟨_, hv, q _ _ _ _ la _ f ⟨s1, List.prefix_rfl, ⟨rl, by simp [r.sl], fun j x hj => ?_⟩⟩ dp⟩
      have hj' : (ρ.s.set i (some (.dat (.lst xs))))[j]? = some (some x) := hj
      by_cases hji : j = i
      · subst hji
        rw [List.getElem?_set_self (List.getElem?_eq_some_iff.mp hs).1] at hj'
        have e := Option.some.inj (Option.some.inj hj')
        subst e
        exact ⟨_, hv, dp⟩
      · rw [List.getElem?_set_ne (Ne.symm hji)] at hj'
        obtain ⟨u, hu, ru⟩ := r.at_ j x hj'
        exact ⟨u, hu, ru.grow s1 List.prefix_rfl⟩
    · exact f.elim
  · exact f.elim
theorem dl_var (i : Nat) {x : Str} {pos : Pos} (hN : X.N[i]? = some x := by rfl) (hv : Vis X.env.scope x := by first | exact Or.inl rfl | exact Or.inr (Or.inl rfl) | exact Or.inr (Or.inr rfl)) (hd : (x == ("__debug__" : Str)) = false := by decide)
    (hcd : (x == ("__classdict__" : Str)) = false := by decide) : PE X (.Name x pos) (lL X.K W (dVarL i)) := pe_imp (pe_var (i := i) hN hv hd hcd) fun σ H Q h => by
  obtain ⟨ρ, G, la, P, XX, r, f, q, _⟩ := h
  unfold dVarL at f
  split at f
  · rename_i x hs
    obtain ⟨v, hv, rel⟩ := r.at_ _ _ hs
    exact ⟨v, hv, q _ _ _ _ _ _ f (Aft.refl r) rel⟩
  · exact f.elim
theorem de_c {e : Expr} {d : D} {v : V} (h : PE X e (tC v)) (hd : ∀ K G, Dp K G v d) : PE X e (lE X.K W (dC d)) := pe_imp h fun σ H Q ⟨ρ, G, la, P, XX, r, f, q, _⟩ => q _ _ _ _ _ _ f (Aft.refl r) (hd _ _)
theorem de_int {i j pos} : PE X (.Constant (.int i) j pos) (lE X.K W (dC (.int i))) := de_c pe_int fun _ _ => .int i
theorem de_bl {b j pos} : PE X (.Constant (.bool b) j pos) (lE X.K W (dC (.bl b))) := de_c pe_bl fun _ _ => .bl b
theorem de_non {j pos} : PE X (.Constant .none j pos) (lE X.K W (dC .non)) := de_c pe_non fun _ _ => .non
theorem de_str {x j pos} : PE X (.Constant (.str x) j pos) (lE X.K W (dC (.str x))) := de_c pe_str fun _ _ => .str x
theorem de_gint {x : Str} {i : Int} {t : Tok} {pos : Pos} (hm : X.mg x = some (.int i t)) (hg : Gl X x := by rfl) (hd : (x == ("__debug__" : Str)) = false := by decide) : PE X (.Name x pos) (lE X.K W (dC (.int i))) :=
  de_c (pe_glob hg hm (v := .int i) ⟨t, rfl⟩ hd) fun _ _ => .int i
theorem de_gfn {x : Str} {a : Addr} {pos : Pos} (hm : X.mg x = some (.ref a)) (hg : Gl X x := by rfl) (hd : (x == ("__debug__" : Str)) = false := by decide) : PE X (.Name x pos) (lE X.K W (dC (.raw (.ref a)))) :=
  de_c (pe_glob hg hm (v := .ref a) rfl hd) fun _ _ => .raw _
theorem dl_dat {e : Expr} {f : DE} (h : PE X e (lE X.K W f)) : PE X e (lL X.K W (dDat f)) := pe_imp h fun σ H Q ⟨ρ, G, la, P, XX, r, f, q, x⟩ => ⟨ρ, G, la, _, XX, r, f, fun d ρ' v G' la' H' p a z => q _ _ _ _ _ _ p a z, x⟩
theorem de_val {e : Expr} {f : DL'} (h : PE X e (lL X.K W f)) : PE X e (lE X.K W (dVal f)) := pe_imp h fun σ H Q ⟨ρ, G, la, P, XX, r, f, q, x⟩ => ⟨ρ, G, la, _, XX, r, f, fun d ρ' v G' la' H' p a z => by
  cases d with
  | dat d => exact q _ _ _ _ _ _ p a z
  | ob k =>
    obtain ⟨b, hb, ev⟩ := z
    subst ev
    have p' : (match ρ'.T[k]? with
      | some (.lst xs) => P (.lst xs) ⟨ρ'.T.set k .dead, ρ'.s⟩
      | _ => False) := p
    split at p'
    · rename_i xs hk
      obtain ⟨vs, hH, gn, s1, dp, rl⟩ := a.r.tb.freeze hb hk
      refine q _ _ _ _ la' _ p' ⟨a.g.trans s1, a.p, ⟨rl, a.r.sl, fun j y hj => ?_⟩⟩ dp
      obtain ⟨u, hu, ru⟩ := a.r.at_ j y hj
      exact ⟨u, hu, ru.grow s1 List.prefix_rfl⟩
    · exact p'.elim, x⟩

/-! ### argument lists, displays -/
theorem da_nil : PA X [] (lA X.K W dNil) := pa_imp pa_nil fun σ H Q ⟨ρ, G, la, P, XX, r, f, q, _⟩ => q _ _ _ _ _ _ f (Aft.refl r) .nil
theorem da_cons {e : Expr} {es : List Expr} {f : DL'} {g : DA} (he : PE X e (lL X.K W f)) (hs : PA X es (lA X.K W g)) (hst : starEach (e :: es) X.env = (false, eval e X.env) :: starEach es X.env := by rfl) : PA X (e :: es) (lA X.K W (dCons f g)) :=
  pa_imp (pa_cons he hs hst) fun σ H Q ⟨ρ, G, la, P, XX, r, h, q, xo⟩ => ⟨ρ, G, la, _, XX, r, h, fun x ρ1 v G1 la1 H1 p1 a1 z1 => ⟨ρ1, G1, la1, _, XX, a1.r, p1, fun xs ρ2 vs G2 la2 H2 p2 a2 z2 =>
    q _ _ _ _ _ _ p2 (a1.trans a2) (.cons (z1.grow a2.g a2.p) z2), xo.up a1.g a1.p⟩, xo⟩
theorem dats_of {K : PySem.W.Frag} {G : Hp} {la : List Addr} : ∀ {vs : List V} {xs : List Sl} {ds : List D}, SlsR K G la vs xs → dats xs = some ds → Dps K G vs ds
  | _, _, _, .nil, h => by
    have e := Option.some.inj h
    subst e
    exact .nil
  | _, .dat d :: r, _, .cons a s, h => by
    have h' : (dats r).map (d :: ·) = some _ := h
    obtain ⟨t, ht, e⟩ := Option.map_eq_some_iff.mp h'
    subst e
    exact .cons a (dats_of s ht)
  | _, .ob _ :: _, _, .cons _ _, h => by cases h
theorem dats_len : ∀ {xs : List Sl} {ds : List D}, dats xs = some ds → xs.length = ds.length
  | [], _, h => by
    have e := Option.some.inj h
    subst e
    rfl
  | .dat d :: r, _, h => by
    have h' : (dats r).map (d :: ·) = some _ := h
    obtain ⟨t, ht, e⟩ := Option.map_eq_some_iff.mp h'
    subst e
    exact congrArg (· + 1) (dats_len ht)
  | .ob _ :: _, _, h => by cases h
theorem short {n : Nat} (h : n ≤ 1000) : n ≤ sizeLine := Nat.le_of_lt (small1000 h)
theorem tup_some {xs : List Sl} {ρ' : Env} {P : D → Env → Prop} {c : List D → D} (h : match dats xs with
    | some ds => ds.length ≤ 1000 ∧ P (c ds) ρ'
    | none => False) : ∃ ds, dats xs = some ds ∧ ds.length ≤ 1000 ∧ P (c ds) ρ' := by
  cases e : dats xs with
  | none =>
    rw [e] at h
    exact h.elim
  | some ds =>
    rw [e] at h
    exact ⟨ds, rfl, h.1, h.2⟩
theorem de_tup {es : List Expr} {f : DA} {k pos} (h : PA X es (lA X.K W f)) : PE X (.Tuple es k pos) (lE X.K W (dTup f)) :=
  pe_imp (pe_tup h) fun σ H Q ⟨ρ, G, la, P, XX, r, h, q, xo⟩ => ⟨ρ, G, la, _, XX, r, h, fun xs ρ1 vs G1 la1 H1 p1 a1 z1 => by
    obtain ⟨ds, hd, hn, p1⟩ := tup_some p1
    have l0 : vs.length ≤ sizeLine := by
      rw [z1.len, dats_len hd]
      exact short hn
    refine ⟨l0, fun p hp => ?_⟩
    have w := Grow.new (o := .tup vs) a1.r.ext hp
    exact q _ _ _ _ _ _ p1 (a1.grow w) (.tup (.inl (.inl upd_same)) l0 ((dats_of z1 hd).up w.g)), xo⟩
theorem de_lst {es : List Expr} {f : DA} {pos} (h : PA X es (lA X.K W f)) : PE X (.List es pos) (lE X.K W (dLst f)) :=
  pe_imp (pe_lst h) fun σ H Q ⟨ρ, G, la, P, XX, r, h, q, xo⟩ => ⟨ρ, G, la, _, XX, r, h, fun xs ρ1 vs G1 la1 H1 p1 a1 z1 => by
    obtain ⟨ds, hd, hn, p1⟩ := tup_some p1
    have l0 : vs.length ≤ sizeLine := by
      rw [z1.len, dats_len hd]
      exact short hn
    refine ⟨l0, fun p hp => ?_⟩
    have w := Grow.new (o := .lst vs) a1.r.ext hp
    exact q _ _ _ _ _ _ p1 (a1.grow w) (.lst upd_same l0 ((dats_of z1 hd).up w.g)), xo⟩
theorem dl_new {es : List Expr} {f : DA} {pos} (h : PA X es (lA X.K W f)) : PE X (.List es pos) (lL X.K W (dNew f)) :=
  pe_imp (pe_lst h) fun σ H Q ⟨ρ, G, la, P, XX, r, h, q, xo⟩ => ⟨ρ, G, la, _, XX, r, h, fun xs ρ1 vs G1 la1 H1 p1 a1 z1 => by
    have p1' : (match dats xs with
      | some ds => ds.length ≤ 1000 ∧ P (.ob ρ1.T.length) ⟨ρ1.T ++ [.lst ds], ρ1.s⟩
      | none => False) := p1
    split at p1'
    · rename_i ds hd
      obtain ⟨hn, p2⟩ := p1'
      have l0 : vs.length ≤ sizeLine := by
        rw [z1.len, dats_len hd]
        exact short hn
      refine ⟨l0, fun p hp => ?_⟩
      have rf := a1.r.tb.fresh hp l0 (dats_of z1 hd)
      refine q _ _ _ G1 (la1 ++ [p]) _ p2 ⟨a1.g, a1.p.trans (List.prefix_append _ _), ⟨rf, a1.r.sl, fun j y hj => ?_⟩⟩ ⟨p, ?_, rfl⟩
      · obtain ⟨u, hu, ru⟩ := a1.r.at_ j y hj
        exact ⟨u, hu, ru.grow (Same.refl _) (List.prefix_append _ _)⟩
      · rw [← a1.r.tb.len, List.getElem?_append_right (Nat.le_refl _)]
        simp
    · exact p1'.elim, xo⟩

/-! ### operators -/
/-- r on values does what g does on data -/
def GOp (K : PySem.W.Frag) (r : R2) (g : D → D → (D → Prop) → Prop) : Prop := ∀ (G H : Hp) (x y : V) (d e : D) (P : D → Prop) (Q : VK), Same G H → Dp K G x d → Dp K G y e → g d e P →
  (∀ z v G' H', P z → Grow G H G' H' → Dp K G' v z → Q v H') → r x y H Q
theorem bin_core {K : PySem.W.Frag} {r : R2} {g : D → D → (D → Prop) → Prop} {fa fb : DE} (hg : GOp K r g) : ∀ (σ : L2.St) (H : Hp) (Q : VK), lE K W (dBin g fa fb) σ H Q → tOp r (lE K W fa) (lE K W fb) σ H Q := fun σ H Q ⟨ρ, G, la, P, XX, re, h, q, xo⟩ =>
  ⟨ρ, G, la, _, XX, re, h, fun d ρ1 v G1 la1 H1 p1 a1 z1 => ⟨ρ1, G1, la1, _, XX, a1.r, p1, fun e ρ2 u G2 la2 H2 p2 a2 z2 =>
    hg G2 H2 v u d e _ Q a2.r.ext (z1.up a2.g) z2 p2 fun z w G' H' pz gr dz => q _ _ _ _ _ _ pz ((a1.trans a2).grow gr) dz, xo.up a1.g a1.p⟩, xo⟩
theorem de_bin {op : Operator} {a b : Expr} {r : R2} {g : D → D → (D → Prop) → Prop} {fa fb : DE} {pos : Pos} (ho : OpR X (binaryOp op) r) (hg : GOp X.K r g) (ha : PE X a (lE X.K W fa)) (hb : PE X b (lE X.K W fb)) : PE X (.BinOp a op b pos) (lE X.K W (dBin g fa fb)) :=
  pe_imp (pe_op ho ha hb) (bin_core hg)
theorem de_cmp {op : CmpOp} {a b : Expr} {r : R2} {g : D → D → (D → Prop) → Prop} {fa fb : DE} {pos : Pos} (ho : OpR X (compareOp op) r) (hg : GOp X.K r g) (ha : PE X a (lE X.K W fa)) (hb : PE X b (lE X.K W fb)) (hm : behindInMarks op b = false) : PE X (.Compare a [op] [b] pos) (lE X.K W (dBin g fa fb)) :=
  pe_imp (pe_cmpR ho ha hb hm) (bin_core hg)
theorem chain_core {K : PySem.W.Frag} {r r' : R2} {g g' : D → D → (D → Prop) → Prop} {fa fb fc : DE} (hg : GOp K r g) (hg' : GOp K r' g') : ∀ (σ : L2.St) (H : Hp) (Q : VK), lE K W (dChain g g' fa fb fc) σ H Q → tChain r r' (lE K W fa) (lE K W fb) (lE K W fc) σ H Q := fun σ H Q ⟨ρ, G, la, P, XX, re, h, q, xo⟩ =>
  ⟨ρ, G, la, _, XX, re, h, fun d ρ1 v G1 la1 H1 p1 a1 z1 => ⟨ρ1, G1, la1, _, XX, a1.r, p1, fun e ρ2 u G2 la2 H2 p2 a2 z2 =>
    hg G2 H2 v u d e _ _ a2.r.ext (z1.up a2.g) z2 p2 fun z w G' H' pz gr dz => by
      cases z with
      | bl b' =>
        cases dz
        refine ⟨b', rfl, ?_⟩
        have a3 := (a1.trans a2).grow gr
        cases b' with
        | true =>
          refine iteT ?_
          have pz' : fc XX ρ2 fun c ρ3 => g' e c fun y => P y ρ3 := pz
          exact ⟨ρ2, G', la2, _, XX, a3.r, pz', fun c ρ3 w' G4 la4 H4 p4 a4 z4 =>
            hg' G4 H4 u w' e c _ Q a4.r.ext ((z2.up gr.g).up a4.g) z4 p4 fun y v' G5 H5 py gr5 dy => q _ _ _ _ _ _ py ((a3.trans a4).grow gr5) dy, xo.up a3.g a3.p⟩
        | false =>
          refine iteF ?_
          exact q _ _ _ _ _ _ (show P (.bl false) ρ2 from pz) a3 (.bl false)
      | _ => exact (show False from pz).elim, xo.up a1.g a1.p⟩, xo⟩
theorem de_chain {op op' : CmpOp} {a b c : Expr} {r r' : R2} {g g' : D → D → (D → Prop) → Prop} {fa fb fc : DE} {pos : Pos} (ho : OpR X (compareOp op) r) (ho' : OpR X (compareOp op') r') (hg : GOp X.K r g) (hg' : GOp X.K r' g') (ha : PE X a (lE X.K W fa)) (hb : PE X b (lE X.K W fb)) (hc : PE X c (lE X.K W fc))
    (hm : lastMarks [op, op'] [b, c] = false := by with_unfolding_all rfl) : PE X (.Compare a [op, op'] [b, c] pos) (lE X.K W (dChain g g' fa fb fc)) :=
  pe_imp (pe_chain ho ho' ha hb hc hm) (chain_core hg hg')
theorem de_un {op : UnaryOp} {a : Expr} {r : V → Hp → VK → Prop} {g : D → (D → Prop) → Prop} {fa : DE} {pos : Pos} (ho : UnR X (unaryOp op) r)
    (hg : ∀ (G H : Hp) (x : V) (d : D) (P : D → Prop) (Q : VK), Same G H → Dp X.K G x d → g d P → (∀ z v G' H', P z → Grow G H G' H' → Dp X.K G' v z → Q v H') → r x H Q) (ha : PE X a (lE X.K W fa)) : PE X (.UnaryOp op a pos) (lE X.K W (dUn g fa)) :=
  pe_imp (pe_un ho ha) fun σ H Q ⟨ρ, G, la, P, XX, re, h, q, xo⟩ => ⟨ρ, G, la, _, XX, re, h, fun d ρ1 v G1 la1 H1 p1 a1 z1 => hg G1 H1 v d _ _ a1.r.ext z1 p1 fun z w G' H' pz gr dz => q _ _ _ _ _ _ pz (a1.grow gr) dz, xo⟩

/-! ### tests -/
theorem dt_of {e : Expr} {f : DE} (h : PE X e (lE X.K W f)) (he : ∀ whole, isTrue e X.env whole = (do let v ← whole; standAt e.pos; holding [v] (truthy v)) := by intro _; rfl) : PT X e (lT X.K W (dTest f)) :=
  pt_imp (pt_val h he) fun σ H Q ⟨ρ, G, la, P, XX, r, h, q, xo⟩ => ⟨ρ, G, la, _, XX, r, h, fun d ρ1 v G1 la1 H1 p1 a1 z1 => by
    cases d with
    | bl b =>
      cases z1
      exact ⟨b, rfl, q _ _ _ _ _ (show P b ρ1 from p1) a1⟩
    | _ => exact (show False from p1).elim, xo⟩
theorem test_core {K : PySem.W.Frag} {f : DE} : ∀ (σ : L2.St) (H : Hp) (Q : Bool → Hp → Prop), lT K W (dTest f) σ H Q → lE K W f σ H (fun x H' => ∃ k, x = .bl k ∧ Q k H') := fun σ H Q ⟨ρ, G, la, P, XX, r, h, q, xo⟩ => ⟨ρ, G, la, _, XX, r, h, fun d ρ1 v G1 la1 H1 p1 a1 z1 => by
    cases d with
    | bl b =>
      cases z1
      exact ⟨b, rfl, q _ _ _ _ _ (show P b ρ1 from p1) a1⟩
    | _ => exact (show False from p1).elim, xo⟩
theorem dt_cmp {op : CmpOp} {a b : Expr} {r : R2} {g : D → D → (D → Prop) → Prop} {fa fb : DE} {pos : Pos} (ho : OpR X (compareOp op) r) (hg : GOp X.K r g) (ha : PE X a (lE X.K W fa)) (hb : PE X b (lE X.K W fb)) (hm : behindInMarks op b = false) : PT X (.Compare a [op] [b] pos) (lT X.K W (dTest (dBin g fa fb))) :=
  pt_imp (pt_cmpR ho ha hb hm) fun σ H Q h => bin_core hg σ H _ (test_core σ H Q h)
theorem dt_chain {op op' : CmpOp} {a b c : Expr} {r r' : R2} {g g' : D → D → (D → Prop) → Prop} {fa fb fc : DE} {pos : Pos} (ho : OpR X (compareOp op) r) (ho' : OpR X (compareOp op') r') (hg : GOp X.K r g) (hg' : GOp X.K r' g') (ha : PE X a (lE X.K W fa)) (hb : PE X b (lE X.K W fb)) (hc : PE X c (lE X.K W fc))
    (hm : lastMarks [op, op'] [b, c] = false := by with_unfolding_all rfl) : PT X (.Compare a [op, op'] [b, c] pos) (lT X.K W (dTest (dChain g g' fa fb fc))) :=
  pt_imp (pt_chain ho ho' ha hb hc hm) fun σ H Q h => chain_core hg hg' σ H _ (test_core σ H Q h)
theorem dt_not {e : Expr} {t : DT} {pos : Pos} (h : PT X e (lT X.K W t)) : PT X (.UnaryOp .Not e pos) (lT X.K W (dtNot t)) :=
  pt_imp (pt_not h) fun σ H Q ⟨ρ, G, la, P, XX, r, h, q, xo⟩ => ⟨ρ, G, la, _, XX, r, h, fun b ρ1 G1 la1 H1 p1 a1 => q _ _ _ _ _ p1 a1, xo⟩
theorem dw_and1 {e : Expr} {t : DT} {pos : Pos} (h : PT X e (lT X.K W t)) : PW X (.BoolOp .And [e] pos) (lT X.K W t) := pw_and1 h
theorem dw_or1 {e : Expr} {t : DT} {pos : Pos} (h : PT X e (lT X.K W t)) : PW X (.BoolOp .Or [e] pos) (lT X.K W t) := pw_or1 h
theorem dw_and {a b : Expr} {rest : List Expr} {t u : DT} {pos : Pos} (h : PT X a (lT X.K W t)) (h2 : PW X (.BoolOp .And (b :: rest) pos) (lT X.K W u)) : PW X (.BoolOp .And (a :: b :: rest) pos) (lT X.K W (dtAnd t u)) :=
  pw_imp (pw_and h h2) fun σ H Q ⟨ρ, G, la, P, XX, r, h, q, xo⟩ => ⟨ρ, G, la, _, XX, r, h, fun b ρ1 G1 la1 H1 p1 a1 => by
    cases b with
    | true => exact iteT ⟨ρ1, G1, la1, _, XX, a1.r, (show u XX ρ1 P from p1), fun b ρ2 G2 la2 H2 p2 a2 => q _ _ _ _ _ p2 (a1.trans a2), xo.up a1.g a1.p⟩
    | false => exact iteF (q _ _ _ _ _ (show P false ρ1 from p1) a1), xo⟩
theorem dw_or {a b : Expr} {rest : List Expr} {t u : DT} {pos : Pos} (h : PT X a (lT X.K W t)) (h2 : PW X (.BoolOp .Or (b :: rest) pos) (lT X.K W u)) : PW X (.BoolOp .Or (a :: b :: rest) pos) (lT X.K W (dtOr t u)) :=
  pw_imp (pw_or h h2) fun σ H Q ⟨ρ, G, la, P, XX, r, h, q, xo⟩ => ⟨ρ, G, la, _, XX, r, h, fun b ρ1 G1 la1 H1 p1 a1 => by
    cases b with
    | false => exact iteF ⟨ρ1, G1, la1, _, XX, a1.r, (show u XX ρ1 P from p1), fun b ρ2 G2 la2 H2 p2 a2 => q _ _ _ _ _ p2 (a1.trans a2), xo.up a1.g a1.p⟩
    | true => exact iteT (q _ _ _ _ _ (show P true ρ1 from p1) a1), xo⟩
theorem dw {e : Expr} {t : DT} (h : PW X e (lT X.K W t)) : PT X e (lT X.K W t) := h.pt
theorem de_and {a b : Expr} {rest : List Expr} {f g : DE} {pos : Pos} (h : PE X a (lE X.K W f)) (h2 : PE X (.BoolOp .And (b :: rest) pos) (lE X.K W g)) : PE X (.BoolOp .And (a :: b :: rest) pos) (lE X.K W (dAnd f g)) :=
  pe_imp (pe_and h h2) fun σ H Q ⟨ρ, G, la, P, XX, r, h, q, xo⟩ => ⟨ρ, G, la, _, XX, r, h, fun d ρ1 v G1 la1 H1 p1 a1 z1 => by
    cases d with
    | bl b =>
      cases z1
      refine ⟨b, rfl, ?_⟩
      cases b with
      | true => exact iteT ⟨ρ1, G1, la1, _, XX, a1.r, (show g XX ρ1 P from p1), fun d ρ2 v G2 la2 H2 p2 a2 z2 => q _ _ _ _ _ _ p2 (a1.trans a2) z2, xo.up a1.g a1.p⟩
      | false => exact iteF (q _ _ _ _ _ _ (show P (.bl false) ρ1 from p1) a1 (.bl false))
    | _ => exact (show False from p1).elim, xo⟩
theorem de_or {a b : Expr} {rest : List Expr} {f g : DE} {pos : Pos} (h : PE X a (lE X.K W f)) (h2 : PE X (.BoolOp .Or (b :: rest) pos) (lE X.K W g)) : PE X (.BoolOp .Or (a :: b :: rest) pos) (lE X.K W (dOr f g)) :=
  pe_imp (pe_or h h2) fun σ H Q ⟨ρ, G, la, P, XX, r, h, q, xo⟩ => ⟨ρ, G, la, _, XX, r, h, fun d ρ1 v G1 la1 H1 p1 a1 z1 => by
    cases d with
    | bl b =>
      cases z1
      refine ⟨b, rfl, ?_⟩
      cases b with
      | false => exact iteF ⟨ρ1, G1, la1, _, XX, a1.r, (show g XX ρ1 P from p1), fun d ρ2 v G2 la2 H2 p2 a2 z2 => q _ _ _ _ _ _ p2 (a1.trans a2) z2, xo.up a1.g a1.p⟩
      | true => exact iteT (q _ _ _ _ _ _ (show P (.bl true) ρ1 from p1) a1 (.bl true))
    | _ => exact (show False from p1).elim, xo⟩
theorem de_not {e : Expr} {f : DE} {pos : Pos} (h : PE X e (lE X.K W f)) : PE X (.UnaryOp .Not e pos) (lE X.K W (dNot f)) :=
  pe_imp (pe_not h) fun σ H Q ⟨ρ, G, la, P, XX, r, h, q, xo⟩ => ⟨ρ, G, la, _, XX, r, h, fun d ρ1 v G1 la1 H1 p1 a1 z1 => by
    cases d with
    | bl b =>
      cases z1
      exact ⟨b, rfl, q _ _ _ _ _ _ (show P (.bl (!b)) ρ1 from p1) a1 (.bl _)⟩
    | _ => exact (show False from p1).elim, xo⟩
theorem de_one {op : BoolOp} {e : Expr} {f : DE} {pos : Pos} (h : PE X e (lE X.K W f)) : PE X (.BoolOp op [e] pos) (lE X.K W f) := pe_one h
theorem de_if {c a b : Expr} {t : DT} {f g : DE} {pos : Pos} (hc : PT X c (lT X.K W t)) (ha : PE X a (lE X.K W f)) (hb : PE X b (lE X.K W g)) : PE X (.IfExp c a b pos) (lE X.K W (dIf t f g)) :=
  pe_imp (pe_ifExp hc ha hb) fun σ H Q ⟨ρ, G, la, P, XX, r, h, q, xo⟩ => ⟨ρ, G, la, _, XX, r, h, fun b ρ1 G1 la1 H1 p1 a1 => by
    cases b with
    | true => exact iteT ⟨ρ1, G1, la1, _, XX, a1.r, (show f XX ρ1 P from p1), fun d ρ2 v G2 la2 H2 p2 a2 z2 => q _ _ _ _ _ _ p2 (a1.trans a2) z2, xo.up a1.g a1.p⟩
    | false => exact iteF ⟨ρ1, G1, la1, _, XX, a1.r, (show g XX ρ1 P from p1), fun d ρ2 v G2 la2 H2 p2 a2 z2 => q _ _ _ _ _ _ p2 (a1.trans a2) z2, xo.up a1.g a1.p⟩, xo⟩
end
end DL
set_option Elab.async false
set_option linter.all false
set_option maxRecDepth 100000
set_option maxHeartbeats 4000000
set_option autoImplicit false
/-! The data level: operators, subscripts, slices, calls of built-ins. -/
namespace DL
open PySem PySem.Spec PyProof.Rows L2

/-! ### arithmetic -/
def gAdd : D → D → (D → Prop) → Prop
  | .int i, .int j, P => P (.int (i + j))
  | .str i, .str j, P => i.length + j.length ≤ sizeLine ∧ P (.str (i ++ j))
  | .tup a, .tup b, P => a.length + b.length ≤ sizeLine ∧ P (.tup (a ++ b))
  | .lst a, .lst b, P => a.length + b.length ≤ sizeLine ∧ P (.lst (a ++ b))
  | _, _, _ => False
def gSub : D → D → (D → Prop) → Prop
  | .int i, .int j, P => P (.int (i - j))
  | _, _, _ => False
def gMul : D → D → (D → Prop) → Prop
  | .int i, .int j, P => CMulW i j ∧ P (.int (i * j))
  | _, _, _ => False
def gDiv : D → D → (D → Prop) → Prop
  | .int i, .int j, P => CDivW i j ∧ P (.int (i / j))
  | _, _, _ => False
def gMod : D → D → (D → Prop) → Prop
  | .int i, .int j, P => 0 < j ∧ P (.int (i % j))
  | _, _, _ => False
def gPow : D → D → (D → Prop) → Prop
  | .int i, .int j, P => CPow i j ∧ P (.int (i ^ j.toNat))
  | _, _, _ => False
def gNeg : D → (D → Prop) → Prop
  | .int i, P => P (.int (-i))
  | _, _ => False
section
variable {K : PySem.W.Frag}
theorem sqt_of {G H : Hp} {p : Addr} {vs : List V} (e : Same G H) (h : SqT K G p vs) : SqT K H p vs := same_t e h
theorem gop_rI {C : Int → Int → Prop} {f : Int → Int → Int} {g : D → D → (D → Prop) → Prop} (h : ∀ d e P, g d e P → ∃ i j, d = .int i ∧ e = .int j ∧ C i j ∧ P (.int (f i j))) : GOp K (rI C fun i j => .int (f i j)) g := by
  intro G H x y d e P Q sm dx dy gp k
  obtain ⟨i, j, rfl, rfl, c, p⟩ := h d e P gp
  cases dx
  cases dy
  exact ⟨i, j, rfl, rfl, c, k _ _ _ _ p (Grow.refl sm) (.int _)⟩
theorem gop_rI0 {f : Int → Int → Int} {g : D → D → (D → Prop) → Prop} (h : ∀ d e P, g d e P → ∃ i j, d = .int i ∧ e = .int j ∧ P (.int (f i j))) : GOp K (rI0 fun i j => .int (f i j)) g := by
  intro G H x y d e P Q sm dx dy gp k
  obtain ⟨i, j, rfl, rfl, p⟩ := h d e P gp
  cases dx
  cases dy
  exact ⟨i, j, rfl, rfl, k _ _ _ _ p (Grow.refl sm) (.int _)⟩
theorem gop_rB0 {f : Int → Int → Bool} {g : D → D → (D → Prop) → Prop} (h : ∀ d e P, g d e P → ∃ i j, d = .int i ∧ e = .int j ∧ P (.bl (f i j))) : GOp K (rI0 fun i j => .bl (f i j)) g := by
  intro G H x y d e P Q sm dx dy gp k
  obtain ⟨i, j, rfl, rfl, p⟩ := h d e P gp
  cases dx
  cases dy
  exact ⟨i, j, rfl, rfl, k _ _ _ _ p (Grow.refl sm) (.bl _)⟩
theorem g_sub : GOp K (rI0 fun i j => .int (i - j)) gSub := gop_rI0 fun d e P h => by
  unfold gSub at h
  split at h
  · exact ⟨_, _, rfl, rfl, h⟩
  · exact h.elim
theorem g_mul : GOp K (rI CMulW fun i j => .int (i * j)) gMul := gop_rI fun d e P h => by
  unfold gMul at h
  split at h
  · exact ⟨_, _, rfl, rfl, h.1, h.2⟩
  · exact h.elim
theorem g_div : GOp K (rI CDivW fun i j => .int (i / j)) gDiv := gop_rI fun d e P h => by
  unfold gDiv at h
  split at h
  · exact ⟨_, _, rfl, rfl, h.1, h.2⟩
  · exact h.elim
theorem g_mod : GOp K (rI (fun _ j => 0 < j) fun i j => .int (i % j)) gMod := gop_rI fun d e P h => by
  unfold gMod at h
  split at h
  · exact ⟨_, _, rfl, rfl, h.1, h.2⟩
  · exact h.elim
theorem g_pow : GOp K (rI CPow fun i j => .int (i ^ j.toNat)) gPow := gop_rI fun d e P h => by
  unfold gPow at h
  split at h
  · exact ⟨_, _, rfl, rfl, h.1, h.2⟩
  · exact h.elim
/-- + of ints, texts, tuples, lists -/
def rAddA (K : PySem.W.Frag) : R2 := fun x y H Q => (rI0 (fun i j => .int (i + j)) x y H Q) ∨ (∃ i j, x = .str i ∧ y = .str j ∧ i.length + j.length ≤ sizeLine ∧ Q (.str (i ++ j)) H) ∨ rCatA K x y H Q ∨ rCat x y H Q
theorem op_addA {X : Cx} : OpR X (binaryOp .Add) (rAddA X.K) := op_add.or (op_add_str.or (op_catA.or op_cat))
theorem nil_iff {K : PySem.W.Frag} {G : Hp} {vs : List V} {ds : List D} (h : Dps K G vs ds) : vs = [] ↔ ds = [] := by
  cases h with
  | nil => simp
  | cons _ _ => simp
theorem g_add : GOp K (rAddA K) gAdd := by
  intro G H x y d e P Q sm dx dy gp k
  unfold gAdd at gp
  split at gp
  · cases dx
    cases dy
    exact .inl ⟨_, _, rfl, rfl, k _ _ _ _ gp (Grow.refl sm) (.int _)⟩
  · cases dx
    cases dy
    exact .inr (.inl ⟨_, _, rfl, rfl, gp.1, k _ _ _ _ gp.2 (Grow.refl sm) (.str _)⟩)
  · cases dx with
    | tup a l r =>
      rename_i pa va
      cases dy with
      | tup a' l' r' =>
        rename_i pb vb
        have lz : va.length + vb.length ≤ sizeLine := by
          rw [r.len, r'.len]
          exact gp.1
        refine .inr (.inr (.inl ⟨_, _, va, vb, rfl, rfl, same_t sm a, same_t sm a', lz, fun z => ?_, fun z z' => ?_, fun z z' q hq => ?_⟩))
        · have e0 := (nil_iff r).mp z
          have e1 := gp.2
          rw [e0, List.nil_append] at e1
          exact k _ _ _ _ e1 (Grow.refl sm) (.tup a' l' r')
        · have e0 := (nil_iff r').mp z'
          have e1 := gp.2
          rw [e0, List.append_nil] at e1
          exact k _ _ _ _ e1 (Grow.refl sm) (.tup a l r)
        · have w := Grow.new (o := .tup (va ++ vb)) sm hq
          exact k _ _ _ _ gp.2 w (.tup (.inl (.inl upd_same)) (by rw [List.length_append]; exact lz) ((r.app r').up w.g))
  · cases dx with
    | lst a l r =>
      rename_i pa va
      cases dy with
      | lst a' l' r' =>
        rename_i pb vb
        have lz : va.length + vb.length ≤ sizeLine := by
          rw [r.len, r'.len]
          exact gp.1
        refine .inr (.inr (.inr ⟨_, _, va, vb, rfl, rfl, sm _ _ a, sm _ _ a', lz, fun q hq => ?_⟩))
        have w := Grow.new (o := .lst (va ++ vb)) sm hq
        exact k _ _ _ _ gp.2 w (.lst upd_same (by rw [List.length_append]; exact lz) ((r.app r').up w.g))
  · exact gp.elim

/-! ### comparisons -/
def gLt : D → D → (D → Prop) → Prop
  | .int i, .int j, P => P (.bl (decide (i < j)))
  | _, _, _ => False
def gLe : D → D → (D → Prop) → Prop
  | .int i, .int j, P => P (.bl (decide (i ≤ j)))
  | _, _, _ => False
def gGt : D → D → (D → Prop) → Prop
  | .int i, .int j, P => P (.bl (decide (j < i)))
  | _, _, _ => False
def gGe : D → D → (D → Prop) → Prop
  | .int i, .int j, P => P (.bl (decide (j ≤ i)))
  | _, _, _ => False
theorem g_lt : GOp K (rI0 fun i j => .bl (decide (i < j))) gLt := gop_rB0 (f := fun i j => decide (i < j)) fun d e P h => by
  unfold gLt at h
  split at h
  · exact ⟨_, _, rfl, rfl, h⟩
  · exact h.elim
theorem g_le : GOp K (rI0 fun i j => .bl (decide (i ≤ j))) gLe := gop_rB0 (f := fun i j => decide (i ≤ j)) fun d e P h => by
  unfold gLe at h
  split at h
  · exact ⟨_, _, rfl, rfl, h⟩
  · exact h.elim
theorem g_gt : GOp K (rI0 fun i j => .bl (decide (j < i))) gGt := gop_rB0 (f := fun i j => decide (j < i)) fun d e P h => by
  unfold gGt at h
  split at h
  · exact ⟨_, _, rfl, rfl, h⟩
  · exact h.elim
theorem g_ge : GOp K (rI0 fun i j => .bl (decide (j ≤ i))) gGe := gop_rB0 (f := fun i j => decide (j ≤ i)) fun d e P h => by
  unfold gGe at h
  split at h
  · exact ⟨_, _, rfl, rfl, h⟩
  · exact h.elim
/-- is None -/
def isNon : D → Option Bool
  | .non => some true
  | .raw _ => none
  | _ => some false
def gIsN (neg : Bool) : D → D → (D → Prop) → Prop := fun d e P => match e with
  | .non => match isNon d with
    | some b => P (.bl (if neg then !b else b))
    | none => False
  | _ => False
theorem isNon_of {G : Hp} {x : V} {d : D} {b : Bool} (h : Dp K G x d) (e : isNon d = some b) : decide (x = .non) = b := by
  cases h <;> first
    | (have e' := Option.some.inj e; subst e'; simp; done)
    | (have e' := Option.some.inj e; subst e'; exact decide_eq_true rfl)
    | cases e
theorem g_isN : GOp K (fun x y H Q => y = .non ∧ Q (.bl (decide (x = .non))) H) (gIsN false) := by
  intro G H x y d e P Q sm dx dy gp k
  unfold gIsN at gp
  split at gp
  · cases dy
    split at gp
    · rename_i b hb
      rw [isNon_of dx hb]
      exact ⟨rfl, k _ _ _ _ gp (Grow.refl sm) (.bl _)⟩
    · exact gp.elim
  · exact gp.elim
theorem g_notN : GOp K (fun x y H Q => y = .non ∧ Q (.bl (!decide (x = .non))) H) (gIsN true) := by
  intro G H x y d e P Q sm dx dy gp k
  unfold gIsN at gp
  split at gp
  · cases dy
    split at gp
    · rename_i b hb
      rw [isNon_of dx hb]
      exact ⟨rfl, k _ _ _ _ gp (Grow.refl sm) (.bl _)⟩
    · exact gp.elim
  · exact gp.elim
end

/-! ### == of data -/
mutual
def toP : D → PyData
  | .non => .none
  | .bl b => .bool b
  | .int i => .int i
  | .str x => .str x
  | .raw _ => .none
  | .tup xs => .tuple (toPs xs)
  | .lst xs => .list (toPs xs)
  | .scr ns => .list (ns.map .int)
def toPs : List D → List PyData
  | [] => []
  | x :: xs => toP x :: toPs xs
end
mutual
/-- data without strange values, not deeper than n -/
def okd : Nat → D → Bool
  | _, .raw _ => false
  | n, .tup xs => match n with
    | 0 => false
    | n + 1 => okds n xs
  | n, .lst xs => match n with
    | 0 => false
    | n + 1 => okds n xs
  | _, .scr _ => false
  | _, _ => true
def okds : Nat → List D → Bool
  | _, [] => true
  | n, x :: xs => okd n x && okds n xs
end
/-- whether two data are equal to Python -/
def deq (d e : D) : Bool := PyData.eqv (toP d) (toP e)
def deqs (ds es : List D) : Bool := PyData.eqvAll (toPs ds) (toPs es)
theorem plain_ints : ∀ ns : List Int, PyData.plainAll (ns.map PyData.int) = true
  | [] => rfl
  | _ :: ns => plain_ints ns
theorem depth_ints : ∀ ns : List Int, PyData.depthAll (ns.map PyData.int) = 0
  | [] => by simp [PyData.depthAll]
  | _ :: ns => by
    have ih := depth_ints ns
    simp only [List.map_cons, PyData.depthAll, PyData.depth, ih]
    rfl
mutual
theorem plain_toP : ∀ (n : Nat) (d : D), okd n d = true → (toP d).plain = true ∧ (toP d).depth ≤ n
  | n, .non, _ => ⟨rfl, Nat.zero_le _⟩
  | n, .bl _, _ => ⟨rfl, Nat.zero_le _⟩
  | n, .int _, _ => ⟨rfl, Nat.zero_le _⟩
  | n, .str _, _ => ⟨rfl, Nat.zero_le _⟩
  | n, .raw _, h => by simp [okd] at h
  | 0, .tup xs, h => by simp [okd] at h
  | n + 1, .tup xs, h => by
    have h' : okds n xs = true := by simpa [okd] using h
    obtain ⟨a, b⟩ := plain_toPs n xs h'
    refine ⟨?_, ?_⟩
    · show PyData.plainAll (toPs xs) = true
      exact a
    · show PyData.depthAll (toPs xs) + 1 ≤ n + 1
      omega
  | 0, .lst xs, h => by simp [okd] at h
  | n + 1, .lst xs, h => by
    have h' : okds n xs = true := by simpa [okd] using h
    obtain ⟨a, b⟩ := plain_toPs n xs h'
    refine ⟨?_, ?_⟩
    · show PyData.plainAll (toPs xs) = true
      exact a
    · show PyData.depthAll (toPs xs) + 1 ≤ n + 1
      omega
  | 0, .scr _, h => by simp [okd] at h
  | n + 1, .scr ns, _ => by
    refine ⟨?_, ?_⟩
    · show PyData.plainAll (ns.map PyData.int) = true
      exact plain_ints ns
    · show PyData.depthAll (ns.map PyData.int) + 1 ≤ n + 1
      rw [depth_ints]
      omega
theorem plain_toPs : ∀ (n : Nat) (ds : List D), okds n ds = true → PyData.plainAll (toPs ds) = true ∧ PyData.depthAll (toPs ds) ≤ n
  | n, [], _ => ⟨rfl, by simp [toPs, PyData.depthAll]⟩
  | n, x :: xs, h => by
    have h' : okd n x = true ∧ okds n xs = true := by simpa [okds] using h
    obtain ⟨a, b⟩ := plain_toP n x h'.1
    obtain ⟨c, d⟩ := plain_toPs n xs h'.2
    refine ⟨?_, ?_⟩
    · show ((toP x).plain && PyData.plainAll (toPs xs)) = true
      rw [a, c]
      rfl
    · show max (toP x).depth (PyData.depthAll (toPs xs)) ≤ n
      omega
end
section
variable {K : PySem.W.Frag} {G H : Hp}
theorem sql_up {G H : Hp} {p : Addr} {vs : List V} (e : Same G H) (h : SqL K G p vs) : SqL K H p vs := e.seq h
theorem dpall_ints (H : Hp) : ∀ ns : List Int, L2.DpAll K H (ns.map V.int) (ns.map PyData.int)
  | [] => .nil
  | n :: ns => .cons (.int n) (dpall_ints H ns)
mutual
theorem Dp.l2 (sm : Same G H) : ∀ (n : Nat) (d : D) (v : V), Dp K G v d → okd n d = true → L2.Dp K H v (toP d)
  | n, .non, _, h, _ => by cases h; exact .non
  | n, .bl _, _, h, _ => by cases h; exact .bl _
  | n, .int _, _, h, _ => by cases h; exact .int _
  | n, .str _, _, h, _ => by cases h; exact .str _
  | n, .raw _, _, _, o => by simp [okd] at o
  | 0, .tup _, _, _, o => by simp [okd] at o
  | n + 1, .tup xs, _, h, o => by
    cases h with
    | tup a l r =>
      have o' : okds n xs = true := by simpa [okd] using o
      exact .tup (same_t sm a) (Dps.l2 sm n xs _ r o')
  | 0, .lst _, _, _, o => by simp [okd] at o
  | n + 1, .lst xs, _, h, o => by
    cases h with
    | lst a l r =>
      have o' : okds n xs = true := by simpa [okd] using o
      exact .lst (SqL.of (sm _ _ a)) (Dps.l2 sm n xs _ r o')
  | n, .scr ns, _, h, _ => by
    cases h with
    | scr a => exact .lst (sm.seq a) (dpall_ints H ns)
theorem Dps.l2 (sm : Same G H) : ∀ (n : Nat) (ds : List D) (vs : List V), Dps K G vs ds → okds n ds = true → L2.DpAll K H vs (toPs ds)
  | n, [], _, h, _ => by cases h; exact .nil
  | n, d :: ds, _, h, o => by
    cases h with
    | cons a r =>
      have o' : okd n d = true ∧ okds n ds = true := by simpa [okds] using o
      exact .cons (Dp.l2 sm n d _ a o'.1) (Dps.l2 sm n ds _ r o'.2)
end
end
/-- == by data that are plain -/
def rEqP (K : PySem.W.Frag) : R2 := fun x y H Q => ∃ d e, L2.Dp K H x d ∧ L2.Dp K H y e ∧ d.plain = true ∧ e.plain = true ∧ d.depth ≤ 60 ∧ Q (.bl (PyData.eqv d e)) H
def rNeP (K : PySem.W.Frag) : R2 := fun x y H Q => ∃ d e, L2.Dp K H x d ∧ L2.Dp K H y e ∧ d.plain = true ∧ e.plain = true ∧ d.depth ≤ 60 ∧ Q (.bl (!PyData.eqv d e)) H
section
variable {X : Cx}
theorem op_eqP (hu : X.A.units + 64 < cLine) : OpR X (compareOp .Eq) (rEqP X.K) := by
  intro pins s σ H x y v u Q I rx ry h
  obtain ⟨d, e, hd, he, sd, se, dp, q⟩ := h
  obtain ⟨as_, r1⟩ := L2.Dp.reads I d x v hd rx
  obtain ⟨bs, r2⟩ := L2.Dp.reads I e y u he ry
  have h2 : min d.depth e.depth ≤ d.depth := Nat.min_le_left _ _
  exact SeqAt.eq_plain r1 r2 sd se (by omega) ⟨.bl _, H, I, rfl, q⟩
theorem op_neP (hu : X.A.units + 64 < cLine) : OpR X (compareOp .NotEq) (rNeP X.K) := by
  intro pins s σ H x y v u Q I rx ry h
  obtain ⟨d, e, hd, he, sd, se, dp, q⟩ := h
  obtain ⟨as_, r1⟩ := L2.Dp.reads I d x v hd rx
  obtain ⟨bs, r2⟩ := L2.Dp.reads I e y u he ry
  have h2 : min d.depth e.depth ≤ d.depth := Nat.min_le_left _ _
  exact SeqAt.ne_plain r1 r2 sd se (by omega) ⟨.bl _, H, I, rfl, q⟩
end
def gEq : D → D → (D → Prop) → Prop := fun d e P => okd 60 d = true ∧ okd 60 e = true ∧ P (.bl (deq d e))
def gNe : D → D → (D → Prop) → Prop := fun d e P => okd 60 d = true ∧ okd 60 e = true ∧ P (.bl (!deq d e))
section
variable {K : PySem.W.Frag}
theorem g_eq : GOp K (rEqP K) gEq := by
  intro G H x y d e P Q sm dx dy gp k
  obtain ⟨o1, o2, p⟩ := gp
  exact ⟨toP d, toP e, Dp.l2 sm 60 d x dx o1, Dp.l2 sm 60 e y dy o2, (plain_toP 60 d o1).1, (plain_toP 60 e o2).1, (plain_toP 60 d o1).2, k _ _ _ _ p (Grow.refl sm) (.bl _)⟩
theorem g_ne : GOp K (rNeP K) gNe := by
  intro G H x y d e P Q sm dx dy gp k
  obtain ⟨o1, o2, p⟩ := gp
  exact ⟨toP d, toP e, Dp.l2 sm 60 d x dx o1, Dp.l2 sm 60 e y dy o2, (plain_toP 60 d o1).1, (plain_toP 60 e o2).1, (plain_toP 60 d o1).2, k _ _ _ _ p (Grow.refl sm) (.bl _)⟩
end

/-! ### in -/
def rInP (K : PySem.W.Frag) (neg : Bool) : R2 := fun x y H Q => ∃ d es, L2.Dp K H x d ∧ (L2.Dp K H y (.list es) ∨ L2.Dp K H y (.tuple es)) ∧ d.plain = true ∧ PyData.plainAll es = true ∧ d.depth ≤ 60 ∧ Q (.bl (if neg then !(es.any fun z => PyData.eqv z d) else es.any fun z => PyData.eqv z d)) H
section
variable {X : Cx}
theorem op_inP (hu : X.A.units + 64 < cLine) : OpR X (compareOp .In) (rInP X.K false) := by
  intro pins s σ H x y v u Q I rx ry h
  obtain ⟨d, es, hd, he, sd, se, dp, q⟩ := h
  obtain ⟨as_, r1⟩ := L2.Dp.reads I d x v hd rx
  have h2 : min (PyData.depthAll es) d.depth ≤ d.depth := Nat.min_le_right _ _
  rcases he with he | he
  · obtain ⟨bs, r2⟩ := L2.Dp.reads I _ y u he ry
    exact SeqAt.in_list_data r2 r1 se sd (by omega) ⟨.bl _, H, I, rfl, q⟩
  · obtain ⟨bs, r2⟩ := L2.Dp.reads I _ y u he ry
    exact SeqAt.in_tuple_data r2 r1 se sd (by omega) ⟨.bl _, H, I, rfl, q⟩
theorem op_ninP (hu : X.A.units + 64 < cLine) : OpR X (compareOp .NotIn) (rInP X.K true) := by
  intro pins s σ H x y v u Q I rx ry h
  obtain ⟨d, es, hd, he, sd, se, dp, q⟩ := h
  obtain ⟨as_, r1⟩ := L2.Dp.reads I d x v hd rx
  have h2 : min (PyData.depthAll es) d.depth ≤ d.depth := Nat.min_le_right _ _
  rcases he with he | he
  · obtain ⟨bs, r2⟩ := L2.Dp.reads I _ y u he ry
    exact SeqAt.notIn_list_data r2 r1 se sd (by omega) ⟨.bl _, H, I, rfl, q⟩
  · obtain ⟨bs, r2⟩ := L2.Dp.reads I _ y u he ry
    exact SeqAt.notIn_tuple_data r2 r1 se sd (by omega) ⟨.bl _, H, I, rfl, q⟩
end
/-- whether one of es is equal to d -/
def dmem (d : D) (es : List D) : Bool := es.any fun z => deq z d
def gIn (neg : Bool) : D → D → (D → Prop) → Prop
  | d, .tup es, P => okd 60 d = true ∧ okds 60 es = true ∧ P (.bl (if neg then !dmem d es else dmem d es))
  | d, .lst es, P => okd 60 d = true ∧ okds 60 es = true ∧ P (.bl (if neg then !dmem d es else dmem d es))
  | _, _, _ => False
theorem toPs_any (d : D) : ∀ es : List D, ((toPs es).any fun z => PyData.eqv z (toP d)) = dmem d es
  | [] => rfl
  | e :: es => by
    show (PyData.eqv (toP e) (toP d) || (toPs es).any _) = (deq e d || es.any _)
    rw [toPs_any d es]
    rfl
section
variable {K : PySem.W.Frag}
theorem g_in (neg : Bool) : GOp K (rInP K neg) (gIn neg) := by
  intro G H x y d e P Q sm dx dy gp k
  unfold gIn at gp
  split at gp
  · rename_i es
    obtain ⟨o1, o2, p⟩ := gp
    refine ⟨toP d, toPs es, Dp.l2 sm 60 d x dx o1, .inr (show L2.Dp K H y (toP (.tup es)) from Dp.l2 sm 61 _ y dy (by simpa [okd] using o2)), (plain_toP 60 d o1).1, (plain_toPs 60 es o2).1, (plain_toP 60 d o1).2, ?_⟩
    rw [toPs_any]
    exact k _ _ _ _ p (Grow.refl sm) (.bl _)
  · rename_i es
    obtain ⟨o1, o2, p⟩ := gp
    refine ⟨toP d, toPs es, Dp.l2 sm 60 d x dx o1, .inl (show L2.Dp K H y (toP (.lst es)) from Dp.l2 sm 61 _ y dy (by simpa [okd] using o2)), (plain_toP 60 d o1).1, (plain_toPs 60 es o2).1, (plain_toP 60 d o1).2, ?_⟩
    rw [toPs_any]
    exact k _ _ _ _ p (Grow.refl sm) (.bl _)
  · exact gp.elim
end
end DL
set_option Elab.async false
set_option linter.all false
set_option maxRecDepth 100000
set_option maxHeartbeats 4000000
set_option autoImplicit false
/-! The data level: subscripts, slices, calls. -/
namespace DL
open PySem PySem.Spec PyProof.Rows L2

/-! ### subscripts -/
def gIx : D → D → (D → Prop) → Prop
  | .tup xs, .int i, P => match atI xs i with
    | some d => P d
    | none => False
  | .lst xs, .int i, P => match atI xs i with
    | some d => P d
    | none => False
  | .scr ns, .int i, P => match atI ns i with
    | some n => P (.int n)
    | none => False
  | .str z, .int i, P => z.length ≤ sizeLine ∧ match atI z.cps.toList i with
    | some c => P (.str ⟨#[c]⟩)
    | none => False
  | _, _, _ => False
section
variable {K : PySem.W.Frag} {G H : Hp}
theorem Dps.atI {vs : List V} {ds : List D} {i : Int} {d : D} (h : Dps K G vs ds) (e : atI ds i = some d) : ∃ v, L2.atI vs i = some v ∧ Dp K G v d := by
  unfold L2.atI at e ⊢
  rw [← h.len] at e
  cases q : ixN vs.length i with
  | none =>
    rw [q] at e
    cases e
  | some j =>
    rw [q] at e
    exact h.get e
theorem atI_map {ns : List Int} {i n : Int} (e : atI ns i = some n) : atI (ns.map V.int) i = some (.int n) := by
  unfold L2.atI at e ⊢
  rw [List.length_map]
  cases q : ixN ns.length i with
  | none =>
    rw [q] at e
    cases e
  | some j =>
    rw [q] at e
    show (ns.map V.int)[j]? = _
    rw [List.getElem?_map, show ns[j]? = some n from e]
    rfl
theorem g_ix : GOp K (rIx K) gIx := by
  intro G H x y d e P Q sm dx dy gp k
  unfold gIx at gp
  split at gp
  · cases dy
    cases dx with
    | tup a l r =>
      split at gp
      · rename_i z hz
        obtain ⟨v, hv, dv⟩ := r.atI hz
        exact .inr (.inl ⟨_, _, _, v, rfl, rfl, same_t sm a, hv, k _ _ _ _ gp (Grow.refl sm) dv⟩)
      · exact gp.elim
  · cases dy
    cases dx with
    | lst a l r =>
      split at gp
      · rename_i z hz
        obtain ⟨v, hv, dv⟩ := r.atI hz
        exact .inl ⟨_, _, _, v, rfl, rfl, SqL.of (sm _ _ a), hv, k _ _ _ _ gp (Grow.refl sm) dv⟩
      · exact gp.elim
  · cases dy
    cases dx with
    | scr a =>
      split at gp
      · rename_i z hz
        exact .inl ⟨_, _, _, _, rfl, rfl, sm.seq a, atI_map hz, k _ _ _ _ gp (Grow.refl sm) (.int _)⟩
      · exact gp.elim
  · cases dy
    cases dx
    obtain ⟨lz, gp⟩ := gp
    split at gp
    · rename_i z hz
      exact .inr (.inr ⟨_, _, _, rfl, rfl, lz, hz, k _ _ _ _ gp (Grow.refl sm) (.str _)⟩)
    · exact gp.elim
  · exact gp.elim
end
section
variable {X : Cx} {W : WX}
theorem de_ix {a b : Expr} {fa fb : DE} {pos : Pos} (ha : PE X a (lE X.K W fa)) (hb : PE X b (lE X.K W fb)) (hs : PlainIx b := by exact fun _ _ => rfl) : PE X (.Subscript a b pos) (lE X.K W (dBin gIx fa fb)) :=
  pe_imp (pe_ix ix_seq ha hb hs) (bin_core g_ix)
end

/-! ### slices -/
abbrev DO := XP → Env → (Option Int → Env → Prop) → Prop
def lO (K : PySem.W.Frag) (W : WX) (f : DO) : TO := fun σ H Q => ∃ ρ G la P X, Re K G H la σ ρ ∧ f X ρ P ∧ (∀ b ρ' G' la' H', P b ρ' → Aft K G la σ ρ' G' la' H' → Q b H') ∧ XO K G la W X
def dNo : DO := fun _ ρ Q => Q none ρ
def dSo (f : DE) : DO := fun X ρ Q => f X ρ fun d ρ' => match d with
  | .int i => Q (some i) ρ'
  | _ => False
def cutL {α : Type} (xs : List α) (lo hi : Option Int) : List α := (xs.drop (HT.sIx xs.length 0 lo)).take (HT.sIx xs.length xs.length hi - HT.sIx xs.length 0 lo)
def gSl : D → Option Int → Option Int → (D → Prop) → Prop
  | .tup xs, lo, hi, P => P (.tup (cutL xs lo hi))
  | .lst xs, lo, hi, P => P (.lst (cutL xs lo hi))
  | .str z, lo, hi, P => z.length ≤ sizeLine ∧ P (.str (cutS z lo hi))
  | _, _, _, _ => False
def dSl (fe : DE) (fl fh : DO) : DE := fun X ρ Q => fe X ρ fun d ρ1 => fl X ρ1 fun lo ρ2 => fh X ρ2 fun hi ρ3 => gSl d lo hi fun z => Q z ρ3
section
variable {K : PySem.W.Frag} {G H : Hp}
theorem cutL_len {α : Type} (xs : List α) (lo hi : Option Int) : (cutL xs lo hi).length ≤ xs.length := by
  unfold cutL
  rw [List.length_take, List.length_drop]
  omega
theorem cut_dps {vs : List V} {ds : List D} (h : Dps K G vs ds) (lo hi : Option Int) : Dps K G (cutV vs lo hi) (cutL ds lo hi) := by
  unfold cutV cutL
  rw [h.len]
  exact (h.drop _).take _
theorem cut_all {α : Type} {xs : List α} {lo hi : Option Int} (h : HT.sIx xs.length 0 lo = 0 ∧ HT.sIx xs.length xs.length hi = xs.length) : cutL xs lo hi = xs := by
  unfold cutL
  rw [h.1, h.2, List.drop_zero, Nat.sub_zero, List.take_length]
end
section
variable {X : Cx} {W : WX}
theorem do_none : PO X none (lO X.K W dNo) := ⟨fun pins s σ H Q I h => (po_none (X := X)).run pins s σ H Q I (by
  obtain ⟨ρ, G, la, P, XX, r, f, q, _⟩ := h
  exact q _ _ _ _ _ f (Aft.refl r))⟩
theorem do_some {e : Expr} {f : DE} (h : PE X e (lE X.K W f)) : PO X (some e) (lO X.K W (dSo f)) := ⟨fun pins s σ H Q I hq => (po_some h).run pins s σ H Q I (by
  obtain ⟨ρ, G, la, P, XX, r, f, q, xo⟩ := hq
  exact ⟨ρ, G, la, _, XX, r, f, fun d ρ1 v G1 la1 H1 p1 a1 z1 => by
    cases d with
    | int i =>
      cases z1
      exact ⟨i, rfl, q _ _ _ _ _ (show P (some i) ρ1 from p1) a1⟩
    | _ => exact (show False from p1).elim, xo⟩)⟩
theorem de_sl {e : Expr} {lo hi : Option Expr} {fe : DE} {fl fh : DO} {p2 pos : Pos} (he : PE X e (lE X.K W fe)) (hl : PO X lo (lO X.K W fl)) (hh : PO X hi (lO X.K W fh)) : PE X (.Subscript e (.Slice lo hi none p2) pos) (lE X.K W (dSl fe fl fh)) :=
  pe_imp (pe_slice (sl_list.or (sl_tupA.or sl_str)) he hl hh) fun σ H Q ⟨ρ, G, la, P, XX, r, h, q, xo⟩ => ⟨ρ, G, la, _, XX, r, h, fun d ρ1 v G1 la1 H1 p1 a1 z1 => ⟨ρ1, G1, la1, _, XX, a1.r, p1, fun l ρ2 G2 la2 H2 p2 a2 => ⟨ρ2, G2, la2, _, XX, a2.r, p2, fun u ρ3 G3 la3 H3 p3 a3 => by
    have a4 := (a1.trans a2).trans a3
    have dz := (z1.up a2.g).up a3.g
    have sm := a3.r.ext
    have p3' : gSl d l u fun z => P z ρ3 := p3
    unfold gSl at p3'
    split at p3'
    · cases dz with
      | tup a lz rr =>
        refine .inr (.inl ⟨_, _, rfl, same_t sm a, fun w => ?_, fun w p hp => ?_⟩)
        · rw [rr.len] at w
          rw [cut_all w] at p3'
          exact q _ _ _ _ _ _ p3' a4 (.tup a lz rr)
        · exact q _ _ _ _ _ _ p3' (a4.grow (Grow.new sm hp)) (.tup (.inl (.inl upd_same)) (Nat.le_trans (cutV_length _ _ _) lz) ((cut_dps rr _ _).up (Grow.new sm hp).g))
    · cases dz with
      | lst a lz rr =>
        refine .inl ⟨_, _, rfl, SqL.of (sm _ _ a), fun p hp => ?_⟩
        exact q _ _ _ _ _ _ p3' (a4.grow (Grow.new sm hp)) (.lst upd_same (Nat.le_trans (cutV_length _ _ _) lz) ((cut_dps rr _ _).up (Grow.new sm hp).g))
    · cases dz
      exact .inr (.inr ⟨_, rfl, p3'.1, q _ _ _ _ _ _ p3'.2 a4 (.str _)⟩)
    · exact p3'.elim, xo.up (a1.trans a2).g (a1.trans a2).p⟩, xo.up a1.g a1.p⟩, xo⟩
end

/-! ### built-ins that are called -/
/-- r on values does what g does on data -/
def COp (K : PySem.W.Frag) (r : List V → Hp → VK → Prop) (g : List D → (D → Prop) → Prop) : Prop := ∀ (G H : Hp) (vs : List V) (ds : List D) (P : D → Prop) (Q : VK), Same G H → Dps K G vs ds → g ds P →
  (∀ z v G' H', P z → Grow G H G' H' → Dp K G' v z → Q v H') → r vs H Q
def dCB (g : List D → (D → Prop) → Prop) (fa : DA) : DE := fun X ρ Q => fa X ρ fun xs ρ' => match dats xs with
  | some ds => g ds fun z => Q z ρ'
  | none => False
section
variable {X : Cx} {W : WX} {e : Expr} {es : List Expr} {x : Str} {p pos : Pos} {r : List V → Hp → VK → Prop} {g : List D → (D → Prop) → Prop} {fa : DA}
theorem cb_core {K : PySem.W.Frag} {r : List V → Hp → VK → Prop} {g : List D → (D → Prop) → Prop} {fa : DA} (hg : COp K r g) : ∀ (σ : L2.St) (H : Hp) (Q : VK), lE K W (dCB g fa) σ H Q → tCB r (lA K W fa) σ H Q := fun σ H Q ⟨ρ, G, la, P, XX, re, h, q, xo⟩ =>
  ⟨ρ, G, la, _, XX, re, h, fun xs ρ1 vs G1 la1 H1 p1 a1 z1 => by
    have p1' : (match dats xs with
      | some ds => g ds fun z => P z ρ1
      | none => False) := p1
    split at p1'
    · rename_i ds hd
      exact hg G1 H1 vs ds _ Q a1.r.ext (dats_of z1 hd) p1' fun z w G' H' pz gr dz => q _ _ _ _ _ _ pz (a1.grow gr) dz
    · exact p1'.elim, xo⟩
theorem de_cb {id : String} (hc : CallR X (.builtin id) r) (hg : COp X.K r g) (hm : X.mg x = none) (hv : bootBuiltins x = some (.builtin id)) (ha : PA X (e :: es) (lA X.K W fa)) (hgl : Gl X x := by rfl) (hn : x ≠ "__name__" := by decide) (hdb : (x == ("__debug__" : Str)) = false := by decide)
    (he : starEach (e :: es) X.env = (false, eval e X.env) :: starEach es X.env := by rfl) (hpl : (backTo pos (starEach es X.env)).any (·.1) = false := by rfl) : PE X (.Call (.Name x p) (e :: es) [] pos) (lE X.K W (dCB g fa)) :=
  pe_imp (pe_callB hc hgl hm hv ha hn hdb he hpl) (cb_core hg)
theorem de_cty {T : String} (hc : CallR X (.type T) r) (hg : COp X.K r g) (hm : X.mg x = none) (hv : bootBuiltins x = some (.type T)) (ha : PA X (e :: es) (lA X.K W fa)) (hgl : Gl X x := by rfl) (hn : x ≠ "__name__" := by decide) (hdb : (x == ("__debug__" : Str)) = false := by decide)
    (he : starEach (e :: es) X.env = (false, eval e X.env) :: starEach es X.env := by rfl) (hpl : (backTo pos (starEach es X.env)).any (·.1) = false := by rfl) : PE X (.Call (.Name x p) (e :: es) [] pos) (lE X.K W (dCB g fa)) :=
  pe_imp (pe_callTy hc hgl hm hv ha hn hdb he hpl) (cb_core hg)
end
/-- len -/
def gLen : List D → (D → Prop) → Prop
  | [.tup xs], P => P (.int xs.length)
  | [.lst xs], P => P (.int xs.length)
  | [.scr ns], P => P (.int ns.length)
  | [.str z], P => z.length ≤ sizeLine ∧ P (.int z.length)
  | _, _ => False
def gAbs : List D → (D → Prop) → Prop
  | [.int i], P => P (.int (if i < 0 then -i else i))
  | _, _ => False
def gInt : List D → (D → Prop) → Prop
  | [.int i], P => P (.int i)
  | [.bl k], P => P (.int (if k then 1 else 0))
  | _, _ => False
def gMax2 : List D → (D → Prop) → Prop
  | [.int i, .int j], P => P (.int (if j > i then j else i))
  | _, _ => False
def gMin2 : List D → (D → Prop) → Prop
  | [.int i, .int j], P => P (.int (if j < i then j else i))
  | _, _ => False
def gTuple : List D → (D → Prop) → Prop
  | [.tup xs], P => P (.tup xs)
  | [.lst xs], P => P (.tup xs)
  | _, _ => False
def gList : List D → (D → Prop) → Prop
  | [.tup xs], P => P (.lst xs)
  | [.lst xs], P => P (.lst xs)
  | _, _ => False
/-- the ints of a list of data -/
def intsOf : List D → Option (List Int)
  | [] => some []
  | .int i :: r => (intsOf r).map (i :: ·)
  | _ :: _ => none
def maxOf : Int → List Int → Int
  | m, [] => m
  | m, x :: r => maxOf (if x > m then x else m) r
def minOf : Int → List Int → Int
  | m, [] => m
  | m, x :: r => minOf (if x < m then x else m) r
def gMax : List D → (D → Prop) → Prop
  | [.lst xs], P => match intsOf xs with
    | some (n :: ns) => P (.int (maxOf n ns))
    | _ => False
  | _, _ => False
def gMin : List D → (D → Prop) → Prop
  | [.lst xs], P => match intsOf xs with
    | some (n :: ns) => P (.int (minOf n ns))
    | _ => False
  | _, _ => False
/-- isinstance -/
def tyD : D → Option String
  | .non => some "NoneType"
  | .bl _ => some "bool"
  | .int _ => some "int"
  | .str _ => some "str"
  | .tup _ => some "tuple"
  | .lst _ => some "list"
  | _ => none
def isiD (t : String) (n : String) : Bool := t == n || (t == "bool" && n == "int")
def gIsi : List D → (D → Prop) → Prop
  | [d, .raw (.ty n)], P => match tyD d with
    | some t => (n = "int" ∨ n = "bool" ∨ n = "str" ∨ n = "tuple" ∨ n = "list") ∧ P (.bl (isiD t n))
    | none => False
  | _, _ => False
section
variable {K : PySem.W.Frag} {G H : Hp}
theorem intsOf_of : ∀ {vs : List V} {ds : List D} {ns : List Int}, Dps K G vs ds → intsOf ds = some ns → vs = ns.map V.int
  | _, _, _, .nil, h => by
    have e := Option.some.inj h
    subst e
    rfl
  | _, .int i :: r, _, .cons a s, h => by
    have h' : (intsOf r).map (i :: ·) = some _ := h
    obtain ⟨t, ht, e⟩ := Option.map_eq_some_iff.mp h'
    subst e
    cases a
    rw [intsOf_of s ht]
    rfl
  | _, .non :: _, _, .cons _ _, h => by cases h
  | _, .bl _ :: _, _, .cons _ _, h => by cases h
  | _, .str _ :: _, _, .cons _ _, h => by cases h
  | _, .raw _ :: _, _, .cons _ _, h => by cases h
  | _, .tup _ :: _, _, .cons _ _, h => by cases h
  | _, .lst _ :: _, _, .cons _ _, h => by cases h
  | _, .scr _ :: _, _, .cons _ _, h => by cases h
theorem maxOf_ge : ∀ (ns : List Int) (m : Int), m ≤ maxOf m ns ∧ (∀ y ∈ ns, y ≤ maxOf m ns) ∧ (maxOf m ns = m ∨ maxOf m ns ∈ ns)
  | [], m => ⟨Int.le_refl _, fun _ h => by simp at h, .inl rfl⟩
  | x :: r, m => by
    obtain ⟨a, b, c⟩ := maxOf_ge r (if x > m then x else m)
    unfold maxOf
    have hx : x ≤ (if x > m then x else m) ∧ m ≤ (if x > m then x else m) := by split <;> omega
    refine ⟨Int.le_trans hx.2 a, fun y hy => ?_, ?_⟩
    · rcases List.mem_cons.mp hy with e | hy
      · rw [e]
        exact Int.le_trans hx.1 a
      · exact b y hy
    · rcases c with c | c
      · by_cases q : x > m
        · rw [if_pos q] at c
          rw [if_pos q, c]
          exact .inr List.mem_cons_self
        · rw [if_neg q] at c
          rw [if_neg q, c]
          exact .inl rfl
      · exact .inr (List.mem_cons_of_mem _ c)
theorem minOf_le : ∀ (ns : List Int) (m : Int), minOf m ns ≤ m ∧ (∀ y ∈ ns, minOf m ns ≤ y) ∧ (minOf m ns = m ∨ minOf m ns ∈ ns)
  | [], m => ⟨Int.le_refl _, fun _ h => by simp at h, .inl rfl⟩
  | x :: r, m => by
    obtain ⟨a, b, c⟩ := minOf_le r (if x < m then x else m)
    unfold minOf
    have hx : (if x < m then x else m) ≤ x ∧ (if x < m then x else m) ≤ m := by split <;> omega
    refine ⟨Int.le_trans a hx.2, fun y hy => ?_, ?_⟩
    · rcases List.mem_cons.mp hy with e | hy
      · rw [e]
        exact Int.le_trans a hx.1
      · exact b y hy
    · rcases c with c | c
      · by_cases q : x < m
        · rw [if_pos q] at c
          rw [if_pos q, c]
          exact .inr List.mem_cons_self
        · rw [if_neg q] at c
          rw [if_neg q, c]
          exact .inl rfl
      · exact .inr (List.mem_cons_of_mem _ c)
theorem one_of {vs : List V} {d : D} (h : Dps K G vs [d]) : ∃ v, vs = [v] ∧ Dp K G v d := by
  cases h with
  | cons a r =>
    cases r
    exact ⟨_, rfl, a⟩
theorem two_of {vs : List V} {d e : D} (h : Dps K G vs [d, e]) : ∃ v u, vs = [v, u] ∧ Dp K G v d ∧ Dp K G u e := by
  cases h with
  | cons a r =>
    obtain ⟨u, rfl, b⟩ := one_of r
    exact ⟨_, _, rfl, a, b⟩
theorem c_len : COp K (fun xs H Q => ∃ x n, xs = [x] ∧ LenV K x H n ∧ Q (.int n) H) gLen := by
  intro G H vs ds P Q sm h gp k
  unfold gLen at gp
  split at gp
  · obtain ⟨v, rfl, a⟩ := one_of h
    cases a with
    | tup a l r =>
      rw [← r.len] at gp
      exact ⟨_, _, rfl, .inr ⟨_, same_t sm a, rfl⟩, k _ _ _ _ gp (Grow.refl sm) (.int _)⟩
  · obtain ⟨v, rfl, a⟩ := one_of h
    cases a with
    | lst a l r =>
      rw [← r.len] at gp
      exact ⟨_, _, rfl, .inl ⟨_, SqL.of (sm _ _ a), rfl⟩, k _ _ _ _ gp (Grow.refl sm) (.int _)⟩
  · obtain ⟨v, rfl, a⟩ := one_of h
    cases a with
    | scr a =>
      refine ⟨_, _, rfl, .inl ⟨_, sm.seq a, rfl⟩, ?_⟩
      rw [List.length_map]
      exact k _ _ _ _ gp (Grow.refl sm) (.int _)
  · obtain ⟨v, rfl, a⟩ := one_of h
    cases a
    exact ⟨_, _, rfl, ⟨gp.1, rfl⟩, k _ _ _ _ gp.2 (Grow.refl sm) (.int _)⟩
  · exact gp.elim
theorem c_abs : COp K (fun xs H Q => ∃ i, xs = [.int i] ∧ Q (.int (if i < 0 then -i else i)) H) gAbs := by
  intro G H vs ds P Q sm h gp k
  unfold gAbs at gp
  split at gp
  · obtain ⟨v, rfl, a⟩ := one_of h
    cases a
    exact ⟨_, rfl, k _ _ _ _ gp (Grow.refl sm) (.int _)⟩
  · exact gp.elim
theorem c_int : COp K (fun xs H Q => (∃ i, xs = [.int i] ∧ Q (.int i) H) ∨ ∃ k, xs = [.bl k] ∧ Q (.int (if k then 1 else 0)) H) gInt := by
  intro G H vs ds P Q sm h gp k
  unfold gInt at gp
  split at gp
  · obtain ⟨v, rfl, a⟩ := one_of h
    cases a
    exact .inl ⟨_, rfl, k _ _ _ _ gp (Grow.refl sm) (.int _)⟩
  · obtain ⟨v, rfl, a⟩ := one_of h
    cases a
    exact .inr ⟨_, rfl, k _ _ _ _ gp (Grow.refl sm) (.int _)⟩
  · exact gp.elim
theorem c_max2 : COp K (fun xs H Q => ∃ i j, xs = [.int i, .int j] ∧ Q (.int (if j > i then j else i)) H) gMax2 := by
  intro G H vs ds P Q sm h gp k
  unfold gMax2 at gp
  split at gp
  · obtain ⟨v, u, rfl, a, b⟩ := two_of h
    cases a
    cases b
    exact ⟨_, _, rfl, k _ _ _ _ gp (Grow.refl sm) (.int _)⟩
  · exact gp.elim
theorem c_min2 : COp K (fun xs H Q => ∃ i j, xs = [.int i, .int j] ∧ Q (.int (if j < i then j else i)) H) gMin2 := by
  intro G H vs ds P Q sm h gp k
  unfold gMin2 at gp
  split at gp
  · obtain ⟨v, u, rfl, a, b⟩ := two_of h
    cases a
    cases b
    exact ⟨_, _, rfl, k _ _ _ _ gp (Grow.refl sm) (.int _)⟩
  · exact gp.elim
theorem c_tuple : COp K (fun xs H Q => ∃ p ys, xs = [.ref p] ∧ ((SqL K H p ys ∧ ∀ l, H l = none → Q (.ref l) (upd H l (.tup ys))) ∨ (SqT K H p ys ∧ Q (.ref p) H))) gTuple := by
  intro G H vs ds P Q sm h gp k
  unfold gTuple at gp
  split at gp
  · obtain ⟨v, rfl, a⟩ := one_of h
    cases a with
    | tup a l r => exact ⟨_, _, rfl, .inr ⟨same_t sm a, k _ _ _ _ gp (Grow.refl sm) (.tup a l r)⟩⟩
  · obtain ⟨v, rfl, a⟩ := one_of h
    cases a with
    | lst a l r =>
      refine ⟨_, _, rfl, .inl ⟨SqL.of (sm _ _ a), fun p hp => ?_⟩⟩
      exact k _ _ _ _ gp (Grow.new sm hp) (.tup (.inl (.inl upd_same)) l (r.up (Grow.new sm hp).g))
  · exact gp.elim
theorem c_list : COp K (fun xs H Q => ∃ p ys, xs = [.ref p] ∧ (SqL K H p ys ∨ SqT K H p ys) ∧ ∀ l, H l = none → Q (.ref l) (upd H l (.lst ys))) gList := by
  intro G H vs ds P Q sm h gp k
  unfold gList at gp
  split at gp
  · obtain ⟨v, rfl, a⟩ := one_of h
    cases a with
    | tup a l r =>
      refine ⟨_, _, rfl, .inr (same_t sm a), fun p hp => ?_⟩
      exact k _ _ _ _ gp (Grow.new sm hp) (.lst upd_same l (r.up (Grow.new sm hp).g))
  · obtain ⟨v, rfl, a⟩ := one_of h
    cases a with
    | lst a l r =>
      refine ⟨_, _, rfl, .inl (SqL.of (sm _ _ a)), fun p hp => ?_⟩
      exact k _ _ _ _ gp (Grow.new sm hp) (.lst upd_same l (r.up (Grow.new sm hp).g))
  · exact gp.elim
theorem c_max : COp K (rMax K) gMax := by
  intro G H vs ds P Q sm h gp k
  unfold gMax at gp
  split at gp
  · obtain ⟨v, rfl, a⟩ := one_of h
    split at gp
    · rename_i n ns hn
      cases a with
      | lst a l r =>
        have e := intsOf_of r hn
        subst e
        refine ⟨_, n :: ns, rfl, SqL.of (sm _ _ a), Nat.succ_pos _, fun m hm hle => ?_⟩
        obtain ⟨c1, c2, c3⟩ := maxOf_ge ns n
        have em : m = maxOf n ns := by
          have h1 : maxOf n ns ≤ m := by
            rcases c3 with c3 | c3
            · rw [c3]
              exact hle n List.mem_cons_self
            · exact hle _ (List.mem_cons_of_mem _ c3)
          have h2 : m ≤ maxOf n ns := by
            rcases List.mem_cons.mp hm with e | hm
            · rw [e]
              exact c1
            · exact c2 m hm
          omega
        rw [em]
        exact k _ _ _ _ gp (Grow.refl sm) (.int _)
    · exact gp.elim
  · exact gp.elim
theorem c_min : COp K (rMin K) gMin := by
  intro G H vs ds P Q sm h gp k
  unfold gMin at gp
  split at gp
  · obtain ⟨v, rfl, a⟩ := one_of h
    split at gp
    · rename_i n ns hn
      cases a with
      | lst a l r =>
        have e := intsOf_of r hn
        subst e
        refine ⟨_, n :: ns, rfl, SqL.of (sm _ _ a), Nat.succ_pos _, fun m hm hle => ?_⟩
        obtain ⟨c1, c2, c3⟩ := minOf_le ns n
        have em : m = minOf n ns := by
          have h1 : m ≤ minOf n ns := by
            rcases c3 with c3 | c3
            · rw [c3]
              exact hle n List.mem_cons_self
            · exact hle _ (List.mem_cons_of_mem _ c3)
          have h2 : minOf n ns ≤ m := by
            rcases List.mem_cons.mp hm with e | hm
            · rw [e]
              exact c1
            · exact c2 m hm
          omega
        rw [em]
        exact k _ _ _ _ gp (Grow.refl sm) (.int _)
    · exact gp.elim
  · exact gp.elim
theorem tyx_t {H : Hp} {p : Addr} {vs : List V} (h : SqT K H p vs) : TyX K H (.ref p) (.type "tuple") := by
  rcases h with (h | ⟨o, h⟩) | ⟨o, its, n, hk, hc, _⟩
  · exact .base (.tup h)
  · exact .fTuple h
  · exact .kTuple hk hc
theorem kit_isi {K : PySem.W.Frag} : ∀ {t n : String}, (t = "NoneType" ∨ t = "bool" ∨ t = "int" ∨ t = "str" ∨ t = "tuple" ∨ t = "list") → (n = "int" ∨ n = "bool" ∨ n = "str" ∨ n = "tuple" ∨ n = "list") → PySem.W.kitOne K (.type t) (.type n) = some (isiD t n) := by
  intro t n ht hn
  rcases ht with rfl | rfl | rfl | rfl | rfl | rfl <;> rcases hn with rfl | rfl | rfl | rfl | rfl <;> exact kit_ty (by decide +kernel)
theorem c_isi : COp K (rIsi K) gIsi := by
  intro G H vs ds P Q sm h gp k
  unfold gIsi at gp
  split at gp
  · rename_i d n
    obtain ⟨v, u, rfl, a, b⟩ := two_of h
    split at gp
    · rename_i t ht
      cases b
      have key : TyX K H v (.type t) ∧ (t = "NoneType" ∨ t = "bool" ∨ t = "int" ∨ t = "str" ∨ t = "tuple" ∨ t = "list") := by
        cases a with
        | non => have e := Option.some.inj ht; subst e; exact ⟨.base .non, by simp⟩
        | bl b => have e := Option.some.inj ht; subst e; exact ⟨.base (.bl b), by simp⟩
        | int i => have e := Option.some.inj ht; subst e; exact ⟨.base (.int i), by simp⟩
        | str z => have e := Option.some.inj ht; subst e; exact ⟨.base (.str z), by simp⟩
        | tup a l r => have e := Option.some.inj ht; subst e; exact ⟨tyx_t (same_t sm a), by simp⟩
        | lst a l r => have e := Option.some.inj ht; subst e; exact ⟨.base (.lst (sm _ _ a)), by simp⟩
        | raw _ => cases ht
        | scr _ => cases ht
      exact ⟨v, .ty n, .type t, .type n, isiD t n, rfl, .ty n, key.1, kit_isi key.2 gp.1, k _ _ _ _ gp.2 (Grow.refl sm) (.bl _)⟩
    · exact gp.elim
  · exact gp.elim
end
section
variable {X : Cx} {W : WX} {e e2 : Expr} {p pos : Pos} {fa : DA}
theorem de_len (hm : X.mg "len" = none) (ha : PA X [e] (lA X.K W fa)) (hgl : Gl X "len" := by rfl) (he : starEach [e] X.env = (false, eval e X.env) :: starEach [] X.env := by rfl) : PE X (.Call (.Name "len" p) [e] [] pos) (lE X.K W (dCB gLen fa)) :=
  de_cb call_len c_len hm PySem.boot_len ha hgl (by decide) (by decide) he rfl
theorem de_ty {x : Str} {n : String} {pos : Pos} (hm : X.mg x = none) (hv : bootBuiltins x = some (.type n)) (hg : Gl X x := by rfl) (hn : x ≠ "__name__" := by decide) (hd : (x == ("__debug__" : Str)) = false := by decide) : PE X (.Name x pos) (lE X.K W (dC (.raw (.ty n)))) :=
  de_c (pe_bltn (v := .ty n) hg hm hv rfl hn hd) fun _ _ => .raw _
end
end DL
set_option Elab.async false
set_option linter.all false
set_option maxRecDepth 100000
set_option maxHeartbeats 4000000
set_option autoImplicit false
/-! The data level: targets, what is walked, comprehensions, statements, calls of defs. -/
namespace DL
open PySem PySem.Spec PyProof.Rows L2

/-! ### targets -/
/-- the slots agree but at is_ -/
def Eqw (is_ : List Nat) (σ σ' : L2.St) : Prop := σ.length = σ'.length ∧ ∀ j : Nat, j ∉ is_ → σ[j]? = σ'[j]?
theorem Eqw.refl (is_ : List Nat) (σ : L2.St) : Eqw is_ σ σ := ⟨rfl, fun _ _ => rfl⟩
theorem Eqw.trans {is_ js : List Nat} {σ σ1 σ2 : L2.St} (a : Eqw is_ σ σ1) (b : Eqw js σ1 σ2) : Eqw (is_ ++ js) σ σ2 :=
  ⟨a.1.trans b.1, fun j hj => (a.2 j fun z => hj (List.mem_append_left _ z)).trans (b.2 j fun z => hj (List.mem_append_right _ z))⟩
theorem wipe_get (σ : L2.St) : ∀ (vs : List Nat) (j : Nat), (wipe σ vs)[j]? = if j ∈ vs ∧ j < σ.length then some none else σ[j]?
  | [], j => by simp [wipe]
  | v :: vs, j => by
    unfold wipe
    rw [List.getElem?_set]
    have ih := wipe_get σ vs j
    by_cases h : v = j
    · subst h
      rw [wipe_length]
      by_cases hl : v < σ.length
      · simp [hl]
      · simp [hl]
    · rw [if_neg h, ih]
      by_cases hm : j ∈ vs ∧ j < σ.length
      · rw [if_pos hm, if_pos ⟨List.mem_cons_of_mem _ hm.1, hm.2⟩]
      · rw [if_neg hm, if_neg]
        rintro ⟨h1, h2⟩
        rcases List.mem_cons.mp h1 with e | h1
        · exact h e.symm
        · exact hm ⟨h1, h2⟩
theorem Eqw.wipe {is_ vs : List Nat} {σ σ' : L2.St} (a : Eqw is_ σ σ') (h : ∀ i ∈ is_, i ∈ vs) : L2.wipe σ' vs = L2.wipe σ vs := by
  apply List.ext_getElem?
  intro j
  rw [wipe_get, wipe_get, ← a.1]
  by_cases hm : j ∈ vs ∧ j < σ.length
  · rw [if_pos hm, if_pos hm]
  · rw [if_neg hm, if_neg hm]
    by_cases hj : j ∈ is_
    · have h1 : ¬ j < σ.length := fun z => hm ⟨h j hj, z⟩
      have h2 := a.1
      rw [List.getElem?_eq_none (by omega), List.getElem?_eq_none (by omega)]
    · exact (a.2 j hj).symm
theorem wipe_wipe {σ σ' : L2.St} {vs : List Nat} (h : L2.wipe σ' vs = L2.wipe (L2.wipe σ vs) vs) : L2.wipe σ' vs = L2.wipe σ vs := by
  rw [h]
  apply List.ext_getElem?
  intro j
  rw [wipe_get, wipe_get, wipe_length]
  by_cases hm : j ∈ vs ∧ j < σ.length
  · rw [if_pos hm, if_pos hm]
  · rw [if_neg hm, if_neg hm]

def lG (K : PySem.W.Frag) (is_ : List Nat) (g : DG) : TG := fun v σ H Q => ∃ ρ G la d P, Re K G H la σ ρ ∧ Dp K G v d ∧ g d ρ P ∧ ∀ ρ' σ', P ρ' → Re K G H la σ' ρ' → Eqw is_ σ σ' → Q σ' H
abbrev DGs := List D → Env → (Env → Prop) → Prop
def lGs (K : PySem.W.Frag) (is_ : List Nat) (g : DGs) : TGs := fun vs σ H Q => ∃ ρ G la ds P, Re K G H la σ ρ ∧ Dps K G vs ds ∧ g ds ρ P ∧ ∀ ρ' σ', P ρ' → Re K G H la σ' ρ' → Eqw is_ σ σ' → Q σ' H
def gNm (i : Nat) : DG := fun d ρ Q => Q ⟨ρ.T, ρ.s.set i (some (.dat d))⟩
def gNl : DGs := fun ds ρ Q => match ds with
  | [] => Q ρ
  | _ => False
def gCs (t : DG) (u : DGs) : DGs := fun ds ρ Q => match ds with
  | d :: r => t d ρ fun ρ' => u r ρ' Q
  | _ => False
/-- (a, b, ..) = a tuple of so many -/
def gTp (n : Nat) (u : DGs) : DG := fun d ρ Q => match d with
  | .tup ds => ds.length = n ∧ u ds ρ Q
  | _ => False
theorem pg_imp {X : Cx} {e : Expr} {t t' : TG} (h : PG X e t) (w : ∀ v σ H Q, t' v σ H Q → t v σ H Q) : PG X e t' := ⟨fun pins s σ H v u Q I r q => h.run pins s σ H v u Q I r (w v σ H Q q)⟩
theorem pgs_imp {X : Cx} {es : List Expr} {t t' : TGs} (h : PGs X es t) (w : ∀ v σ H Q, t' v σ H Q → t v σ H Q) : PGs X es t' := ⟨fun pins s σ H v u Q I r q => h.run pins s σ H v u Q I r (w v σ H Q q)⟩
section
variable {X : Cx}
theorem dg_name (i : Nat) {x : Str} {pos : Pos} (hN : X.N.Nodup) (hi : X.N[i]? = some x := by rfl) (hx : Loc X.env.scope x := by first | exact Or.inl rfl | exact Or.inr rfl) (hf : X.fn x = true ∨ X.env.scope.names.lookup x = some .local := by first | exact .inl rfl | exact .inr rfl | assumption) :
    PG X (.Name x pos) (lG X.K [i] (gNm i)) := pg_imp (pg_name (i := i) hN hi hx hf) fun v σ H Q ⟨ρ, G, la, d, P, r, dp, g, q⟩ => q _ _ g (r.set (x := .dat d) dp) ⟨by simp, fun j hj => by
      have hj' : j ≠ i := by simpa using hj
      rw [List.getElem?_set_ne (Ne.symm hj')]⟩
theorem dgs_nil : PGs X [] (lGs X.K [] gNl) := pgs_imp pgs_nil fun v σ H Q ⟨ρ, G, la, ds, P, r, dp, g, q⟩ => by
  cases dp with
  | nil => exact ⟨rfl, q _ _ (show P ρ from g) r (Eqw.refl _ _)⟩
  | cons _ _ => exact (show False from g).elim
theorem dgs_cons {e : Expr} {es : List Expr} {t : DG} {u : DGs} {is_ js : List Nat} (h1 : PG X e (lG X.K is_ t)) (h2 : PGs X es (lGs X.K js u)) (hs : (assignEach (e :: es) X.env).map (·.2) = assign e X.env :: (assignEach es X.env).map (·.2) := by rfl) :
    PGs X (e :: es) (lGs X.K (is_ ++ js) (gCs t u)) := pgs_imp (pgs_cons h1 h2 hs) fun v σ H Q ⟨ρ, G, la, ds, P, r, dp, g, q⟩ => by
  cases dp with
  | nil => exact (show False from g).elim
  | cons a b =>
    refine ⟨_, _, rfl, ρ, G, la, _, _, r, a, g, fun ρ1 σ1 p1 r1 w1 => ⟨ρ1, G, la, _, P, r1, b, p1, fun ρ2 σ2 p2 r2 w2 => q ρ2 σ2 p2 r2 (w1.trans w2)⟩⟩
theorem dg_tup {es : List Expr} {k : Nat} {u : DGs} {n : Nat} {is_ : List Nat} {pos : Pos} (hc : X.calm = true) (h : PGs X es (lGs X.K is_ u)) (hn : (assignEach es X.env).length = n := by rfl) (hst : (assignEach es X.env).findIdx? (·.1) = none := by rfl) :
    PG X (.Tuple es k pos) (lG X.K is_ (gTp n u)) := pg_imp (pg_tup hc h hn hst) fun v σ H Q ⟨ρ, G, la, d, P, r, dp, g, q⟩ => by
  cases dp with
  | tup a l b =>
    have g' : _ ∧ u _ ρ P := g
    exact ⟨_, _, rfl, same_t r.ext a, by rw [b.len]; exact g'.1, ρ, G, la, _, P, r, b, g'.2, q⟩
  | _ => exact (show False from g).elim
end

/-! ### what is walked -/
/-- J gives the data ds, one a turn -/
structure WalkD (K : PySem.W.Frag) (J : It) (G : Hp) (ds : List D) : Prop where
  goes : ∀ (i : Nat) (H : Hp), i < ds.length → Same G H → J.go i H
  stops : ∀ H, Same G H → J.stop ds.length H
  yields : ∀ (i : Nat) (G' H : Hp) (x : V) (H' : Hp), Same G G' → Same G' H → J.yld i H x H' → ∀ d, ds[i]? = some d → ∃ G1, Grow G' H G1 H' ∧ Dp K G1 x d
def lI (K : PySem.W.Frag) (W : WX) (f : DI) : TI := fun σ H R => ∃ ρ G la P X, Re K G H la σ ρ ∧ f X ρ P ∧ (∀ ds ρ' G' la' H' J, P ds ρ' → Aft K G la σ ρ' G' la' H' → WalkD K J G' ds → ds.length ≤ 2 ^ 62 → R J H') ∧ XO K G la W X
theorem pi_imp {X : Cx} {tg e : Expr} {t t' : TI} (h : PI X tg e t) (w : ∀ σ H R, t' σ H R → t σ H R) : PI X tg e t' := ⟨fun pins s σ H R I q => h.run pins s σ H R I (w σ H R q)⟩
/-- a list or a tuple -/
def iSeq (K : PySem.W.Frag) (tl : TE) : TI := fun σ H R => tl σ H fun x H1 => ∃ a xs, x = .ref a ∧ ((SqL K H1 a xs ∧ R (Itl K a) H1) ∨ (SqT K H1 a xs ∧ R (Itt K a) H1))
theorem pi_seq {X : Cx} {tg l : Expr} {tl : TE} (hl : PE X l tl) : PI X tg l (iSeq X.K tl) := by
  constructor
  intro pins s σ H R I h
  refine thn (hl.run pins s σ H _ I h) ?_
  rintro v s1 ⟨x, H1, I1, r1, a, xs, rfl, q⟩
  cases r1
  have fp : ∀ b ∈ [s1.heap.objs.size], FpOk X pins H1 b := fun b hb => by
    obtain rfl : b = s1.heap.objs.size := by simpa using hb
    exact I1.fpOk (Nat.le_refl _) (I1.hok.fresh (Nat.le_refl _))
  rcases q with ⟨hq, q⟩ | ⟨hq, q⟩
  · obtain ⟨its, rv, p, hz⟩ := I1.list hq
    exact wpAny_pyIter_list p.isList ⟨_, [s1.heap.objs.size], _, _, H1, rfl, I1.kept (t' := s1.toks) fun b o e => Heap.get?_push_of_some _ e, turn_list a _, ⟨_, Heap.get?_push_size _ rfl, rfl, rfl⟩, fp, q⟩
  · obtain ⟨its, rv, p, hz⟩ := I1.tuple hq
    exact wpAny_pyIter_tuple (show s1.heap.IsTuple a its.toArray from p) ⟨_, [s1.heap.objs.size], _, _, H1, rfl, I1.kept (t' := s1.toks) fun b o e => Heap.get?_push_of_some _ e, turn_tuple a _, ⟨_, Heap.get?_push_size _ rfl, rfl, rfl⟩, fp, q⟩
def dSeq (f : DE) : DI := fun X ρ Q => f X ρ fun d ρ' => match d with
  | .tup ds => Q ds ρ'
  | .lst ds => Q ds ρ'
  | _ => False
theorem line62 : sizeLine ≤ 2 ^ 62 := by rw [sizeLine_eq]; decide
section
variable {K : PySem.W.Frag} {G H : Hp}
theorem walkD_l {p : Addr} {vs : List V} {ds : List D} (h : G p = some (.lst vs)) (d : Dps K G vs ds) : WalkD K (Itl K p) G ds := by
  refine ⟨fun i H hi e => ⟨vs, vs[i]'(by rw [d.len]; exact hi), SqL.of (e _ _ h), by simp [d.len, hi]⟩, fun H e => ⟨vs, SqL.of (e _ _ h), by rw [d.len]; exact Nat.le_refl _⟩, fun i G' H x H' e e' y z hz => ?_⟩
  obtain ⟨rfl, y⟩ := y
  have hx := y vs (SqL.of (e' _ _ (e _ _ h)))
  obtain ⟨d', hd, dd⟩ := d.getV hx
  rw [hz] at hd
  have q := Option.some.inj hd
  subst q
  exact ⟨G', Grow.refl e', dd.up e⟩
theorem walkD_t {p : Addr} {vs : List V} {ds : List D} (h : SqT K G p vs) (d : Dps K G vs ds) : WalkD K (Itt K p) G ds := by
  refine ⟨fun i H hi e => ⟨vs, vs[i]'(by rw [d.len]; exact hi), same_t e h, by simp [d.len, hi]⟩, fun H e => ⟨vs, same_t e h, by rw [d.len]; exact Nat.le_refl _⟩, fun i G' H x H' e e' y z hz => ?_⟩
  obtain ⟨rfl, y⟩ := y
  have hx := y vs (same_t (e.trans e') h)
  obtain ⟨d', hd, dd⟩ := d.getV hx
  rw [hz] at hd
  have q := Option.some.inj hd
  subst q
  exact ⟨G', Grow.refl e', dd.up e⟩
end
section
variable {X : Cx} {W : WX} {tg : Expr}
theorem di_seq {e : Expr} {f : DE} (h : PE X e (lE X.K W f)) : PI X tg e (lI X.K W (dSeq f)) :=
  pi_imp (pi_seq h) fun σ H R ⟨ρ, G, la, P, XX, r, h, q, xo⟩ => ⟨ρ, G, la, _, XX, r, h, fun d ρ1 v G1 la1 H1 p1 a1 z1 => by
    cases z1 with
    | tup a l b => exact ⟨_, _, rfl, .inr ⟨same_t a1.r.ext a, q _ _ _ _ _ _ (show P _ ρ1 from p1) a1 (walkD_t a b) (by rw [← b.len]; exact Nat.le_trans l line62)⟩⟩
    | lst a l b => exact ⟨_, _, rfl, .inl ⟨SqL.of (a1.r.ext _ _ a), q _ _ _ _ _ _ (show P _ ρ1 from p1) a1 (walkD_l a b) (by rw [← b.len]; exact Nat.le_trans l line62)⟩⟩
    | _ => exact (show False from p1).elim, xo⟩
/-- the ints from lo to hi - 1 -/
def rangeD (lo hi : Int) : List D := (List.range (hi - lo).toNat).map fun (k : Nat) => .int (lo + k)
theorem rangeD_len (lo hi : Int) : (rangeD lo hi).length = (hi - lo).toNat := by simp [rangeD]
theorem walkD_r {K : PySem.W.Frag} {G : Hp} (lo : Int) (n : Nat) : WalkD K (Itr lo n) G ((List.range n).map fun (k : Nat) => .int (lo + k)) := by
  refine ⟨fun i H hi _ => by show i < n; simpa using hi, fun H _ => by show n ≤ _; simp, fun i G' H x H' e e' y z hz => ?_⟩
  obtain ⟨rfl, rfl⟩ := y
  rw [List.getElem?_map] at hz
  cases q : (List.range n)[i]? with
  | none =>
    rw [q] at hz
    cases hz
  | some j =>
    rw [q] at hz
    have e1 : i = j := by
      have := List.getElem?_range (n := n) (i := i) (by
        obtain ⟨h1, _⟩ := List.getElem?_eq_some_iff.mp q
        simpa using h1)
      rw [q] at this
      exact (Option.some.inj this).symm
    subst e1
    have e2 : D.int (lo + i) = z := Option.some.inj hz
    subst e2
    exact ⟨G', Grow.refl e', .int _⟩
def dRng1 (fa : DA) : DI := fun X ρ Q => fa X ρ fun ss ρ' => match ss with
  | [.dat (.int j)] => (-(2 ^ 62) ≤ j ∧ j < 2 ^ 62) ∧ Q (rangeD 0 j) ρ'
  | _ => False
def dRng2 (fa : DA) : DI := fun X ρ Q => fa X ρ fun ss ρ' => match ss with
  | [.dat (.int i), .dat (.int j)] => (-(2 ^ 61) ≤ i ∧ i < 2 ^ 61 ∧ -(2 ^ 61) ≤ j ∧ j < 2 ^ 61) ∧ Q (rangeD i j) ρ'
  | _ => False
theorem di_range1 {a : Expr} {fa : DA} {p pos : Pos} (hm : X.mg "range" = none) (ha : PA X [a] (lA X.K W fa)) (hg : Gl X "range" := by rfl) (hs : starEach [a] X.env = [(false, eval a X.env)] := by rfl) : PI X tg (.Call (.Name "range" p) [a] [] pos) (lI X.K W (dRng1 fa)) :=
  pi_imp (pi_range1 hg hm ha hs) fun σ H R ⟨ρ, G, la, P, XX, r, h, q, xo⟩ => ⟨ρ, G, la, _, XX, r, h, fun xs ρ1 vs G1 la1 H1 p1 a1 z1 => by
    have p1' : (match (generalizing := false) xs with
      | [.dat (.int j)] => (-(2 ^ 62) ≤ j ∧ j < 2 ^ 62) ∧ P (rangeD 0 j) ρ1
      | _ => False) := p1
    split at p1'
    · rename_i j
      cases z1 with
      | cons a b =>
        cases b
        cases (show Dp _ _ _ (.int j) from a)
        refine ⟨j, rfl, p1'.1.1, p1'.1.2, q _ _ _ _ _ _ p1'.2 a1 ?_ (by rw [rangeD_len]; omega)⟩
        unfold rangeD
        rw [Int.sub_zero]
        exact walkD_r 0 j.toNat
    · exact p1'.elim, xo⟩
theorem di_range2 {a b : Expr} {fa : DA} {p pos : Pos} (hm : X.mg "range" = none) (ha : PA X [a, b] (lA X.K W fa)) (hg : Gl X "range" := by rfl) (hs : starEach [a, b] X.env = [(false, eval a X.env), (false, eval b X.env)] := by rfl) (hs2 : starEach [b] X.env = [(false, eval b X.env)] := by rfl) :
    PI X tg (.Call (.Name "range" p) [a, b] [] pos) (lI X.K W (dRng2 fa)) :=
  pi_imp (pi_range2 hg hm ha hs hs2) fun σ H R ⟨ρ, G, la, P, XX, r, h, q, xo⟩ => ⟨ρ, G, la, _, XX, r, h, fun xs ρ1 vs G1 la1 H1 p1 a1 z1 => by
    have p1' : (match (generalizing := false) xs with
      | [.dat (.int i), .dat (.int j)] => (-(2 ^ 61) ≤ i ∧ i < 2 ^ 61 ∧ -(2 ^ 61) ≤ j ∧ j < 2 ^ 61) ∧ P (rangeD i j) ρ1
      | _ => False) := p1
    split at p1'
    · rename_i i j
      cases z1 with
      | cons a b =>
        cases b with
        | cons b c =>
          cases c
          cases (show Dp _ _ _ (.int i) from a)
          cases (show Dp _ _ _ (.int j) from b)
          obtain ⟨⟨b1, b2, b3, b4⟩, p2⟩ := p1'
          refine ⟨i, j, rfl, ⟨by omega, by omega, by omega, by omega⟩, q _ _ _ _ _ _ p2 a1 (walkD_r i (j - i).toNat) (by rw [rangeD_len]; omega)⟩
    · exact p1'.elim, xo⟩
/-- zip of two lists, of two tuples -/
def zipD : List D → List D → List D
  | x :: xs, y :: ys => .tup [x, y] :: zipD xs ys
  | _, _ => []
theorem zipD_len : ∀ xs ys : List D, (zipD xs ys).length = min xs.length ys.length
  | [], _ => by simp [zipD]
  | _ :: _, [] => by simp [zipD]
  | _ :: xs, _ :: ys => by
    simp only [zipD, List.length_cons, zipD_len xs ys]
    omega
theorem zipD_get : ∀ (xs ys : List D) (i : Nat) (d : D), (zipD xs ys)[i]? = some d → ∃ x y, xs[i]? = some x ∧ ys[i]? = some y ∧ d = .tup [x, y]
  | [], _, i, d, h => by simp [zipD] at h
  | _ :: _, [], i, d, h => by simp [zipD] at h
  | x :: xs, y :: ys, 0, d, h => ⟨x, y, rfl, rfl, (Option.some.inj h).symm⟩
  | _ :: xs, _ :: ys, i + 1, d, h => zipD_get xs ys i d h
def dZip (fa : DA) : DI := fun X ρ Q => fa X ρ fun ss ρ' => match ss with
  | [.dat (.tup a), .dat (.tup b)] => Q (zipD a b) ρ'
  | [.dat (.lst a), .dat (.lst b)] => Q (zipD a b) ρ'
  | _ => False
theorem pair_dp {K : PySem.W.Frag} {G H : Hp} {T : Addr} {x y : V} {d e : D} (sm : Same G H) (hT : H T = none) (a : Dp K G x d) (b : Dp K G y e) : ∃ G1, Grow G H G1 (upd H T (.tup [x, y])) ∧ Dp K G1 (.ref T) (.tup [d, e]) :=
  ⟨_, Grow.new sm hT, .tup (.inl (.inl upd_same)) (by show 2 ≤ sizeLine; decide) (.cons (a.up (Grow.new sm hT).g) (.cons (b.up (Grow.new sm hT).g) .nil))⟩
theorem di_zip {e e2 : Expr} {fa : DA} {p pos tpos : Pos} {elts : List Expr} {kk : Nat} (hm : X.mg "zip" = none) (ha : PA X [e, e2] (lA X.K W fa)) (hg : Gl X "zip" := by rfl) (hs : starEach [e, e2] X.env = (false, eval e X.env) :: starEach [e2] X.env := by rfl) (hpl : (backTo pos (starEach [e2] X.env)).any (·.1) = false := by rfl) :
    PI X (.Tuple elts kk tpos) (.Call (.Name "zip" p) [e, e2] [] pos) (lI X.K W (dZip fa)) :=
  pi_imp (RZ.pi_zipA hg hm ha hs hpl) fun σ H R ⟨ρ, G, la, P, XX, r, h, q, xo⟩ => ⟨ρ, G, la, _, XX, r, h, fun xs ρ1 vs G1 la1 H1 p1 a1 z1 => by
    have p1' : (match (generalizing := false) xs with
      | [.dat (.tup a), .dat (.tup b)] => P (zipD a b) ρ1
      | [.dat (.lst a), .dat (.lst b)] => P (zipD a b) ρ1
      | _ => False) := p1
    split at p1'
    · rename_i da db
      cases z1 with
      | cons a b =>
        cases b with
        | cons b c =>
          cases c
          cases (show Dp _ _ _ (.tup da) from a) with
          | tup ha la_ ra =>
            cases (show Dp _ _ _ (.tup db) from b) with
            | tup hb lb rb =>
              rename_i pa va pb vb
              refine ⟨_, _, va, vb, rfl, .inr ⟨same_t a1.r.ext ha, same_t a1.r.ext hb, q _ _ _ _ _ _ p1' a1 ⟨fun i H hi e => ?_, fun H e => ?_, fun i G' H x H' e e' y z hz => ?_⟩ ?_⟩⟩
              · rw [zipD_len] at hi
                have h1 : i < va.length := by rw [ra.len]; omega
                have h2 : i < vb.length := by rw [rb.len]; omega
                exact ⟨va, vb, va[i], vb[i], same_t e ha, same_t e hb, by simp [h1], by simp [h2]⟩
              · refine ⟨va, vb, same_t e ha, same_t e hb, ?_⟩
                rw [zipD_len, ra.len, rb.len]
                omega
              · obtain ⟨T, u, w, rfl, hT, rfl, f1, f2⟩ := y
                obtain ⟨dx, dy, h1, h2, rfl⟩ := zipD_get _ _ _ _ hz
                obtain ⟨d1, g1, k1⟩ := ra.getV (f1 va (same_t (e.trans e') ha))
                obtain ⟨d2, g2, k2⟩ := rb.getV (f2 vb (same_t (e.trans e') hb))
                rw [h1] at g1
                rw [h2] at g2
                have q1 := Option.some.inj g1
                have q2 := Option.some.inj g2
                subst q1 q2
                exact pair_dp e' hT (k1.up e) (k2.up e)
              · rw [zipD_len, ← ra.len]
                exact Nat.le_trans (Nat.min_le_left _ _) (Nat.le_trans la_ line62)
    · rename_i da db
      cases z1 with
      | cons a b =>
        cases b with
        | cons b c =>
          cases c
          cases (show Dp _ _ _ (.lst da) from a) with
          | lst ha la_ ra =>
            cases (show Dp _ _ _ (.lst db) from b) with
            | lst hb lb rb =>
              rename_i pa va pb vb
              refine ⟨_, _, va, vb, rfl, .inl ⟨SqL.of (a1.r.ext _ _ ha), SqL.of (a1.r.ext _ _ hb), q _ _ _ _ _ _ p1' a1 ⟨fun i H hi e => ?_, fun H e => ?_, fun i G' H x H' e e' y z hz => ?_⟩ ?_⟩⟩
              · rw [zipD_len] at hi
                have h1 : i < va.length := by rw [ra.len]; omega
                have h2 : i < vb.length := by rw [rb.len]; omega
                exact ⟨va, vb, va[i], vb[i], SqL.of (e _ _ ha), SqL.of (e _ _ hb), by simp [h1], by simp [h2]⟩
              · refine ⟨va, vb, SqL.of (e _ _ ha), SqL.of (e _ _ hb), ?_⟩
                rw [zipD_len, ra.len, rb.len]
                omega
              · obtain ⟨T, u, w, rfl, hT, rfl, f1, f2⟩ := y
                obtain ⟨dx, dy, h1, h2, rfl⟩ := zipD_get _ _ _ _ hz
                obtain ⟨d1, g1, k1⟩ := ra.getV (f1 va (SqL.of (e' _ _ (e _ _ ha))))
                obtain ⟨d2, g2, k2⟩ := rb.getV (f2 vb (SqL.of (e' _ _ (e _ _ hb))))
                rw [h1] at g1
                rw [h2] at g2
                have q1 := Option.some.inj g1
                have q2 := Option.some.inj g2
                subst q1 q2
                exact pair_dp e' hT (k1.up e) (k2.up e)
              · rw [zipD_len, ← ra.len]
                exact Nat.le_trans (Nat.min_le_left _ _) (Nat.le_trans la_ line62)
    · exact p1'.elim, xo⟩
end
end DL
set_option Elab.async false
set_option linter.all false
set_option maxRecDepth 100000
set_option maxHeartbeats 4000000
set_option autoImplicit false
/-! The data level: comprehensions, statements, calls of defs, defs. -/
namespace DL
open PySem PySem.Spec PyProof.Rows L2

/-! ### comprehensions -/
def X0 : XP := fun _ _ => False
def W0 : WX := fun _ _ _ _ => False
def wipeS (s : List (Option Sl)) : List Nat → List (Option Sl)
  | [] => s
  | v :: vs => (wipeS s vs).set v none
/-- the turns of a comprehension; the list that is made stands in the table at k -/
def compD (g : DG) (t : DT) (e : DE) (own : List Nat) (k : Nat) : List D → Env → (Env → Prop) → Prop
  | [], ρ, Q => Q ρ
  | d :: ds, ρ, Q => g d ⟨ρ.T, wipeS ρ.s own⟩ fun ρ1 => t X0 ρ1 fun b ρ2 => if b = true then e X0 ρ2 fun y ρ3 => match ρ3.T[k]? with
      | some (.lst acc) => acc.length < sizeLine ∧ compD g t e own k ds ⟨ρ3.T.set k (.lst (acc ++ [y])), ρ3.s⟩ Q
      | _ => False
    else compD g t e own k ds ρ2 Q
def dYes : DT := fun _ ρ Q => Q true ρ
def lTs (K : PySem.W.Frag) (W : WX) (f : DT) : TT := lT K W f

section
variable {K : PySem.W.Frag} {G G' G2 H H' H2 : Hp} {la la' la2 : List Addr} {σ σ' : L2.St} {ρ ρ' ρ2 : Env} {W : WX} {X : XP} {T : List Ob}
theorem wipeS_len (s : List (Option Sl)) : ∀ vs : List Nat, (wipeS s vs).length = s.length
  | [] => rfl
  | v :: vs => by
    unfold wipeS
    rw [List.length_set, wipeS_len s vs]
theorem wipeS_some {s : List (Option Sl)} {i : Nat} {x : Sl} : ∀ {vs : List Nat}, (wipeS s vs)[i]? = some (some x) → s[i]? = some (some x) ∧ i ∉ vs
  | [], h => ⟨h, by simp⟩
  | v :: vs, h => by
    unfold wipeS at h
    by_cases hi : v = i
    · subst hi
      rw [List.getElem?_set] at h
      split at h
      · split at h <;> cases h
      · rename_i n
        exact absurd rfl n
    · rw [List.getElem?_set_ne hi] at h
      obtain ⟨h1, h2⟩ := wipeS_some h
      exact ⟨h1, by simp only [List.mem_cons, not_or]; exact ⟨fun e => hi e.symm, h2⟩⟩
theorem wipe_keep {i : Nat} {v : V} : ∀ {vs : List Nat}, i ∉ vs → (L2.wipe σ vs)[i]? = σ[i]?
  | [], _ => rfl
  | w :: vs, h => by
    unfold L2.wipe
    have h1 : w ≠ i := fun e => h (by rw [e]; exact List.mem_cons_self)
    rw [List.getElem?_set_ne h1]
    exact wipe_keep (v := v) fun z => h (List.mem_cons_of_mem _ z)
/-- the own slots forgotten at both -/
theorem Re.wipe (r : Re K G H la σ ρ) (vs : List Nat) : Re K G H la (L2.wipe σ vs) ⟨ρ.T, wipeS ρ.s vs⟩ :=
  ⟨r.tb, by rw [L2.wipe_length]; exact (wipeS_len _ _).trans r.sl, fun i x h => by
    obtain ⟨h1, h2⟩ := wipeS_some h
    obtain ⟨v, a, b⟩ := r.at_ i x h1
    exact ⟨v, (wipe_keep (v := v) h2).trans a, b⟩⟩
/-- back in the outer slots -/
theorem Re.unwipe {σ : L2.St} {vs : List Nat} (r : Re K G H la (L2.wipe σ vs) ρ) : Re K G H la σ ⟨ρ.T, wipeS ρ.s vs⟩ :=
  ⟨r.tb, (wipeS_len _ _).trans (r.sl.trans (L2.wipe_length _ _)), fun i x h => by
    obtain ⟨h1, h2⟩ := wipeS_some h
    obtain ⟨v, a, b⟩ := r.at_ i x h1
    exact ⟨v, (wipe_keep (v := v) h2).symm.trans a, b⟩⟩
theorem Re.dropS (r : Re K G H la σ ρ) (vs : List Nat) : Re K G H la σ ⟨ρ.T, wipeS ρ.s vs⟩ :=
  ⟨r.tb, (wipeS_len _ _).trans r.sl, fun i x h => r.at_ i x (wipeS_some h).1⟩
theorem wipe_idem (σ : L2.St) (vs : List Nat) : L2.wipe (L2.wipe σ vs) vs = L2.wipe σ vs := by
  apply List.ext_getElem?
  intro j
  rw [wipe_get, wipe_get, wipe_length]
  by_cases hm : j ∈ vs ∧ j < σ.length
  · rw [if_pos hm, if_pos hm]
  · rw [if_neg hm, if_neg hm]
theorem Rl.take (r : Rl K G H la T) (n : Nat) : Rl K G H (la.take n) (T.take n) :=
  ⟨r.ext, r.nd.sublist (List.take_sublist _ _), by simp [r.len], (fun k a o h1 h2 => by
    rw [List.getElem?_take] at h1 h2
    split at h1
    · rename_i hk
      rw [if_pos hk] at h2
      exact r.tab k a o h1 h2
    · cases h1), fun k a h => by
      rw [List.getElem?_take] at h
      split at h
      · exact r.there k a h
      · cases h⟩
theorem pre_take (p : la <+: la') : la'.take la.length = la := by
  obtain ⟨t, rfl⟩ := p
  exact List.take_left
theorem SlR.take {v : V} {n : Nat} : ∀ {x : Sl}, SlR K G la v x → (∀ k, x = .ob k → k < n) → SlR K G (la.take n) v x
  | .dat d, h, _ => h
  | .ob k, ⟨a, h, e⟩, hk => ⟨a, by
    rw [List.getElem?_take, if_pos (hk k rfl)]
    exact h, e⟩
/-- the list made so far is done: it is data, the table is what it was -/
theorem comp_done {acc : List D} {n : Nat} {a : Addr} (r : Re K G H la σ ρ) (hn : n < la.length) (ha : la[n]? = some a) (hk : ρ.T[n]? = some (.lst acc)) (hs : ∀ (i k : Nat), ρ.s[i]? = some (some (Sl.ob k)) → k < n) :
    ∃ G', Same G G' ∧ Dp K G' (.ref a) (.lst acc) ∧ Re K G' H (la.take n) σ ⟨ρ.T.take n, ρ.s⟩ := by
  obtain ⟨vs, hH, gn, s1, dp, rl⟩ := r.tb.freeze ha hk
  refine ⟨_, s1, dp, ?_, r.sl, fun i x h => ?_⟩
  · have q := rl.take n
    have e : (ρ.T.set n .dead).take n = ρ.T.take n := by
      rw [List.take_set]
      exact List.set_eq_of_length_le (by rw [List.length_take]; omega)
    rw [e] at q
    exact q
  · obtain ⟨v, b, c⟩ := r.at_ i x h
    exact ⟨v, b, (c.grow s1 List.prefix_rfl).take fun k e => hs i k (by rw [← e]; exact h)⟩
end

/-- own objects that stand in no slot from n on -/
def lowS (n : Nat) (s : List (Option Sl)) : Bool := s.all fun x => match x with
  | some (.ob k) => decide (k < n)
  | _ => true
def dComp (fi : DI) (g : DG) (t : DT) (e : DE) (own : List Nat) : DE := fun X ρ Q => fi X ρ fun ds ρ1 => compD g t e own ρ1.T.length ds ⟨ρ1.T ++ [.lst []], wipeS ρ1.s own⟩ fun ρ2 => match ρ2.T[ρ1.T.length]? with
  | some (.lst acc) => lowS ρ1.T.length (wipeS ρ2.s own) = true ∧ Q (.lst acc) ⟨ρ2.T.take ρ1.T.length, wipeS ρ2.s own⟩
  | _ => False
theorem lowS_at {n : Nat} {s : List (Option Sl)} (h : lowS n s = true) : ∀ (i k : Nat), s[i]? = some (some (Sl.ob k)) → k < n := fun i k e => by
  have q := List.all_eq_true.mp h _ (List.mem_of_getElem? e)
  simpa using q
section
variable {X : Cx} {W : WX}
theorem comp_core {K : PySem.W.Frag} {fi : DI} {g : DG} {t : DT} {e : DE} {own is_ : List Nat} (hio : ∀ i ∈ is_, i ∈ own) : ∀ (σ : L2.St) (H : Hp) (Q : VK), lE K W (dComp fi g t e own) σ H Q → tLc (lI K W fi) (lG K is_ g) (lT K W0 t) (lE K W0 e) own σ H Q := fun σ H Q ⟨ρ, G, la, P, XX, re, h, q, xo⟩ =>
  ⟨ρ, G, la, _, XX, re, h, fun ds ρ1 G1 la1 H1 J p1 a1 wk lz Dn hD => by
    have l1 : la1.length = ρ1.T.length := a1.r.tb.len
    have fr := a1.r.tb.fresh (xs := []) (vs := []) hD (Nat.zero_le _) .nil
    let fin : Env → Prop := fun ρ2 => match ρ2.T[ρ1.T.length]? with
      | some (.lst acc) => lowS ρ1.T.length (wipeS ρ2.s own) = true ∧ P (.lst acc) ⟨ρ2.T.take ρ1.T.length, wipeS ρ2.s own⟩
      | _ => False
    have p1' : compD g t e own ρ1.T.length ds ⟨ρ1.T ++ [.lst []], wipeS ρ1.s own⟩ fin := p1
    -- the invariant
    let Wt : Nat → Nat → Hp → Prop := fun i m H2 => m + i = ds.length ∧ ∃ ρ2 G2 la2, Aft K G1 (la1 ++ [Dn]) (L2.wipe σ own) ρ2 G2 la2 H2 ∧ compD g t e own ρ1.T.length (ds.drop i) ρ2 fin
    have r0 : Re K G1 (upd H1 Dn (.lst [])) (la1 ++ [Dn]) (L2.wipe σ own) ⟨ρ1.T ++ [.lst []], wipeS ρ1.s own⟩ := by
      have rr : Re K G1 (upd H1 Dn (.lst [])) (la1 ++ [Dn]) σ ⟨ρ1.T ++ [.lst []], ρ1.s⟩ := ⟨fr, a1.r.sl, fun i x hx => by
        obtain ⟨v, b, c⟩ := a1.r.at_ i x hx
        exact ⟨v, b, c.grow (Same.refl _) (List.prefix_append _ _)⟩⟩
      exact rr.wipe own
    refine ⟨Wt, ⟨ds.length, by simp, ⟨ρ1.T ++ [.lst []], wipeS ρ1.s own⟩, G1, la1 ++ [Dn], Aft.refl r0, by simpa using p1'⟩, ?_⟩
    rintro i m H2 ⟨hm, ρ2, G2, la2, a2, c2⟩
    by_cases hi : i < ds.length
    · right
      have ed : ds.drop i = ds[i] :: ds.drop (i + 1) := List.drop_eq_getElem_cons hi
      rw [ed] at c2
      refine ⟨wk.goes i H2 hi (a2.g.trans a2.r.ext), fun H3 => ∃ ρ3 G3 la3, Aft K G1 (la1 ++ [Dn]) (L2.wipe σ own) ρ3 G3 la3 H3 ∧ compD g t e own ρ1.T.length (ds.drop (i + 1)) ρ3 fin, fun H3 ⟨ρ3, G3, la3, a3, c3⟩ => ⟨m - 1, by omega, by omega, ρ3, G3, la3, a3, c3⟩, fun x H3 y => ?_⟩
      obtain ⟨G3, gr, dx⟩ := wk.yields i G2 H2 x H3 a2.g a2.r.ext y ds[i] (List.getElem?_eq_getElem hi)
      have a3 := a2.grow gr
      refine ⟨_, G3, la2, ds[i], _, (a3.r.dropS own), dx, c2, fun ρ4 σ4 p4 r4 w4 => ⟨?_, ρ4, G3, la2, _, X0, r4, p4, fun b ρ5 G5 la5 H5 p5 a5 => ?_, fun _ _ _ _ _ _ _ _ z => z.elim⟩⟩
      · exact (w4.wipe hio).trans (wipe_idem _ _)
      · have wso : L2.wipe σ4 own = L2.wipe σ own := by
          exact (w4.wipe hio).trans (wipe_idem _ _)
        -- behind a turn: the own slots forgotten
        have back : ∀ {ρx : Env} {Gx : Hp} {lx : List Addr} {Hx : Hp}, Same G1 Gx → la1 ++ [Dn] <+: lx → Re K Gx Hx lx σ4 ρx → Aft K G1 (la1 ++ [Dn]) (L2.wipe σ own) ⟨ρx.T, wipeS ρx.s own⟩ Gx lx Hx := fun g1 g2 g3 => ⟨g1, g2, by
          have q := g3.wipe own
          rw [wso] at q
          exact q⟩
        have p5' : if b = true then e X0 ρ5 fun y ρ3 => match ρ3.T[ρ1.T.length]? with
            | some (.lst acc) => acc.length < sizeLine ∧ compD g t e own ρ1.T.length (ds.drop (i + 1)) ⟨ρ3.T.set ρ1.T.length (.lst (acc ++ [y])), ρ3.s⟩ fin
            | _ => False
          else compD g t e own ρ1.T.length (ds.drop (i + 1)) ρ5 fin := p5
        have cw : ∀ {ρx : Env}, compD g t e own ρ1.T.length (ds.drop (i + 1)) ρx fin → compD g t e own ρ1.T.length (ds.drop (i + 1)) ⟨ρx.T, wipeS ρx.s own⟩ fin := by
          intro ρx hx
          have ww : wipeS (wipeS ρx.s own) own = wipeS ρx.s own := by
            have idem : ∀ (s : List (Option Sl)) (vs : List Nat), (∀ v ∈ vs, v < s.length → s[v]? = some none) → wipeS s vs = s := by
              intro s vs
              induction vs with
              | nil => intro _; rfl
              | cons v vs ih =>
                intro hv
                unfold wipeS
                rw [ih fun u hu => hv u (List.mem_cons_of_mem _ hu)]
                apply List.ext_getElem?
                intro j
                rw [List.getElem?_set]
                split
                · rename_i hj
                  split
                  · rename_i hl
                    rw [← hj, hv v List.mem_cons_self hl]
                  · rename_i hl
                    rw [← hj, List.getElem?_eq_none (by omega)]
                · rfl
            have at_ : ∀ (s : List (Option Sl)) (vs : List Nat), ∀ v ∈ vs, v < s.length → (wipeS s vs)[v]? = some none := by
              intro s vs
              induction vs with
              | nil => intro v hv; simp at hv
              | cons u vs ih =>
                intro v hv hl
                unfold wipeS
                rw [List.getElem?_set]
                split
                · rw [if_pos (by rw [wipeS_len]; omega)]
                · rename_i hne
                  rcases List.mem_cons.mp hv with e | hv
                  · exact absurd e.symm hne
                  · exact ih v hv hl
            exact idem _ _ fun v hv hl => at_ _ _ v hv (by rwa [wipeS_len] at hl)
          cases hd : ds.drop (i + 1) with
          | nil =>
            rw [hd] at hx
            have hx' : fin ρx := hx
            show fin ⟨ρx.T, wipeS ρx.s own⟩
            show (match ρx.T[ρ1.T.length]? with
              | some (.lst acc) => lowS ρ1.T.length (wipeS (wipeS ρx.s own) own) = true ∧ P (.lst acc) ⟨ρx.T.take ρ1.T.length, wipeS (wipeS ρx.s own) own⟩
              | _ => False)
            rw [ww]
            exact hx'
          | cons d2 ds2 =>
            rw [hd] at hx
            show g d2 ⟨ρx.T, wipeS (wipeS ρx.s own) own⟩ _
            rw [ww]
            exact hx
        cases b with
        | false =>
          refine iteF ?_
          have p6 : compD g t e own ρ1.T.length (ds.drop (i + 1)) ρ5 fin := p5'
          exact ⟨⟨ρ5.T, wipeS ρ5.s own⟩, G5, la5, back ((a2.g.trans gr.g).trans a5.g) (a2.p.trans a5.p) a5.r, cw p6⟩
        | true =>
          refine iteT ?_
          have p6 : e X0 ρ5 fun y ρ3 => match ρ3.T[ρ1.T.length]? with
            | some (.lst acc) => acc.length < sizeLine ∧ compD g t e own ρ1.T.length (ds.drop (i + 1)) ⟨ρ3.T.set ρ1.T.length (.lst (acc ++ [y])), ρ3.s⟩ fin
            | _ => False := p5'
          refine ⟨ρ5, G5, la5, _, X0, a5.r, p6, fun y ρ7 v7 G7 la7 H7 p7 a7 z7 => ?_, fun _ _ _ _ _ _ _ _ z => z.elim⟩
          have p7' : (match (generalizing := false) ρ7.T[ρ1.T.length]? with
            | some (.lst acc) => acc.length < sizeLine ∧ compD g t e own ρ1.T.length (ds.drop (i + 1)) ⟨ρ7.T.set ρ1.T.length (.lst (acc ++ [y])), ρ7.s⟩ fin
            | _ => False) := p7
          split at p7'
          · rename_i acc hk
            have pp : la1 ++ [Dn] <+: la7 := (a2.p.trans a5.p).trans a7.p
            have hla : la7[ρ1.T.length]? = some Dn := by
              obtain ⟨tl, rfl⟩ := pp
              rw [List.append_assoc, List.getElem?_append_right (by omega), ← l1, Nat.sub_self]
              rfl
            obtain ⟨gn, vs, hH, lv, dv⟩ := a7.r.tb.tab _ _ _ hla hk
            refine ⟨vs, hH, by rw [dv.len]; exact p7'.1, ?_⟩
            have wr := a7.r.tb.write (ws := vs ++ [v7]) (ys := acc ++ [y]) hla hk (by rw [List.length_append, List.length_singleton, dv.len]; exact p7'.1) (dv.app (.cons z7 .nil))
            have r8 : Re K G7 (upd H7 Dn (.lst (vs ++ [v7]))) la7 σ4 ⟨ρ7.T.set ρ1.T.length (.lst (acc ++ [y])), ρ7.s⟩ := ⟨wr, a7.r.sl, a7.r.at_⟩
            exact ⟨⟨ρ7.T.set ρ1.T.length (.lst (acc ++ [y])), wipeS ρ7.s own⟩, G7, la7, back (ρx := ⟨ρ7.T.set ρ1.T.length (.lst (acc ++ [y])), ρ7.s⟩) (((a2.g.trans gr.g).trans a5.g).trans a7.g) pp r8, cw (ρx := ⟨ρ7.T.set ρ1.T.length (.lst (acc ++ [y])), ρ7.s⟩) p7'.2⟩
          · exact p7'.elim
    · left
      have ei : i = ds.length := by omega
      subst ei
      rw [List.drop_length] at c2
      have c3 : fin ρ2 := c2
      refine ⟨wk.stops H2 (a2.g.trans a2.r.ext), ?_⟩
      have c3' : (match (generalizing := false) ρ2.T[ρ1.T.length]? with
        | some (.lst acc) => lowS ρ1.T.length (wipeS ρ2.s own) = true ∧ P (.lst acc) ⟨ρ2.T.take ρ1.T.length, wipeS ρ2.s own⟩
        | _ => False) := c3
      split at c3'
      · rename_i acc hk
        have hla : la2[ρ1.T.length]? = some Dn := by
          obtain ⟨tl, e2⟩ := a2.p
          rw [← e2, List.append_assoc, List.getElem?_append_right (by omega), ← l1, Nat.sub_self]
          rfl
        have hlt : ρ1.T.length < la2.length := (List.getElem?_eq_some_iff.mp hla).1
        obtain ⟨G3, s3, d3, r3⟩ := comp_done (ρ := ⟨ρ2.T, wipeS ρ2.s own⟩) a2.r.unwipe hlt hla hk (lowS_at c3'.1)
        have et : la2.take ρ1.T.length = la1 := by
          rw [← l1]
          exact pre_take ((List.prefix_append _ _).trans a2.p)
        rw [et] at r3
        exact q _ _ _ _ _ _ c3'.2 ⟨(a1.g.trans a2.g).trans s3, a1.p, r3⟩ d3
      · exact c3'.elim, xo⟩
end
end DL
set_option Elab.async false
set_option linter.all false
set_option maxRecDepth 100000
set_option maxHeartbeats 4000000
set_option autoImplicit false
/-! The data level: statements, calls of defs, defs. -/
namespace DL
open PySem PySem.Spec PyProof.Rows L2

/-! ### comprehensions as expressions -/
section
variable {X : Cx} {W : WX}
theorem dts_nil : PTs X [] (lT X.K W dYes) := ⟨fun pins s σ H Q I h => (pts_nil (X := X)).run pins s σ H Q I (by
  obtain ⟨ρ, G, la, P, XX, r, f, q, _⟩ := h
  exact q _ _ _ _ _ f (Aft.refl r))⟩
theorem dts_one {c : Expr} {t : DT} (h : PT X c (lT X.K W t)) : PTs X [c] (lT X.K W t) := pts_one h
theorem takes0' {X : Cx} : Takes X W0 := takes0
theorem de_comp {elt tg iter : Expr} {ifs : List Expr} {scope : Scope} {own : List (Str × Nat)} {pos : Pos} {fi : DI} {g : DG} {t : DT} {e : DE} {is_ : List Nat} (hc : X.calm = true) (hN : X.N.Nodup) (hi : PI X tg iter (lI X.K W fi)) (ok : blkC X.N X.env.scope scope own = true)
    (hg : ∀ (s : Shared) (H : Hp) (C : Addr) (cl : List (Str × Addr)) (fp : List Addr), PG (X.blk s H scope (compEnvC scope cl C X.env) fp) tg (lG X.K is_ g)) (ht : ∀ (s : Shared) (H : Hp) (C : Addr) (cl : List (Str × Addr)) (fp : List Addr), PTs (X.blk s H scope (compEnvC scope cl C X.env) fp) ifs (lT X.K W0 t))
    (he : ∀ (s : Shared) (H : Hp) (C : Addr) (cl : List (Str × Addr)) (fp : List Addr), PE (X.blk s H scope (compEnvC scope cl C X.env) fp) elt (lE X.K W0 e)) (hio : ∀ i ∈ is_, i ∈ own.map (·.2) := by decide) (hs : ∀ x, foldedSetIterable iter X.env x = pure x := by intro _; rfl) :
    PE X (.ListComp elt [⟨tg, iter, ifs, 0⟩] scope pos) (lE X.K W (dComp fi g t e (own.map (·.2)))) :=
  pe_imp (pe_lc hc hN hi (blkOk_by ok) hg ht he hs) (comp_core hio)
end

theorem pre_at {α : Type} {l l' : List α} {i : Nat} {a : α} (p : l <+: l') (h : l[i]? = some a) : l'[i]? = some a := by
  obtain ⟨t, rfl⟩ := p
  rw [List.getElem?_append_left (List.getElem?_eq_some_iff.mp h).1]
  exact h
/-! ### statements -/
def sNil : DS := fun E ρ => E.nx ρ
def sSeq (a b : DS) : DS := fun E ρ => a { E with nx := b E } ρ
def sSet (i : Nat) (f : DL') : DS := fun E ρ => f E.xn ρ fun x ρ' => E.nx ⟨ρ'.T, ρ'.s.set i (some x)⟩
def sRet (f : DL') : DS := fun E ρ => f E.xn ρ E.rt
def sRetN : DS := fun E ρ => E.rt (.dat .non) ρ
def sDrop (f : DL') : DS := fun E ρ => f E.xn ρ fun _ ρ' => E.nx ρ'
def sIf (t : DT) (a b : DS) : DS := fun E ρ => t E.xn ρ fun c ρ' => if c = true then a E ρ' else b E ρ'
def loopD (g : DG) (B : DS) (E : DN) : List D → Env → Prop
  | [], ρ => E.nx ρ
  | d :: ds, ρ => g d ρ fun ρ' => B { E with nx := loopD g B E ds, ct := loopD g B E ds, bk := E.nx } ρ'
def sFor (fi : DI) (g : DG) (B : DS) : DS := fun E ρ => fi E.xn ρ fun ds ρ' => loopD g B E ds ρ'
def sWhile (t : DT) (B : DS) : DS := fun E ρ => ∃ V : Nat → Env → Prop, (∃ m, V m ρ) ∧ ∀ m ρ, V m ρ → t E.xn ρ fun b ρ' => if b = true then B { E with nx := fun ρ2 => ∃ m', m' < m ∧ V m' ρ2, ct := fun ρ2 => ∃ m', m' < m ∧ V m' ρ2, bk := E.nx } ρ' else E.nx ρ'
def sPar2 (i j : Nat) (f g : DL') : DS := fun E ρ => f E.xn ρ fun x ρ1 => g E.xn ρ1 fun y ρ2 => E.nx ⟨ρ2.T, (ρ2.s.set i (some x)).set j (some y)⟩
def sPar3 (i j l : Nat) (f g h : DL') : DS := fun E ρ => f E.xn ρ fun x ρ1 => g E.xn ρ1 fun y ρ2 => h E.xn ρ2 fun z ρ3 => E.nx ⟨ρ3.T, ((ρ3.s.set i (some x)).set j (some y)).set l (some z)⟩
def sTo (f : DE) (g : DG) : DS := fun E ρ => f E.xn ρ fun d ρ' => g d ρ' E.nx
/-- x.append(e), x a name -/
def sApp (i : Nat) (f : DE) : DS := fun E ρ => match ρ.s[i]? with
  | some (some (.ob k)) => match ρ.T[k]? with
    | some (.lst _) => f E.xn ρ fun d ρ' => match ρ'.T[k]? with
      | some (.lst xs) => xs.length < sizeLine ∧ E.nx ⟨ρ'.T.set k (.lst (xs ++ [d])), ρ'.s⟩
      | _ => False
    | _ => False
  | _ => False
/-- x[j] = e, x a name -/
def sSetIx (i : Nat) (fj fv : DE) : DS := fun E ρ => fv E.xn ρ fun d ρ1 => match ρ1.s[i]? with
  | some (some (.ob k)) => fj E.xn ρ1 fun z ρ2 => match z, ρ2.T[k]? with
    | .int j, some (.lst xs) => match ixN xs.length j with
      | some m => E.nx ⟨ρ2.T.set k (.lst (xs.set m d)), ρ2.s⟩
      | none => False
    | _, _ => False
  | _ => False
/-- x[j] of a list that may change, x a name -/
def dIxO (i : Nat) (fj : DE) : DE := fun X ρ Q => match ρ.s[i]? with
  | some (some (.ob k)) => fj X ρ fun z ρ' => match z, ρ'.T[k]? with
    | .int j, some (.lst xs) => match atI xs j with
      | some d => Q d ρ'
      | none => False
    | _, _ => False
  | _ => False
def dLenO (i : Nat) : DE := fun X ρ Q => match ρ.s[i]? with
  | some (some (.ob k)) => match ρ.T[k]? with
    | some (.lst xs) => Q (.int xs.length) ρ
    | _ => False
  | _ => False
def sNever : DS := fun _ _ => False

section
variable {X : Cx} {W : WX} {st : Stmt} {rest : List Stmt} {pos : Pos}
theorem dss_nil : PSs X [] (lS X.K W sNil) := pss_imp pss_nil fun D σ H ⟨ρ, G, la, E, r, f, b⟩ => b.nx _ _ _ _ _ f (Aft.refl r)
theorem dss_cons {f g : DS} (h1 : PS X st (lS X.K W f)) (h2 : PSs X rest (lS X.K W g)) : PSs X (st :: rest) (lS X.K W (sSeq f g)) := pss_imp (pss_cons h1 h2) fun D σ H ⟨ρ, G, la, E, r, f, b⟩ =>
  ⟨ρ, G, la, _, r, f, ⟨fun ρ' σ' G' la' H' p a => ⟨ρ', G', la', E, a.r, p, b.up a.g a.p⟩, b.bk, b.ct, b.rt, b.xn⟩⟩
theorem dss_one {f : DS} (h : PS X st (lS X.K W f)) : PSs X [st] (lS X.K W f) := pss_one h
theorem ds_pass : PS X (.Pass pos) (lS X.K W sNil) := ps_imp ps_pass fun D σ H ⟨ρ, G, la, E, r, f, b⟩ => b.nx _ _ _ _ _ f (Aft.refl r)
theorem set_core {i : Nat} {f : DL'} : ∀ (D : Ends) (σ : L2.St) (H : Hp), lS X.K W (sSet i f) D σ H → tAsg (lL X.K W f) (gName i) D σ H := fun D σ H ⟨ρ, G, la, E, r, f, b⟩ =>
  ⟨ρ, G, la, _, _, r, f, fun x ρ' v G' la' H' p a z => b.nx _ _ _ _ _ p ⟨a.g, a.p, a.r.set z⟩, b.xn⟩
theorem ds_set (i : Nat) {x : Str} {e : Expr} {f : DL'} {pos' : Pos} (hN : X.N.Nodup) (he : PE X e (lL X.K W f)) (hi : X.N[i]? = some x := by rfl) (hx : Loc X.env.scope x := by first | exact Or.inl rfl | exact Or.inr rfl) (hs : swapsWith e (some (.Name x pos')) pos.line X.env = pure false := by rfl)
    (hf : X.fn x = true ∨ X.env.scope.names.lookup x = some .local := by first | exact .inl rfl | exact .inr rfl | assumption) : PS X (.Assign [.Name x pos'] e pos) (lS X.K W (sSet i f)) := ps_imp (ps_set hN hi hx he hs hf) set_core
theorem ds_setC (i : Nat) {y : Str} {py : Pos} {elt tg iter : Expr} {ifs : List Expr} {scope : Scope} {own : List (Str × Nat)} {pos spos : Pos} {fi : DI} {g : DG} {t : DT} {e : DE} {is_ : List Nat} (hc : X.calm = true) (hN : X.N.Nodup) (hi : PI X tg iter (lI X.K W fi)) (ok : blkC X.N X.env.scope scope own = true)
    (hg : ∀ (s : Shared) (H : Hp) (C : Addr) (cl : List (Str × Addr)) (fp : List Addr), PG (X.blk s H scope (compEnvC scope cl C X.env) fp) tg (lG X.K is_ g)) (ht : ∀ (s : Shared) (H : Hp) (C : Addr) (cl : List (Str × Addr)) (fp : List Addr), PTs (X.blk s H scope (compEnvC scope cl C X.env) fp) ifs (lT X.K W0 t))
    (he : ∀ (s : Shared) (H : Hp) (C : Addr) (cl : List (Str × Addr)) (fp : List Addr), PE (X.blk s H scope (compEnvC scope cl C X.env) fp) elt (lE X.K W0 e)) (hy : X.N[i]? = some y := by rfl) (hyl : X.env.scope.names.lookup y = some .local := by rfl)
    (hsw : swapsWith (.ListComp elt [⟨tg, iter, ifs, 0⟩] scope pos) (some (.Name y py)) spos.line X.env = pure true := by exact sw_true rfl rfl rfl (by decide +kernel)) (hio : ∀ i ∈ is_, i ∈ own.map (·.2) := by decide) (hs : ∀ x, foldedSetIterable iter X.env x = pure x := by intro _; rfl) :
    PS X (.Assign [.Name y py] (.ListComp elt [⟨tg, iter, ifs, 0⟩] scope pos) spos) (lS X.K W (sSet i (dDat (dComp fi g t e (own.map (·.2)))))) :=
  ps_imp (ps_setLc hc hN hy hyl hsw hi (blkOk_by ok) hg ht he hs) fun D σ H ⟨ρ, G, la, E, r, f, b⟩ => comp_core hio σ H _ ⟨ρ, G, la, fun d ρ' => E.nx ⟨ρ'.T, ρ'.s.set i (some (.dat d))⟩, _, r, f, fun d ρ' v G' la' H' p a z => b.nx _ _ _ _ _ p ⟨a.g, a.p, a.r.set (x := .dat d) z⟩, b.xn⟩
theorem ds_ret {e : Expr} {f : DL'} (he : PE X e (lL X.K W f)) : PS X (.Return (some e) pos) (lS X.K W (sRet f)) := ps_imp (ps_ret he) fun D σ H ⟨ρ, G, la, E, r, f, b⟩ => ⟨ρ, G, la, _, _, r, f, fun x ρ' v G' la' H' p a z => b.rt _ _ _ _ _ _ _ p a z, b.xn⟩
theorem ds_retN : PS X (.Return none pos) (lS X.K W sRetN) := ps_imp ps_retN fun D σ H ⟨ρ, G, la, E, r, f, b⟩ => b.rt _ _ _ _ _ _ _ f (Aft.refl r) (show Dp _ _ _ .non from .non)
theorem ds_expr {e : Expr} {f : DL'} (he : PE X e (lL X.K W f)) (hs : swapsWith e none pos.line X.env = pure false := by rfl) : PS X (.Expr e pos) (lS X.K W (sDrop f)) := ps_imp (ps_expr he hs) fun D σ H ⟨ρ, G, la, E, r, f, b⟩ => ⟨ρ, G, la, _, _, r, f, fun x ρ' v G' la' H' p a z => b.nx _ _ _ _ _ p a, b.xn⟩
theorem ds_doc {x j pos pos'} : PS X (.Expr (.Constant (.str x) j pos) pos') (lS X.K W sNil) := ps_imp ps_doc fun D σ H ⟨ρ, G, la, E, r, f, b⟩ => b.nx _ _ _ _ _ f (Aft.refl r)
theorem ds_if {c : Expr} {a b : List Stmt} {t : DT} {f g : DS} (hc : PT X c (lT X.K W t)) (ha : PSs X a (lS X.K W f)) (hb : PSs X b (lS X.K W g)) : PS X (.If c a b pos) (lS X.K W (sIf t f g)) := ps_imp (ps_if hc ha hb) fun D σ H ⟨ρ, G, la, E, r, h, b⟩ =>
  ⟨ρ, G, la, _, _, r, h, fun c ρ' G' la' H' p a => by
    cases c with
    | true => exact iteT ⟨ρ', G', la', E, a.r, (show f E ρ' from p), b.up a.g a.p⟩
    | false => exact iteF ⟨ρ', G', la', E, a.r, (show g E ρ' from p), b.up a.g a.p⟩, b.xn⟩
theorem ds_never : PS X st (lS X.K W sNever) := ps_imp ps_never fun D σ H ⟨ρ, G, la, E, r, h, b⟩ => h
theorem dss_never : PSs X rest (lS X.K W sNever) := pss_imp pss_never fun D σ H ⟨ρ, G, la, E, r, h, b⟩ => h
theorem ds_for {tg iter : Expr} {body : List Stmt} {fi : DI} {g : DG} {B : DS} {is_ : List Nat} (po : PassesOwn (model X.prog X.w) X.A X.env X.xe) (hc : X.calm = true) (hi : PI X tg iter (lI X.K W fi)) (hg : PG X tg (lG X.K is_ g)) (hb : PSs X body (lS X.K W B))
    (hs : ∀ x, foldedSetIterable iter X.env x = pure x := by intro _; rfl) : PS X (.For tg iter body [] pos) (lS X.K W (sFor fi g B)) := ps_imp (ps_for po hc hi hg hb hs) fun D σ H ⟨ρ, G, la, E, r, h, b⟩ =>
  ⟨ρ, G, la, _, _, r, h, fun ds ρ1 G1 la1 H1 J p1 a1 wk lz => by
    refine ⟨fun i m σ2 H2 => m + i = ds.length ∧ ∃ ρ2 G2 la2, Aft X.K G1 la1 σ2 ρ2 G2 la2 H2 ∧ loopD g B E (ds.drop i) ρ2, ⟨ds.length, by simp, ρ1, G1, la1, Aft.refl a1.r, by simpa using p1⟩, ?_⟩
    rintro i m σ2 H2 ⟨hm, ρ2, G2, la2, a2, c2⟩
    by_cases hi : i < ds.length
    · right
      have ed : ds.drop i = ds[i] :: ds.drop (i + 1) := List.drop_eq_getElem_cons hi
      rw [ed] at c2
      refine ⟨wk.goes i H2 hi (a2.g.trans a2.r.ext), fun σ3 H3 => ∃ ρ3 G3 la3, Aft X.K G1 la1 σ3 ρ3 G3 la3 H3 ∧ loopD g B E (ds.drop (i + 1)) ρ3, fun σ3 H3 ⟨ρ3, G3, la3, a3, c3⟩ => ⟨m - 1, by omega, by omega, ρ3, G3, la3, a3, c3⟩, fun x H3 y => ?_⟩
      obtain ⟨G3, gr, dx⟩ := wk.yields i G2 H2 x H3 a2.g a2.r.ext y ds[i] (List.getElem?_eq_getElem hi)
      have a3 := a2.grow gr
      refine ⟨ρ2, G3, la2, ds[i], _, a3.r, dx, c2, fun ρ4 σ4 p4 r4 _ => ⟨ρ4, G3, la2, _, r4, p4, ?_⟩⟩
      have b2 : Bk X.K G3 la2 W E D := b.up (a1.g.trans a3.g) (a1.p.trans a3.p)
      exact ⟨fun ρ5 σ5 G5 la5 H5 p5 a5 => ⟨ρ5, G5, la5, ⟨a3.g.trans a5.g, a3.p.trans a5.p, a5.r⟩, p5⟩, b2.nx, fun ρ5 σ5 G5 la5 H5 p5 a5 => ⟨ρ5, G5, la5, ⟨a3.g.trans a5.g, a3.p.trans a5.p, a5.r⟩, p5⟩, b2.rt, b2.xn⟩
    · left
      have ei : i = ds.length := by omega
      subst ei
      rw [List.drop_length] at c2
      exact ⟨wk.stops H2 (a2.g.trans a2.r.ext), b.nx ρ2 σ2 G2 la2 H2 c2 ⟨a1.g.trans a2.g, a1.p.trans a2.p, a2.r⟩⟩, b.xn⟩
theorem ds_while {c : Expr} {body : List Stmt} {t : DT} {B : DS} (po : PassesOwn (model X.prog X.w) X.A X.env X.xe) (hc : PT X c (lT X.K W t)) (hb : PSs X body (lS X.K W B)) : PS X (.While c body [] pos) (lS X.K W (sWhile t B)) := ps_imp (ps_while po hc hb) fun D σ H ⟨ρ, G, la, E, r, h, b⟩ => by
  obtain ⟨V, ⟨m0, v0⟩, turn⟩ := h
  refine ⟨fun m σ2 H2 => ∃ ρ2 G2 la2, Aft X.K G la σ2 ρ2 G2 la2 H2 ∧ V m ρ2, ⟨m0, ρ, G, la, Aft.refl r, v0⟩, ?_⟩
  rintro m σ2 H2 ⟨ρ2, G2, la2, a2, v2⟩
  have b2 := b.up a2.g a2.p
  refine ⟨ρ2, G2, la2, _, _, a2.r, turn m ρ2 v2, fun cc ρ3 G3 la3 H3 p3 a3 => ?_, b2.xn⟩
  have b3 := b2.up a3.g a3.p
  cases cc with
  | true =>
    refine iteT ⟨fun σ4 H4 => ∃ m', m' < m ∧ ∃ ρ4 G4 la4, Aft X.K G la σ4 ρ4 G4 la4 H4 ∧ V m' ρ4, fun σ4 H4 ⟨m', hm, z⟩ => ⟨m', hm, z⟩, ρ3, G3, la3, _, a3.r, p3, ?_⟩
    have next : ∀ (ρ' : Env) (σ' : L2.St) (G' : Hp) (la' : List Addr) (H' : Hp), (∃ m', m' < m ∧ V m' ρ') → Aft X.K G3 la3 σ' ρ' G' la' H' → ∃ m', m' < m ∧ ∃ ρ4 G4 la4, Aft X.K G la σ' ρ4 G4 la4 H' ∧ V m' ρ4 := fun ρ' σ' G' la' H' ⟨m', hm, hv⟩ a => ⟨m', hm, ρ', G', la', ⟨(a2.g.trans a3.g).trans a.g, (a2.p.trans a3.p).trans a.p, a.r⟩, hv⟩
    exact ⟨next, b3.nx, next, b3.rt, b3.xn⟩
  | false => exact iteF (b3.nx _ _ _ _ _ p3 (Aft.refl a3.r))
theorem ds_par2 (i j : Nat) {x y : Str} {a b : Expr} {f g : DL'} {px py pt : Pos} {kt k2 pt2} (hc : X.calm = true) (hN : X.N.Nodup) (ha : PA X [a, b] (lA X.K W (dCons f (dCons g dNil)))) (hw : swappedStores [.Tuple [.Name x px, .Name y py] kt pt] (.Tuple [a, b] k2 pt2) X.env = pure (some [x, y]) := by rfl)
    (hi : X.N[i]? = some x := by rfl) (hj : X.N[j]? = some y := by rfl) (hij : i ≠ j := by decide) (hx : X.env.scope.names.lookup x = some .local := by rfl) (hy : X.env.scope.names.lookup y = some .local := by rfl)
    (hs : swapsWithSole [.Tuple [.Name x px, .Name y py] kt pt] (.Tuple [a, b] k2 pt2) pos.line X.env = pure false := by rfl) : PS X (.Assign [.Tuple [.Name x px, .Name y py] kt pt] (.Tuple [a, b] k2 pt2) pos) (lS X.K W (sPar2 i j f g)) :=
  ps_imp (ps_par hc hN hi hj hij hx hy ha hw hs) fun D σ H ⟨ρ, G, la, E, r, h, b⟩ => ⟨ρ, G, la, fun xs ρ2 => ∃ u v, xs = [u, v] ∧ E.nx ⟨ρ2.T, (ρ2.s.set i (some u)).set j (some v)⟩, _, r, by
    show f E.xn ρ fun x ρ1 => g E.xn ρ1 fun y ρ2 => ∃ u v, [x, y] = [u, v] ∧ E.nx ⟨ρ2.T, (ρ2.s.set i (some u)).set j (some v)⟩
    have e : (fun (x : Sl) (ρ1 : Env) => g E.xn ρ1 fun y ρ2 => ∃ u v, [x, y] = [u, v] ∧ E.nx ⟨ρ2.T, (ρ2.s.set i (some u)).set j (some v)⟩) = fun x ρ1 => g E.xn ρ1 fun y ρ2 => E.nx ⟨ρ2.T, (ρ2.s.set i (some x)).set j (some y)⟩ := by
      funext x ρ1
      congr 1
      funext y ρ2
      apply propext
      constructor
      · rintro ⟨u, v, h1, h2⟩
        cases h1
        exact h2
      · intro h2
        exact ⟨x, y, rfl, h2⟩
    rw [e]
    exact h, fun xs ρ2 vs G2 la2 H2 p a z => by
    obtain ⟨u, v, rfl, p⟩ := p
    cases z with
    | cons z1 z =>
      cases z with
      | cons z2 z =>
        cases z
        exact ⟨_, _, rfl, b.nx _ _ _ _ _ p ⟨a.g, a.p, (a.r.set z1).set (ρ := ⟨ρ2.T, ρ2.s.set i (some u)⟩) z2⟩⟩, b.xn⟩
theorem ds_to {tg e : Expr} {f : DE} {g : DG} {is_ : List Nat} (he : PE X e (lE X.K W f)) (hg : PG X tg (lG X.K is_ g)) (hs : swapsWithSole [tg] e pos.line X.env = pure false := by rfl) (hw : swappedStores [tg] e X.env = pure none := by rfl)
    (h1 : (assignEach [tg] X.env).map (·.2) = [assign tg X.env] := by rfl) : PS X (.Assign [tg] e pos) (lS X.K W (sTo f g)) := ps_imp (ps_asg he hg hs hw h1) fun D σ H ⟨ρ, G, la, E, r, h, b⟩ =>
  ⟨ρ, G, la, _, _, r, h, fun d ρ' v G' la' H' p a z => ⟨ρ', G', la', d, _, a.r, z, p, fun ρ2 σ2 p2 r2 _ => b.nx _ _ _ _ _ p2 ⟨a.g, a.p, r2⟩⟩, b.xn⟩
theorem ds_app (i : Nat) {x : Str} {e : Expr} {f : DE} {p apos cpos : Pos} (he : PE X e (lE X.K W f)) (hN : X.N[i]? = some x := by rfl) (hv : Vis X.env.scope x := by first | exact Or.inl rfl | exact Or.inr (Or.inl rfl) | exact Or.inr (Or.inr rfl)) (hd : (x == ("__debug__" : Str)) = false := by decide)
    (hcd : (x == ("__classdict__" : Str)) = false := by decide) (hbase : attributeBase (.Name x p) "append" X.env (eval (.Name x p) X.env) = eval (.Name x p) X.env := by rfl)
    (hfew : ((backTo cpos (starEach [e] X.env)).all (fun x => !x.1) && (backToKw cpos (keywordEach [] X.env)).all (fun x => x.1.isSome) && decide ([e].length + ([] : List Keyword).length + (if ([] : List Keyword).isEmpty then 0 else 1) < 30)) = true := by rfl)
    (hline : (apos.endLine == cpos.line) = true := by rfl) (hs : starEach [e] X.env = (false, eval e X.env) :: starEach [] X.env := by rfl) (hsw : swapsWith (.Call (.Attribute (.Name x p) "append" apos) [e] [] cpos) none pos.line X.env = pure false := by rfl) :
    PS X (.Expr (.Call (.Attribute (.Name x p) "append" apos) [e] [] cpos) pos) (lS X.K W (sApp i f)) :=
  ps_imp (ps_expr (pe_bm (r := rAppend) PySem.F.plainAttrs_list PySem.F.slot_list_append PySem.F.type_list_append mt_append (pe_var (i := i) hN hv hd hcd) (pa_cons he pa_nil hs) hbase hfew hline hs rfl) hsw) fun D σ H ⟨ρ, G, la, E, r, h, b⟩ => by
    unfold sApp at h
    split at h
    · rename_i k hk
      obtain ⟨v, hv, a, ha, ev⟩ := r.at_ _ _ hk
      subst ev
      refine ⟨_, hv, ?_⟩
      split at h
      · rename_i xs hxs
        obtain ⟨gn, vs, hH, lv, dv⟩ := r.tb.tab k a _ ha hxs
        refine ⟨.inl ⟨rfl, _, SqL.of hH⟩, ρ, G, la, _, _, r, h, fun d ρ1 v1 G1 la1 H1 p1 a1 z1 => ?_, b.xn⟩
        have p1' : (match (generalizing := false) ρ1.T[k]? with
          | some (.lst xs) => xs.length < sizeLine ∧ E.nx ⟨ρ1.T.set k (.lst (xs ++ [d])), ρ1.s⟩
          | _ => False) := p1
        split at p1'
        · rename_i ys hys
          have ha1 := pre_at a1.p ha
          obtain ⟨gn1, ws, hH1, lw, dw⟩ := a1.r.tb.tab k a _ ha1 hys
          refine ⟨a, ws, v1, rfl, rfl, hH1, by rw [dw.len]; exact p1'.1, b.nx _ _ _ _ _ p1'.2 ⟨a1.g, a1.p, ⟨a1.r.tb.write ha1 hys (by rw [List.length_append, List.length_singleton, dw.len]; exact p1'.1) (dw.app (.cons z1 .nil)), a1.r.sl, a1.r.at_⟩⟩⟩
        · exact p1'.elim
      · exact h.elim
    · exact h.elim
theorem ixN_set {n : Nat} {j : Int} {m : Nat} (h : ixN n j = some m) : m < n := (ixN_seq h).2.1
theorem ds_setix (i : Nat) {x : Str} {e ej : Expr} {fj fv : DE} {p spos : Pos} (hv : PE X e (lE X.K W fv)) (hj : PE X ej (lE X.K W fj)) (hN : X.N[i]? = some x := by rfl) (hvis : Vis X.env.scope x := by first | exact Or.inl rfl | exact Or.inr (Or.inl rfl) | exact Or.inr (Or.inr rfl)) (hd : (x == ("__debug__" : Str)) = false := by decide)
    (hcd : (x == ("__classdict__" : Str)) = false := by decide) (ha : ∀ v, assign (.Subscript (.Name x p) ej spos) X.env v = (do
      let ov ← holding [v] (eval (.Name x p) X.env)
      let iv ← holding [v, ov] (eval ej X.env)
      standAt spos
      holding [v, ov, iv] (setItem ov iv v)
      release [v, ov, iv] []) := by intro _; rfl) (hs : swapsWithSole [.Subscript (.Name x p) ej spos] e pos.line X.env = pure false := by rfl) (hw : swappedStores [.Subscript (.Name x p) ej spos] e X.env = pure none := by rfl)
    (h1 : (assignEach [.Subscript (.Name x p) ej spos] X.env).map (·.2) = [assign (.Subscript (.Name x p) ej spos) X.env] := by rfl) : PS X (.Assign [.Subscript (.Name x p) ej spos] e pos) (lS X.K W (sSetIx i fj fv)) :=
  ps_imp (ps_asg hv (pg_sub (pe_var (i := i) hN hvis hd hcd) hj set_list ha) hs hw h1) fun D σ H ⟨ρ, G, la, E, r, h, b⟩ =>
  ⟨ρ, G, la, _, _, r, h, fun d ρ1 v G1 la1 H1 p1 a1 z1 => by
    have p1' : (match (generalizing := false) ρ1.s[i]? with
      | some (some (.ob k)) => fj E.xn ρ1 fun z ρ2 => match z, ρ2.T[k]? with
        | .int j, some (.lst xs) => match ixN xs.length j with
          | some m => E.nx ⟨ρ2.T.set k (.lst (xs.set m d)), ρ2.s⟩
          | none => False
        | _, _ => False
      | _ => False) := p1
    split at p1'
    · rename_i k hk
      obtain ⟨u, hu, a, hla, ev⟩ := a1.r.at_ _ _ hk
      subst ev
      refine ⟨_, hu, ρ1, G1, la1, _, _, a1.r, p1', fun z ρ2 w G2 la2 H2 p2 a2 z2 => ?_, b.xn.up a1.g a1.p⟩
      have p2' : (match (generalizing := false) z, ρ2.T[k]? with
        | .int j, some (.lst xs) => match ixN xs.length j with
          | some m => E.nx ⟨ρ2.T.set k (.lst (xs.set m d)), ρ2.s⟩
          | none => False
        | _, _ => False) := p2
      split at p2'
      · rename_i j xs hz
        cases z2
        split at p2'
        · rename_i m hm
          have ha2 := pre_at a2.p hla
          obtain ⟨gn1, ws, hH1, lw, dw⟩ := a2.r.tb.tab k a _ ha2 hz
          refine ⟨a, ws, j, m, rfl, rfl, hH1, by rw [dw.len]; exact hm, b.nx _ _ _ _ _ p2' ⟨a1.g.trans a2.g, a1.p.trans a2.p, ⟨a2.r.tb.write ha2 hz (by rw [List.length_set]; exact lw) (Dps.set (z1.up a2.g) m dw), a2.r.sl, a2.r.at_⟩⟩⟩
        · exact p2'.elim
      · exact p2'.elim
    · exact p1'.elim, b.xn⟩
theorem de_ixO (i : Nat) {x : Str} {ej : Expr} {fj : DE} {p : Pos} (hj : PE X ej (lE X.K W fj)) (hN : X.N[i]? = some x := by rfl) (hvis : Vis X.env.scope x := by first | exact Or.inl rfl | exact Or.inr (Or.inl rfl) | exact Or.inr (Or.inr rfl)) (hd : (x == ("__debug__" : Str)) = false := by decide)
    (hcd : (x == ("__classdict__" : Str)) = false := by decide) (hs : PlainIx ej := by exact fun _ _ => rfl) : PE X (.Subscript (.Name x p) ej pos) (lE X.K W (dIxO i fj)) :=
  pe_imp (pe_ix ix_list (pe_var (i := i) hN hvis hd hcd) hj hs) fun σ H Q ⟨ρ, G, la, P, XX, r, h, q, xo⟩ => by
    unfold dIxO at h
    split at h
    · rename_i k hk
      obtain ⟨v, hv, a, ha, ev⟩ := r.at_ _ _ hk
      subst ev
      refine ⟨_, hv, ρ, G, la, _, XX, r, h, fun z ρ2 w G2 la2 H2 p2 a2 z2 => ?_, xo⟩
      have p2' : (match (generalizing := false) z, ρ2.T[k]? with
        | .int j, some (.lst xs) => match atI xs j with
          | some d => P d ρ2
          | none => False
        | _, _ => False) := p2
      split at p2'
      · rename_i j xs hz
        cases z2
        split at p2'
        · rename_i d hd
          have ha2 := pre_at a2.p ha
          obtain ⟨gn1, ws, hH1, lw, dw⟩ := a2.r.tb.tab k a _ ha2 hz
          obtain ⟨v', hv', dv⟩ := dw.atI hd
          exact ⟨a, ws, j, v', rfl, rfl, SqL.of hH1, hv', q _ _ _ _ _ _ p2' a2 dv⟩
        · exact p2'.elim
      · exact p2'.elim
    · exact h.elim
theorem de_lenO (i : Nat) {x : Str} {p p2 : Pos} (hm : X.mg "len" = none) (hN : X.N[i]? = some x := by rfl) (hvis : Vis X.env.scope x := by first | exact Or.inl rfl | exact Or.inr (Or.inl rfl) | exact Or.inr (Or.inr rfl)) (hd : (x == ("__debug__" : Str)) = false := by decide)
    (hcd : (x == ("__classdict__" : Str)) = false := by decide) (hgl : Gl X "len" := by rfl) (he : starEach [.Name x p2] X.env = (false, eval (.Name x p2) X.env) :: starEach [] X.env := by rfl) : PE X (.Call (.Name "len" p) [.Name x p2] [] pos) (lE X.K W (dLenO i)) :=
  pe_imp (pe_callB call_len hgl hm PySem.boot_len (pa_cons (pe_var (i := i) hN hvis hd hcd) pa_nil he) (by decide) (by decide) he rfl) fun σ H Q ⟨ρ, G, la, P, XX, r, h, q, xo⟩ => by
    unfold dLenO at h
    split at h
    · rename_i k hk
      obtain ⟨v, hv, a, ha, ev⟩ := r.at_ _ _ hk
      subst ev
      split at h
      · rename_i xs hxs
        obtain ⟨gn, vs, hH, lv, dv⟩ := r.tb.tab k a _ ha hxs
        rw [← dv.len] at h
        exact ⟨_, hv, _, _, rfl, .inl ⟨_, SqL.of hH, rfl⟩, q _ _ _ _ _ _ h (Aft.refl r) (.int _)⟩
      · exact h.elim
    · exact h.elim
end

/-! ### calls of defs -/
abbrev DF := List Sl → List Ob → (Sl → List Ob → Prop) → (Xn → List Ob → Prop) → Prop
/-- a def's promise, by data: n arguments -/
def spD (K : PySem.W.Frag) (n : Nat) (F : DF) : Sp := fun vs H Q E => vs.length = n ∧ ∃ ss G la T P PX, Rl K G H la T ∧ SlsR K G la vs ss ∧ F ss T P PX ∧
  (∀ r T' v G' la' H', P r T' → Same G G' → la <+: la' → Rl K G' H' la' T' → SlR K G' la' v r → Q v H') ∧ (∀ x T' G' la' H' cls od, PX x T' → Same G G' → la <+: la' → Rl K G' H' la' T' → XR K G' H' x cls od → E cls od H')
def dCall (n : Nat) (F : DF) (fa : DA) : DL' := fun X ρ Q => fa X ρ fun ss ρ1 => ss.length = n ∧ F ss ρ1.T (fun r T' => Q r ⟨T', ρ1.s⟩) (fun x T' => X x ⟨T', ρ1.s⟩)
section
variable {X : Cx} {W : WX} {x : Str} {p pos : Pos} {e : Expr} {es : List Expr} {fa : DA} {k n : Nat} {f : Addr} {fd : FuncData} {ps : List Str} {F : DF}
theorem call_core {K : PySem.W.Frag} : ∀ (σ : L2.St) (H : Hp) (Q : VK), lL K W (dCall n F fa) σ H Q → tCallS (spD K n F) (WE W) (lA K W fa) σ H Q := fun σ H Q ⟨ρ, G, la, P, XX, r, h, q, xo⟩ =>
  ⟨ρ, G, la, _, XX, r, h, fun ss ρ1 vs G1 la1 H1 p1 a1 z1 => ⟨z1.len.trans p1.1, ss, G1, la1, ρ1.T, _, _, a1.r.tb, z1, p1.2, fun r2 T' v G' la' H' pr g pp rl sr => q _ _ _ _ _ _ pr ⟨a1.g.trans g, a1.p.trans pp, ⟨rl, a1.r.sl, fun i y hy => by
      obtain ⟨u, hu, ru⟩ := a1.r.at_ i y hy
      exact ⟨u, hu, ru.grow g pp⟩⟩⟩ sr, fun y T' G' la' H' cls od px g pp rl xr => xo y ⟨T', ρ1.s⟩ σ G' la' H' cls od px ⟨a1.g.trans g, a1.p.trans pp, ⟨rl, a1.r.sl, fun i y hy => by
      obtain ⟨u, hu, ru⟩ := a1.r.at_ i y hy
      exact ⟨u, hu, ru.grow g pp⟩⟩⟩ xr⟩, xo⟩
theorem dl_call (Fk : FnOk X.prog X.w X.K X.mg X.base (L2.CX X.prog X.w) k f fd ps (spD X.K n F)) (hr : Room k X.A) (hm : X.mg x = some (.ref f)) (hk : PySem.W.keepIn X.K (.ref f) = true) (hb : Binds X.K fd ps []) (tk : Takes X W) (ha : PA X (e :: es) (lA X.K W fa)) (hg : Gl X x := by rfl)
    (hdb : (x == ("__debug__" : Str)) = false := by decide) (he : starEach (e :: es) X.env = (false, eval e X.env) :: starEach es X.env := by rfl) (hpl : (backTo pos (starEach es X.env)).any (·.1) = false := by rfl) : PE X (.Call (.Name x p) (e :: es) [] pos) (lL X.K W (dCall n F fa)) :=
  pe_imp (pe_callS Fk hr hg hm hk hb (fun σ => passAt tk σ) ha hdb he hpl) call_core
end

/-! ### defs -/
def retD (n : Nat) (P : Sl → List Ob → Prop) : Sl → Env → Prop := fun x ρ => match x with
  | .dat d => P (.dat d) (ρ.T.take n)
  | .ob k => if k < n then P (.ob k) (ρ.T.take n) else match ρ.T[k]? with
    | some o => P (.ob n) (ρ.T.take n ++ [o])
    | none => False
def endsOf (n : Nat) (P : Sl → List Ob → Prop) (PX : Xn → List Ob → Prop) : DN := { nx := fun ρ => P (.dat .non) (ρ.T.take n), rt := retD n P, xn := fun x ρ => PX x (ρ.T.take n) }
def startD (m n : Nat) (ss : List Sl) (T : List Ob) : Env := ⟨T, ss.map some ++ List.replicate (m - n) none⟩
section
variable {P : Program} {w : World} {K : PySem.W.Frag} {mg : Str → Option Value} {base : Heap}
theorem fn_D {x qual : Str} {st : Stmt} {f : Addr} {fd : FuncData} {N ps : List Str} {k n : Nat} {F : DF} {B : DS} (Fn : Fun K x qual st f fd) (S : FnScope N ps (defScope st)) (hn : ps.length = n)
    (hB : ∀ (cdv : Value) (A : Around) (outer : List PySem.Env) (s : Shared) (H : Hp) (E : XK), Room k (A.deeper (envOfC qual (defScope st) s.heap.objs.size f cdv)) →
      PSs (cxOf (L2.CX P w) P w K mg base N qual (defScope st) f cdv A outer s H E) (defBody st) (lS K (fun cls d _ H => E cls d H) B))
    (hF : ∀ (ss : List Sl) (T : List Ob) (Q : Sl → List Ob → Prop) (QX : Xn → List Ob → Prop), ss.length = n → F ss T Q QX → B (endsOf T.length Q QX) (startD N.length n ss T)) :
    FnOk P w K mg base (L2.CX P w) (k + 1) f fd ps (spD K n F) := by
  refine Fn.okX S (fun vs H Q E h => h.1.trans hn.symm) (fun cdv A outer s H vs Q E hr h => ⟨_, hB cdv A outer s H E hr, ?_⟩)
  obtain ⟨hl, ss, G, la, T, Pd, PX, rl, sr, fp, q, qx⟩ := h
  have lT : la.length = T.length := rl.len
  refine ⟨startD N.length n ss T, G, la, endsOf T.length Pd PX, ⟨rl, ?_, fun i y hy => ?_⟩, hF ss T Pd PX (sr.len.symm.trans hl) fp, ?_⟩
  · show (ss.map some ++ List.replicate (N.length - n) none).length = (vs.map some ++ List.replicate (N.length - vs.length) none).length
    have e1 := sr.len
    simp only [List.length_append, List.length_map, List.length_replicate]
    omega
  · have hy' : (ss.map some ++ List.replicate (N.length - n) none)[i]? = some (some y) := hy
    by_cases hi : i < ss.length
    · rw [List.getElem?_append_left (by simpa using hi), List.getElem?_map] at hy'
      obtain ⟨z, hz, e⟩ := Option.map_eq_some_iff.mp hy'
      have e' := Option.some.inj e
      subst e'
      obtain ⟨v, hv, rv⟩ := sr.get hz
      refine ⟨v, ?_, rv⟩
      show (vs.map some ++ List.replicate (N.length - vs.length) none)[i]? = _
      rw [List.getElem?_append_left (by rw [List.length_map, sr.len]; exact hi), List.getElem?_map, hv]
      rfl
    · rw [List.getElem?_append_right (by simpa using hi), List.getElem?_replicate] at hy'
      split at hy' <;> cases hy'
  · have tr : ∀ {ρ' : Env} {σ' : L2.St} {G' : Hp} {la' : List Addr} {H' : Hp}, Aft K G la σ' ρ' G' la' H' → la'.take T.length = la ∧ Rl K G' H' la (ρ'.T.take T.length) := fun {ρ' σ' G' la' H'} a => by
      have e : la'.take T.length = la := by
        rw [← lT]
        exact pre_take a.p
      have z := a.r.tb.take T.length
      rw [e] at z
      exact ⟨e, z⟩
    refine ⟨fun ρ' σ' G' la' H' p a => ?_, fun ρ' σ' G' la' H' p a => p.elim, fun ρ' σ' G' la' H' p a => p.elim, fun y ρ' v σ' G' la' H' p a z => ?_, fun y ρ' σ' G' la' H' cls od p a xr => ?_⟩
    · exact q _ _ _ G' la H' p a.g List.prefix_rfl (tr a).2 (show Dp K G' .non .non from .non)
    · cases y with
      | dat d => exact q _ _ _ G' la H' p a.g List.prefix_rfl (tr a).2 z
      | ob j =>
        obtain ⟨b, hb, ev⟩ := z
        subst ev
        have p' : if j < T.length then Pd (.ob j) (ρ'.T.take T.length) else match ρ'.T[j]? with
          | some o => Pd (.ob T.length) (ρ'.T.take T.length ++ [o])
          | none => False := p
        by_cases hj : j < T.length
        · rw [if_pos hj] at p'
          refine q _ _ _ G' la H' p' a.g List.prefix_rfl (tr a).2 ⟨b, ?_, rfl⟩
          rw [← (tr a).1, List.getElem?_take, if_pos hj]
          exact hb
        · rw [if_neg hj] at p'
          split at p'
          · rename_i o ho
            obtain ⟨e1, r1⟩ := tr a
            have nb : b ∉ la := fun hm => by
              obtain ⟨i, hi, e2⟩ := List.getElem_of_mem hm
              have h1 : la'[i]? = some b := pre_at a.p (by rw [List.getElem?_eq_getElem hi, e2])
              obtain ⟨l1, x1⟩ := List.getElem?_eq_some_iff.mp h1
              obtain ⟨l2, x2⟩ := List.getElem?_eq_some_iff.mp hb
              have := (List.getElem_inj a.r.tb.nd).mp (x1.trans x2.symm)
              omega
            have lt2 : (ρ'.T.take T.length).length = T.length := by rw [← r1.len, lT]
            refine q _ _ _ G' (la ++ [b]) H' p' a.g (List.prefix_append _ _) ⟨r1.ext, ?_, by simp [lt2, lT], fun i c u h1 h2 => ?_, fun i c h1 => ?_⟩ ⟨b, ?_, rfl⟩
            · rw [List.nodup_append]
              exact ⟨r1.nd, by simp, fun c hc d hd => by
                have e3 : d = b := by simpa using hd
                rw [e3]
                intro z
                exact nb (z ▸ hc)⟩
            · by_cases hi : i < la.length
              · rw [List.getElem?_append_left hi] at h1
                rw [List.getElem?_append_left (by omega)] at h2
                exact r1.tab i c u h1 h2
              · rw [List.getElem?_append_right (by omega)] at h1
                rw [List.getElem?_append_right (by omega), lt2, ← lT] at h2
                cases e4 : i - la.length with
                | zero =>
                  rw [e4] at h1 h2
                  have q1 := Option.some.inj h1
                  have q2 := Option.some.inj h2
                  subst q1 q2
                  exact a.r.tb.tab j _ _ hb ho
                | succ m =>
                  rw [e4] at h1
                  simp at h1
            · by_cases hi : i < la.length
              · rw [List.getElem?_append_left hi] at h1
                exact r1.there i c h1
              · rw [List.getElem?_append_right (by omega)] at h1
                cases e4 : i - la.length with
                | zero =>
                  rw [e4] at h1
                  have q1 := Option.some.inj h1
                  subst q1
                  exact a.r.tb.there j _ hb
                | succ m =>
                  rw [e4] at h1
                  simp at h1
            · rw [← lT, List.getElem?_append_right (Nat.le_refl _)]
              simp
          · exact p'.elim
    · exact qx _ _ G' la H' cls od p a.g List.prefix_rfl (tr a).2 xr
end
end DL
set_option Elab.async false
set_option linter.all false
set_option maxRecDepth 100000
set_option maxHeartbeats 4000000
set_option autoImplicit false
/-! The data level: tuple * int of any size; enumerate of a tuple. -/
namespace DL
open PySem PySem.Spec PyProof.Rows L2

/-! ### tuple * int -/
theorem tmul_same (l : Addr) (items : Array Value) (n : Nat) (dd : Option Addr) (sl : Array (Option Value)) (x : Int) (u : Tok) (c0 : (decide (x < -(2 ^ 63)) || decide (x ≥ 2 ^ 63)) = false) (c1 : (items.isEmpty || x == 1) = true) :
    Meets (Builtin.«tuple.__mul__» ⟨[.ref l, .int x u], []⟩) (fun _ R s => s.heap.get? l = some { cls := .type "tuple", dict := dd, data := .seq items n, slots := sl } ∧ R (.ok (.ret (Value.ref l))) s) :=
  .of_wp fun prog w A R s h => by
    obtain ⟨hp, g, d, tk, os⟩ := s
    obtain ⟨hl, h⟩ := h
    have f1 := AutoSeq1.idx_int
    wp_walk using AutoSeq1.wpAny_loadPart' hl
    repeat (first
      | (refine wpAny_ite_false (decide_eq_false (by rw [c0]; exact Bool.false_ne_true)) ?_; wp_walk using AutoSeq1.wpAny_loadPart' hl)
      | (refine wpAny_ite_true (decide_eq_true c1) ?_; wp_walk using AutoSeq1.wpAny_loadPart' hl))
    exact ⟨_, rfl, h⟩
theorem tmul_none (l : Addr) (items : Array Value) (n : Nat) (dd : Option Addr) (sl : Array (Option Value)) (x : Int) (u : Tok) (c0 : (decide (x < -(2 ^ 63)) || decide (x ≥ 2 ^ 63)) = false) (c1 : (items.isEmpty || x == 1) = false) (c2 : (decide (x ≤ 0) || items.isEmpty) = true) :
    Meets (Builtin.«tuple.__mul__» ⟨[.ref l, .int x u], []⟩) (fun _ R s => s.heap.get? l = some { cls := .type "tuple", dict := dd, data := .seq items n, slots := sl } ∧
      R (.ok (.ret (Value.ref s.heap.objs.size))) { s with heap := s.heap.push { cls := Value.type "tuple", data := Data.seq #[] }, toks := s.toks }) :=
  .of_wp fun prog w A R s h => by
    obtain ⟨hp, g, d, tk, os⟩ := s
    obtain ⟨hl, h⟩ := h
    have f1 := AutoSeq1.idx_int
    wp_walk using AutoSeq1.wpAny_loadPart' hl
    repeat (first
      | (refine wpAny_ite_false (decide_eq_false (by rw [c0]; exact Bool.false_ne_true)) ?_; wp_walk using AutoSeq1.wpAny_loadPart' hl)
      | (refine wpAny_ite_false (decide_eq_false (by rw [c1]; exact Bool.false_ne_true)) ?_; wp_walk using AutoSeq1.wpAny_loadPart' hl)
      | (refine wpAny_ite_true (decide_eq_true c2) ?_; wp_walk using AutoSeq1.wpAny_loadPart' hl))
    exact ⟨_, rfl, h⟩
/-- t * k: k = 1 gives t itself, k ≤ 0 the empty one -/
def rRepA (K : PySem.W.Frag) : R2 := fun x y H Q => ∃ l k xs, x = .ref l ∧ y = .int k ∧ SqT K H l xs ∧ -1000 ≤ k ∧ k ≤ 1000 ∧ xs.length ≤ 1000 ∧ ((xs = [] ∨ k = 1) → Q (.ref l) H) ∧ (¬ (xs = [] ∨ k = 1) → ∀ p, H p = none → Q (.ref p) (upd H p (.tup (List.replicate k.toNat xs).flatten)))
section
variable {X : Cx}
theorem op_repA : OpR X (binaryOp .Mult) (rRepA X.K) := by
  intro pins s σ H x y v u Q I rx ry h
  obtain ⟨l, k, xs, rfl, rfl, hT, h0, h1, hz, q1, q2⟩ := h
  by_cases big : xs ≠ [] ∧ 2 ≤ k
  · exact op_repT pins s σ H _ _ v u Q I rx ry ⟨l, k, xs, rfl, rfl, hT, big.1, big.2, h1, hz, q2 fun z => z.elim big.1 fun e => by omega⟩
  cases rx
  obtain ⟨t, rfl⟩ := ry
  obtain ⟨its, r, ⟨⟨cls, dd, data, sl⟩, ho, hc, n, hd⟩, hs⟩ := I.tuple hT
  simp only at hc hd
  subst hc hd
  have nil_eq : its = [] ↔ xs = [] := r.nil_iff
  have c0 : (decide (k < -(2 ^ 63)) || decide (k ≥ 2 ^ 63)) = false := by
    rw [decide_eq_false (by omega), decide_eq_false (by omega)] <;> rfl
  have emp : its.toArray.isEmpty = decide (xs = []) := by
    cases its with
    | nil => rw [decide_eq_true (nil_eq.mp rfl)]; rfl
    | cons a b => rw [decide_eq_false fun z => nomatch nil_eq.mpr z]; rfl
  by_cases same : xs = [] ∨ k = 1
  · have c1 : (its.toArray.isEmpty || k == 1) = true := by
      rw [emp]
      rcases same with e | e
      · rw [decide_eq_true e, Bool.true_or]
      · rw [e]
        simp
    exact wpAny_binaryOp_repeat_ref (T := "tuple") (U := "int") (by decide) ⟨_, ho, rfl⟩ (fun s' => typeIs_int s' k t) noFill_tuple_mul F.fills_int_mul F.slot_int_rmul repeat_tuple F.slot_int_index.lookup
      (call_meets F.slot_int_rmul (typeIs_int s k t) F.entry_int_rmul (F.args_int_rmul_2 _ _) (int_rmul_tuple k t l its.toArray n dd sl)
        ⟨ho, rfl, ⟨_, ho, rfl⟩, call_meets F.slot_tuple_mul ⟨_, ho, rfl⟩ F.entry_tuple_mul (F.args_tuple_mul_2 _ _) (tmul_same l its.toArray n dd sl k t c0 c1) ⟨ho, ⟨.ref l, H, I, rfl, q1 same⟩⟩⟩)
  · have hk : k ≤ 0 := by
      have n1 : xs ≠ [] := fun e => same (.inl e)
      have n2 : ¬ 2 ≤ k := fun e => big ⟨n1, e⟩
      have n3 : k ≠ 1 := fun e => same (.inr e)
      omega
    have c1 : (its.toArray.isEmpty || k == 1) = false := by
      rw [emp, decide_eq_false fun e => same (.inl e), Bool.false_or]
      exact beq_eq_false_iff_ne.mpr fun e => same (.inr e)
    have c2 : (decide (k ≤ 0) || its.toArray.isEmpty) = true := by rw [decide_eq_true hk, Bool.true_or]
    have ek : (List.replicate k.toNat xs).flatten = [] := by
      rw [show k.toNat = 0 by omega]
      rfl
    rw [ek] at q2
    refine wpAny_binaryOp_repeat_ref (T := "tuple") (U := "int") (by decide) ⟨_, ho, rfl⟩ (fun s' => typeIs_int s' k t) noFill_tuple_mul F.fills_int_mul F.slot_int_rmul repeat_tuple F.slot_int_index.lookup
      (call_meets F.slot_int_rmul (typeIs_int s k t) F.entry_int_rmul (F.args_int_rmul_2 _ _) (int_rmul_tuple k t l its.toArray n dd sl)
        ⟨ho, rfl, ⟨_, ho, rfl⟩, call_meets F.slot_tuple_mul ⟨_, ho, rfl⟩ F.entry_tuple_mul (F.args_tuple_mul_2 _ _) (tmul_none l its.toArray n dd sl k t c0 c1 c2) ⟨ho, ?_⟩⟩)
    refine ⟨.ref s.heap.objs.size, _, I.laid (t' := s.toks) (o := .tup []) (fun b ob q => Heap.get?_push_of_some _ q) (Nat.le_refl _) ⟨Nat.zero_le _, [], .nil, IsTup.new _ _⟩, rfl, q2 same _ (I.hok.fresh (Nat.le_refl _))⟩
/-- * of ints, tuple * int -/
def rMulA (K : PySem.W.Frag) : R2 := fun x y H Q => rI CMulW (fun i j => .int (i * j)) x y H Q ∨ rRepA K x y H Q
theorem op_mulA : OpR X (binaryOp .Mult) (rMulA X.K) := op_mulW.or op_repA
end
def gMulA : D → D → (D → Prop) → Prop
  | .int i, .int j, P => CMulW i j ∧ P (.int (i * j))
  | .tup xs, .int k, P => (-1000 ≤ k ∧ k ≤ 1000 ∧ xs.length ≤ 1000) ∧ P (.tup (List.replicate k.toNat xs).flatten)
  | _, _, _ => False
theorem rep_len {xs : List V} {k : Int} (h1 : k ≤ 1000) (hz : xs.length ≤ 1000) : (List.replicate k.toNat xs).flatten.length ≤ sizeLine := by
  rw [PyProof.Rows.lm_len_rep_flat, sizeLine_eq]
  have a1 : k.toNat * xs.length ≤ 1000 * 1000 := Nat.mul_le_mul (by omega) hz
  omega
theorem g_mulA {K : PySem.W.Frag} : GOp K (rMulA K) gMulA := by
  intro G H x y d e P Q sm dx dy gp k
  unfold gMulA at gp
  split at gp
  · cases dx
    cases dy
    exact .inl ⟨_, _, rfl, rfl, gp.1, k _ _ _ _ gp.2 (Grow.refl sm) (.int _)⟩
  · cases dy
    cases dx with
    | tup a l r =>
      rename_i xs kk p vs
      obtain ⟨⟨b1, b2, b3⟩, p1⟩ := gp
      refine .inr ⟨_, kk, vs, rfl, rfl, same_t sm a, b1, b2, by rw [r.len]; exact b3, fun z => ?_, fun z q hq => ?_⟩
      · have e1 : (List.replicate kk.toNat xs).flatten = xs := by
          rcases z with z | z
          · rw [(nil_iff r).mp z]
            simp
          · rw [z]
            simp
        rw [e1] at p1
        exact k _ _ _ _ p1 (Grow.refl sm) (.tup a l r)
      · exact k _ _ _ _ p1 (Grow.new sm hq) (.tup (.inl (.inl upd_same)) (rep_len b2 (by rw [r.len]; exact b3)) ((r.rep _).up (Grow.new sm hq).g))
  · exact gp.elim

/-! ### enumerate of a tuple -/
section
variable {prog : Program} {w : World} {A : Around} {E : Value → Shared → Prop} {s : Shared}
theorem en_new (l : Addr) (items : Array Value) :
    Meets (Builtin.«enumerate.__new__» ⟨[.type "enumerate", .ref l], []⟩) (fun _ R s => s.heap.IsTuple l items ∧
      R (.ok (.ret (.ref (s.heap.push { cls := .type "tuple_iterator", data := .fields #[.ref l, .int 0 0] }).objs.size)))
        { s with heap := (s.heap.push { cls := .type "tuple_iterator", data := .fields #[.ref l, .int 0 0] }).push { cls := .type "enumerate", data := .fields #[.none, .bool false, .ref s.heap.objs.size, rawInt 0, .none, .none] } }) :=
  .of_wp fun prog w A R s h => by
    obtain ⟨hp, g, d, tk, os⟩ := s
    obtain ⟨hT, h⟩ := h
    have hsub := sub_enumerate
    have hL : Heap.IsTuple (Shared.heap ⟨hp, g, d, tk, os⟩) l items := hT
    wp_walk
    refine wpAny_stack_any fun st => wpAny_pure ?_
    split
    · rename_i c _ _ _ _ _
      cases (c == Value.type "enumerate") <;> (wp_walk using wpAny_pyIter_tuple hL; exact ⟨_, rfl, h⟩)
    · wp_walk using wpAny_pyIter_tuple hL
      exact ⟨_, rfl, h⟩
theorem en_call {l : Addr} {items : Array Value} {Q : Value → Shared → Prop} (hT : s.heap.IsTuple l items)
    (h : ∀ h', IsEnum h' (s.heap.objs.size + 1) s.heap.objs.size 0 .none → h'.IsTupleIter s.heap.objs.size l 0 → h'.objs.size = s.heap.objs.size + 2 → (∀ b o, s.heap.get? b = some o → h'.get? b = some o) → Q (.ref (s.heap.objs.size + 1)) { s with heap := h' }) :
    wpAny (model prog w) A (call (.type "enumerate") [.ref l]) Q E s := by
  refine callType_new F.called_enumerate (by decide) (F.typeCall_enumerate_1 _) (F.newCall_enumerate_1 _) (fun obj => F.args_object_init_2 obj _) F.entry_enumerate_new (en_new l items) ⟨hT, ?_⟩
  generalize e1 : s.heap.push { cls := .type "tuple_iterator", data := .fields #[.ref l, .int 0 0] } = h1
  have z1 : h1.objs.size = s.heap.objs.size + 1 := by rw [← e1]; exact Heap.size_push ..
  have g1 : h1.get? s.heap.objs.size = some { cls := .type "tuple_iterator", data := .fields #[.ref l, .int 0 0] } := by rw [← e1]; exact Heap.get?_push_size _ rfl
  have k1 : ∀ b o, s.heap.get? b = some o → h1.get? b = some o := fun b o x => by rw [← e1]; exact Heap.get?_push_of_some _ x
  have g2 : (h1.push { cls := .type "enumerate", data := .fields #[.none, .bool false, .ref s.heap.objs.size, rawInt 0, .none, .none] }).get? h1.objs.size = some _ := Heap.get?_push_size _ rfl
  rw [z1] at g2
  show _ ∧ _
  rw [z1]
  exact ⟨⟨_, g2, rfl⟩, h _ g2 ⟨_, Heap.get?_push_of_some _ g1, rfl, rfl⟩ (by rw [Heap.size_push, z1]) fun b o x => Heap.get?_push_of_some _ (k1 b o x)⟩
theorem en_item {e it l : Addr} {i : Nat} {items : Array Value} {x old : Value} {Q : Option Value → Shared → Prop} (he : IsEnum s.heap e it i old) (hit : s.heap.IsTupleIter it l i) (hl : s.heap.IsTuple l items) (hx : items[i]? = some x) (hne : e ≠ it)
    (hQ : ∀ h', IsEnumOut h' e it ((i : Int) + 1) x s.heap.objs.size → h'.IsTupleIter it l (i + 1) → h'.get? s.heap.objs.size = some { cls := .type "tuple", data := .seq #[.int i s.toks, x] } → h'.objs.size = s.heap.objs.size + 1 →
      (∀ b o, b ≠ e → b ≠ it → s.heap.get? b = some o → h'.get? b = some o) → Q (some (.ref s.heap.objs.size)) { s with heap := h', toks := s.toks + 1 }) :
    wpAny (model prog w) A (pyNext (.ref e)) Q E s := by
  have hT : s.TypeIs (.ref e) "enumerate" := ⟨_, he, rfl⟩
  have core : ∀ E' : Value → Shared → Prop, wpAny (model prog w) A.in1 (Builtin.«enumerate.__next__» ⟨[.ref e], []⟩) (fun fin s' => ∃ v, fin = .done (.ret v) ∧ Q (some v) s') E' s := by
    intro E'
    obtain ⟨hp, g, d, tk, os⟩ := s
    show wpAny _ _ (field (.ref e) 2 >>= _) _ _ _
    refine wpAny_bind (wpAny_field he rfl (x := .ref it) rfl ?_)
    refine wpAny_bind (RZ.nextOf_tuple_item hit hl hx fun m1 it1 b1 => ?_)
    have b1' : Heap.SameBut it hp m1 := b1
    have e1 : IsEnum m1 e it i old := (b1'.2 e hne).trans he
    show wpAny _ _ (field (.ref e) 3 >>= _) _ _ ⟨m1, g, d, tk, os⟩
    refine wpAny_bind (wpAny_field e1 rfl (x := rawInt i) rfl ?_)
    show wpAny _ _ (field (.ref e) 4 >>= _) _ _ ⟨m1, g, d, tk, os⟩
    refine wpAny_bind (wpAny_field e1 rfl (x := .none) rfl ?_)
    show wpAny _ _ (mkInt i >>= _) _ _ ⟨m1, g, d, tk, os⟩
    refine wpAny_bind (wpAny_mkInt ?_)
    show wpAny _ _ (setField (.ref e) 3 (rawInt ((i : Int) + 1)) >>= _) _ _ ⟨m1, g, d, tk + 1, os⟩
    refine wpAny_bind (wpAny_setField_rec e1 (by simp) fun m2 e2 b2 => ?_)
    have b2' : Heap.SameBut e m1 m2 := b2
    have e2' : IsEnum m2 e it ((i : Int) + 1) old := e2
    show wpAny _ _ (setField (.ref e) 4 .none >>= _) _ _ ⟨m2, g, d, tk + 1, os⟩
    refine wpAny_bind (wpAny_setField_rec e2' (by simp) fun m3 e3 b3 => ?_)
    have b3' : Heap.SameBut e m2 m3 := b3
    have e3' : IsEnum m3 e it ((i : Int) + 1) old := e3
    show wpAny _ _ (newTuple [.int i tk, x] >>= _) _ _ ⟨m3, g, d, tk + 1, os⟩
    refine wpAny_bind (wpAny_newTuple ?_)
    have sz3 : m3.objs.size = hp.objs.size := by rw [b3'.1, b2'.1, b1'.1]
    have elt : e < hp.objs.size := Heap.lt_size he
    have up3 : ∀ b o, b ≠ e → b ≠ it → hp.get? b = some o → m3.get? b = some o := fun b o n1 n2 q => b3'.extBut b o n1 (b2'.extBut b o n1 (b1'.extBut b o n2 q))
    have it3 : m3.IsTupleIter it l (i + 1) := (it1.extBut b2'.extBut (Ne.symm hne)).extBut b3'.extBut (Ne.symm hne)
    generalize q4 : m3.push { cls := .type "tuple", data := .seq #[.int i tk, x] } = m4
    have e4 : IsEnum m4 e it ((i : Int) + 1) old := by rw [← q4]; exact Heap.get?_push_of_some _ e3'
    have t4 : m4.get? hp.objs.size = some { cls := .type "tuple", data := .seq #[.int i tk, x] } := by rw [← q4, ← sz3]; exact Heap.get?_push_size _ rfl
    have sz4 : m4.objs.size = hp.objs.size + 1 := by rw [← q4, Heap.size_push, sz3]
    have up4 : ∀ b o, b ≠ e → b ≠ it → hp.get? b = some o → m4.get? b = some o := fun b o n1 n2 q => by rw [← q4]; exact Heap.get?_push_of_some _ (up3 b o n1 n2 q)
    have it4 : m4.IsTupleIter it l (i + 1) := by
      obtain ⟨o, ho, rr⟩ := it3
      exact ⟨o, by rw [← q4]; exact Heap.get?_push_of_some _ ho, rr⟩
    show wpAny _ _ (Builtin.SmallTypes.ownedTupleIsFree (.ref e) >>= _) _ _ ⟨m4, g, d, tk + 1, os⟩
    rw [sz3]
    refine wpAny_bind ?_
    unfold Builtin.SmallTypes.ownedTupleIsFree
    refine wpAny_bind (wpAny_field e4 rfl (x := .none) rfl (wpAny_pure ?_))
    simp only [if_true]
    refine wpAny_bind (wpAny_rule ?_)
    refine wpAny_bind (wpAny_field e4 rfl (x := old) rfl ?_)
    refine wpAny_bind (wpAny_setField_rec e4 (by simp) fun m5 e5 b5 => ?_)
    have b5' : Heap.SameBut e m4 m5 := b5
    have e5' : IsEnum m5 e it ((i : Int) + 1) x := e5
    show wpAny _ _ (Builtin.SmallTypes.ownedTupleHandOut (.ref e) (.ref hp.objs.size) >>= _) _ _ ⟨m5, g, d, tk + 1, os⟩
    refine wpAny_bind ?_
    unfold Builtin.SmallTypes.ownedTupleHandOut
    refine wpAny_bind (wpAny_setField_rec e5' (by simp) fun m6 e6 b6 => ?_)
    have b6' : Heap.SameBut e m5 m6 := b6
    have e6' : IsEnumOut m6 e it ((i : Int) + 1) x hp.objs.size := e6
    refine wpAny_setField_rec e6' (by simp) fun m7 e7 b7 => ?_
    have b7' : Heap.SameBut e m6 m7 := b7
    have e7' : IsEnumOut m7 e it ((i : Int) + 1) x hp.objs.size := e7
    have up7 : ∀ b o, b ≠ e → m4.get? b = some o → m7.get? b = some o := fun b o n q => b7'.extBut b o n (b6'.extBut b o n (b5'.extBut b o n q))
    refine wpAny_bind (wpAny_letGo (wpAny_pure ⟨_, rfl, hQ m7 e7' (it4.at fun o q => up7 it o (Ne.symm hne) q) (up7 _ _ (Nat.ne_of_gt elt) t4) (by rw [b7'.1, b6'.1, b5'.1, sz4]) fun b o n1 n2 q => up7 b o n1 (up4 b o n1 n2 q)⟩))
  unfold pyNext
  refine wpAny_bind (wpAny_attempt (wpAny_callSpecial?_slot (name := Str.ofString "__next__") hT F.slot_enumerate_next (wpAny_call_entry F.slot_enumerate_next hT F.entry_enumerate_next ?_ (F.args_enumerate_next_1 _))))
  exact wpAny_mono (core _) (fun fin s' ⟨v, e1, q⟩ => ⟨v, e1, wpAny_pure q⟩) fun _ _ z => z
theorem en_end {e it l : Addr} {i : Nat} {items : Array Value} {old : Value} {Q : Option Value → Shared → Prop} (hh : A.handled = none) (he : IsEnum s.heap e it i old) (hit : s.heap.IsTupleIter it l i) (hl : s.heap.IsTuple l items) (hx : items[i]? = none)
    (hQ : ∀ h', Heap.ExtBut it s.heap h' → Q none { s with heap := h' }) : wpAny (model prog w) A (pyNext (.ref e)) Q E s := by
  have hT : s.TypeIs (.ref e) "enumerate" := ⟨_, he, rfl⟩
  unfold pyNext
  refine wpAny_bind (wpAny_attempt (wpAny_callSpecial?_slot (name := Str.ofString "__next__") hT F.slot_enumerate_next (wpAny_call_entry F.slot_enumerate_next hT F.entry_enumerate_next ?_ (F.args_enumerate_next_1 _))))
  show wpAny _ _ (field (.ref e) 2 >>= _) _ _ _
  refine wpAny_bind (wpAny_field he rfl (x := .ref it) rfl ?_)
  refine wpAny_bind (RZ.nextOf_tuple_end hh hit hl hx fun h' x he' ⟨o, ho, hc⟩ => ?_)
  exact wpAny_bind (wpAny_isInstance (T := "StopIteration") (b := true) ⟨o, ho, hc⟩ isSubtype_stop (wpAny_pure (hQ _ he')))
end
/-- the tuple at a, each item with its number in a new pair -/
def IteT (K : PySem.W.Frag) (a : Addr) : It :=
  ⟨fun i H => ∃ (xs : List V) (x : V), SqT K H a xs ∧ xs[i]? = some x, fun i H v H' => ∃ T x, v = .ref T ∧ H T = none ∧ H' = upd H T (.tup [.int (i : Nat), x]) ∧ ∀ xs, SqT K H a xs → xs[i]? = some x, fun i H => ∃ xs : List V, SqT K H a xs ∧ xs.length ≤ i⟩
theorem en_turn {P : Program} {w : World} {K : PySem.W.Frag} {elts : List Expr} {kk : Nat} {tpos : Pos} (a e it : Addr) : Turn P w K (.Tuple elts kk tpos) (IteT K a) [e, it] e (fun i h => (∃ old, IsEnum h e it ((i : Nat) : Int) old) ∧ h.IsTupleIter it a i ∧ e ≠ it) where
  mem := by simp
  obj := fun i h st b hb => by
    obtain ⟨⟨old, he⟩, ⟨o, ho, hc, hd⟩, _⟩ := st
    rcases (show b = e ∨ b = it by simpa using hb) with rfl | rfl
    · exact ⟨_, he, fun v q => nomatch q⟩
    · exact ⟨o, ho, fun v q => by rw [hd] at q; cases q⟩
  keep := fun i h h' ⟨⟨old, he⟩, hi, hne⟩ k => ⟨⟨old, k e (by simp) _ he⟩, hi.at fun o q => k it (by simp) o q, hne⟩
  item := by
    intro X hP hw hK hc i pins s σ H E I hf st hg
    subst hP hw hK
    obtain ⟨⟨old, he⟩, hit, hne⟩ := st
    obtain ⟨xs, x, hq, hx⟩ := hg
    obtain ⟨its, rv, p, hz⟩ := I.tuple hq
    obtain ⟨u, hu, ru⟩ := rv.get hx
    have hel : e < s.heap.objs.size := Heap.lt_size he
    have hil : it < s.heap.objs.size := by obtain ⟨_, q, _⟩ := hit; exact Heap.lt_size q
    refine en_item he hit (show s.heap.IsTuple a its.toArray from p) (x := u) (by simpa using hu) hne fun h1 ho hit' hT hsz hk => ⟨_, rfl, wpAny_letOwnedTupleGo_enum (s := { s with heap := h1, toks := s.toks + 1 }) ho fun h2 he' sb => ?_⟩
    have hT2 : h2.get? s.heap.objs.size = some { cls := .type "tuple", data := .seq #[.int i s.toks, u] } := (sb.2 _ (Nat.ne_of_gt hel)).trans hT
    have new : ObjOk X.prog X.w (upd H s.heap.objs.size (.tup [.int (i : Nat), x])) h2 s.heap.objs.size (.tup [.int (i : Nat), x]) := ⟨by show 2 ≤ sizeLine; decide, [.int i s.toks, u], .cons ⟨_, rfl⟩ (.cons ru .nil), ⟨_, hT2, rfl, _, rfl⟩⟩
    have I1 : Inv X pins σ (upd H s.heap.objs.size (.tup [.int (i : Nat), x])) { s with heap := h2, toks := s.toks + 1 } :=
      I.turnedNew (ch := [e, it]) (fun b ob hb q => (sb.2 b (fun z => hb (by simp [z]))).trans (hk b ob (fun z => hb (by simp [z])) (fun z => hb (by simp [z])) q)) hf (Nat.le_refl _) new
    refine ⟨.ref s.heap.objs.size, _, I1, rfl, ⟨_, x, rfl, I.hok.fresh (Nat.le_refl _), rfl, fun ys hy => by rw [I.tuple_inj hy hq]; exact hx⟩, ⟨⟨u, ?_⟩, hit'.at fun o q => (sb.2 it (Ne.symm hne)).trans q, hne⟩, fun b hb => ?_⟩
    · have e1 : ((i + 1 : Nat) : Int) = (i : Int) + 1 := by omega
      rw [e1]
      exact he'
    · have hb' : b < s.heap.objs.size := by
        rcases (show b = e ∨ b = it by simpa using hb) with rfl | rfl
        · exact hel
        · exact hil
      rw [upd_ne (Nat.ne_of_lt hb')]
      exact (hf b hb).1
  done := by
    intro X hP hw hK hc i pins s σ H E I hf st hg
    subst hP hw hK
    obtain ⟨⟨old, he⟩, hit, hne⟩ := st
    obtain ⟨xs, hq, hx⟩ := hg
    obtain ⟨its, rv, p, hz⟩ := I.tuple hq
    obtain ⟨f0, f1, f2, f3, f4, f5⟩ := hf it (by simp)
    have hl := rv.length
    exact en_end (I.ok.hd hc) he hit (show s.heap.IsTuple a its.toArray from p) (by simp; omega) fun h' eb => ⟨rfl, I.turned (t' := s.toks) (fun b o hb q => eb b o hb q) f0 f1 f3 f4 f5⟩
  self := fun A i s Q E ⟨⟨_, he⟩, _⟩ h => wpAny_pyIter_enum he h
/-- enumerate of a list, of a tuple -/
def iEnA (K : PySem.W.Frag) (ta : TA) : TI := fun σ H R => ta σ H fun vs H1 => ∃ a xs, vs = [.ref a] ∧ ((SqL K H1 a xs ∧ R (Ite K a) H1) ∨ (SqT K H1 a xs ∧ R (IteT K a) H1))
theorem pi_enA {X : Cx} {e : Expr} {ta : TA} {p pos tpos : Pos} {elts : List Expr} {kk : Nat} (hg : Gl X "enumerate") (hm : X.mg "enumerate" = none) (ha : PA X [e] ta) (hs : starEach [e] X.env = [(false, eval e X.env)] := by rfl) : PI X (.Tuple elts kk tpos) (.Call (.Name "enumerate" p) [e] [] pos) (iEnA X.K ta) := by
  constructor
  intro pins s σ H R I h
  refine Call_ (ld_blt I hg hm boot_enumerate (PyProof.Rows.callWith_type1 (thn (ha.run pos pins s σ H _ I h) ?_) hs rfl))
  rintro us s1 ⟨vs, H1, I1, r1, a, xs, rfl, q⟩
  cases r1 with
  | cons r rr =>
    cases rr
    cases r
    have fp : ∀ b ∈ [s1.heap.objs.size + 1, s1.heap.objs.size], FpOk X pins H1 b := fun b hb => by
      have hle : s1.heap.objs.size ≤ b := by
        rcases (show b = s1.heap.objs.size + 1 ∨ b = s1.heap.objs.size by simpa using hb) with z | z <;> omega
      exact I1.fpOk hle (I1.hok.fresh hle)
    rcases q with ⟨hq, q⟩ | ⟨hq, q⟩
    · obtain ⟨its, rv, p', hz⟩ := I1.list hq
      exact call_enumerate_list p'.isList fun h' he hit hsz hk => wpAny_pyIter_enum he ⟨_, _, _, _, H1, rfl, I1.kept (t' := s1.toks) hk, turn_enum a (s1.heap.objs.size + 1) s1.heap.objs.size, ⟨⟨.none, he⟩, hit, Nat.succ_ne_self _⟩, fp, q⟩
    · obtain ⟨its, rv, p', hz⟩ := I1.tuple hq
      exact en_call (show s1.heap.IsTuple a its.toArray from p') fun h' he hit hsz hk => wpAny_pyIter_enum he ⟨_, _, _, _, H1, rfl, I1.kept (t' := s1.toks) hk, en_turn a (s1.heap.objs.size + 1) s1.heap.objs.size, ⟨⟨.none, he⟩, hit, Nat.succ_ne_self _⟩, fp, q⟩
/-- pairs of a number and an item -/
def enumD : Nat → List D → List D
  | _, [] => []
  | n, x :: xs => .tup [.int n, x] :: enumD (n + 1) xs
theorem enumD_len : ∀ (xs : List D) (n : Nat), (enumD n xs).length = xs.length
  | [], _ => rfl
  | _ :: xs, n => congrArg (· + 1) (enumD_len xs (n + 1))
theorem enumD_get : ∀ (xs : List D) (n i : Nat) (d : D), (enumD n xs)[i]? = some d → ∃ x, xs[i]? = some x ∧ d = .tup [.int ((n + i : Nat) : Int), x]
  | [], n, i, d, h => by simp [enumD] at h
  | x :: xs, n, 0, d, h => ⟨x, rfl, (Option.some.inj h).symm⟩
  | x :: xs, n, i + 1, d, h => by
    obtain ⟨y, h1, h2⟩ := enumD_get xs (n + 1) i d h
    exact ⟨y, h1, by rw [h2, show n + 1 + i = n + (i + 1) by omega]⟩
def dEnum (fa : DA) : DI := fun X ρ Q => fa X ρ fun ss ρ' => match ss with
  | [.dat (.tup a)] => Q (enumD 0 a) ρ'
  | [.dat (.lst a)] => Q (enumD 0 a) ρ'
  | _ => False
theorem di_enum {X : Cx} {W : WX} {e : Expr} {fa : DA} {p pos tpos : Pos} {elts : List Expr} {kk : Nat} (hm : X.mg "enumerate" = none) (ha : PA X [e] (lA X.K W fa)) (hg : Gl X "enumerate" := by rfl) (hs : starEach [e] X.env = [(false, eval e X.env)] := by rfl) :
    PI X (.Tuple elts kk tpos) (.Call (.Name "enumerate" p) [e] [] pos) (lI X.K W (dEnum fa)) :=
  pi_imp (pi_enA hg hm ha hs) fun σ H R ⟨ρ, G, la, P, XX, r, h, q, xo⟩ => ⟨ρ, G, la, _, XX, r, h, fun xs ρ1 vs G1 la1 H1 p1 a1 z1 => by
    have p1' : (match (generalizing := false) xs with
      | [.dat (.tup a)] => P (enumD 0 a) ρ1
      | [.dat (.lst a)] => P (enumD 0 a) ρ1
      | _ => False) := p1
    split at p1'
    · rename_i da
      cases z1 with
      | cons a b =>
        cases b
        cases (show Dp _ _ _ (.tup da) from a) with
        | tup ha lz ra =>
          rename_i pa va
          refine ⟨pa, va, rfl, .inr ⟨same_t a1.r.ext ha, q _ _ _ _ _ _ p1' a1 ⟨fun i H hi e => ?_, fun H e => ?_, fun i G' H x H' e e' y z hz => ?_⟩ ?_⟩⟩
          · rw [enumD_len] at hi
            have h1 : i < va.length := by rw [ra.len]; exact hi
            exact ⟨va, va[i], same_t e ha, by simp [h1]⟩
          · exact ⟨va, same_t e ha, by rw [enumD_len, ra.len]; exact Nat.le_refl _⟩
          · obtain ⟨T, u, rfl, hT, rfl, f1⟩ := y
            obtain ⟨dx, h1, rfl⟩ := enumD_get _ _ _ _ hz
            obtain ⟨d1, g1, k1⟩ := ra.getV (f1 va (same_t (e.trans e') ha))
            rw [h1] at g1
            have q1 := Option.some.inj g1
            subst q1
            rw [Nat.zero_add]
            exact pair_dp e' hT (.int _) (k1.up e)
          · rw [enumD_len, ← ra.len]
            exact Nat.le_trans lz line62
    · rename_i da
      cases z1 with
      | cons a b =>
        cases b
        cases (show Dp _ _ _ (.lst da) from a) with
        | lst ha lz ra =>
          rename_i pa va
          refine ⟨pa, va, rfl, .inl ⟨SqL.of (a1.r.ext _ _ ha), q _ _ _ _ _ _ p1' a1 ⟨fun i H hi e => ?_, fun H e => ?_, fun i G' H x H' e e' y z hz => ?_⟩ ?_⟩⟩
          · rw [enumD_len] at hi
            have h1 : i < va.length := by rw [ra.len]; exact hi
            exact ⟨va, va[i], SqL.of (e _ _ ha), by simp [h1]⟩
          · exact ⟨va, SqL.of (e _ _ ha), by rw [enumD_len, ra.len]; exact Nat.le_refl _⟩
          · obtain ⟨T, u, rfl, hT, rfl, f1⟩ := y
            obtain ⟨dx, h1, rfl⟩ := enumD_get _ _ _ _ hz
            obtain ⟨d1, g1, k1⟩ := ra.getV (f1 va (SqL.of (e' _ _ (e _ _ ha))))
            rw [h1] at g1
            have q1 := Option.some.inj g1
            subst q1
            rw [Nat.zero_add]
            exact pair_dp e' hT (.int _) (k1.up e)
          · rw [enumD_len, ← ra.len]
            exact Nat.le_trans lz line62
    · exact p1'.elim, xo⟩
end DL
set_option Elab.async false
set_option linter.all false
set_option maxRecDepth 100000
set_option maxHeartbeats 4000000
set_option autoImplicit false
/-! The data level: what was left: - of ints, is of bools, list * int, max with a default, fresh lists, three names at once; names of built-ins. -/
namespace DL
open PySem PySem.Spec PyProof.Rows L2

theorem bt_int : bootBuiltins "int" = some (.type "int") := by decide +kernel
theorem bt_bool : bootBuiltins "bool" = some (.type "bool") := by decide +kernel
theorem bt_str : bootBuiltins "str" = some (.type "str") := by decide +kernel
theorem bt_tuple : bootBuiltins "tuple" = some (.type "tuple") := by decide +kernel
theorem bt_list : bootBuiltins "list" = some (.type "list") := by decide +kernel
theorem bt_isinstance : bootBuiltins "isinstance" = some (.builtin "isinstance") := by decide +kernel
theorem bt_abs : bootBuiltins "abs" = some (.builtin "abs") := by decide +kernel
theorem bt_max : bootBuiltins "max" = some (.builtin "max") := by decide +kernel
theorem bt_min : bootBuiltins "min" = some (.builtin "min") := by decide +kernel

section
variable {X : Cx} {W : WX}
theorem de_neg {a : Expr} {fa : DE} {pos : Pos} (ha : PE X a (lE X.K W fa)) : PE X (.UnaryOp .USub a pos) (lE X.K W (dUn gNeg fa)) := de_un un_neg (fun G H x d P Q sm dx gp k => by
  unfold gNeg at gp
  split at gp
  · cases dx
    exact ⟨_, rfl, k _ _ _ _ gp (Grow.refl sm) (.int _)⟩
  · exact gp.elim) ha
end
/-! ### is, is not of bools -/
def gIsB : D → D → (D → Prop) → Prop
  | .bl a, .bl b, P => P (.bl (decide (a = b)))
  | _, _, _ => False
def gNotB : D → D → (D → Prop) → Prop
  | .bl a, .bl b, P => P (.bl (!decide (a = b)))
  | _, _, _ => False
theorem g_isB {K : PySem.W.Frag} : GOp K rIsB gIsB := by
  intro G H x y d e P Q sm dx dy gp k
  unfold gIsB at gp
  split at gp
  · cases dx
    cases dy
    exact ⟨_, _, rfl, rfl, k _ _ _ _ gp (Grow.refl sm) (.bl _)⟩
  · exact gp.elim
theorem g_notB {K : PySem.W.Frag} : GOp K rNotB gNotB := by
  intro G H x y d e P Q sm dx dy gp k
  unfold gNotB at gp
  split at gp
  · cases dx
    cases dy
    exact ⟨_, _, rfl, rfl, k _ _ _ _ gp (Grow.refl sm) (.bl _)⟩
  · exact gp.elim
/-! ### * : ints, tuples, lists -/
def rMulB (K : PySem.W.Frag) : R2 := fun x y H Q => rMulA K x y H Q ∨ rRep x y H Q
theorem op_mulB {X : Cx} : OpR X (binaryOp .Mult) (rMulB X.K) := op_mulA.or op_rep
def gMulB : D → D → (D → Prop) → Prop
  | .int i, .int j, P => CMulW i j ∧ P (.int (i * j))
  | .tup xs, .int k, P => (-1000 ≤ k ∧ k ≤ 1000 ∧ xs.length ≤ 1000) ∧ P (.tup (List.replicate k.toNat xs).flatten)
  | .lst xs, .int k, P => (-1000 ≤ k ∧ k ≤ 1000 ∧ xs.length ≤ 1000) ∧ P (.lst (List.replicate k.toNat xs).flatten)
  | _, _, _ => False
theorem g_mulB {K : PySem.W.Frag} : GOp K (rMulB K) gMulB := by
  intro G H x y d e P Q sm dx dy gp k
  unfold gMulB at gp
  split at gp
  · exact .inl (g_mulA G H x y _ _ P Q sm dx dy gp k)
  · exact .inl (g_mulA G H x y _ _ P Q sm dx dy gp k)
  · cases dy
    cases dx with
    | lst a l r =>
      rename_i xs kk p vs
      obtain ⟨⟨b1, b2, b3⟩, p1⟩ := gp
      have lz := rep_len (xs := vs) b2 (by rw [r.len]; exact b3)
      refine .inr ⟨_, kk, vs, rfl, rfl, sm _ _ a, by omega, by omega, ?_, fun q hq => k _ _ _ _ p1 (Grow.new sm hq) (.lst upd_same lz ((r.rep _).up (Grow.new sm hq).g))⟩
      rw [PyProof.Rows.lm_len_rep_flat, Nat.mul_comm] at lz
      exact lz
  · exact gp.elim
/-! ### a list that may be changed, by list(..) -/
def dNewOf (fa : DA) : DL' := fun X ρ Q => fa X ρ fun xs ρ' => match xs with
  | [.dat (.tup ds)] => Q (.ob ρ'.T.length) ⟨ρ'.T ++ [.lst ds], ρ'.s⟩
  | [.dat (.lst ds)] => Q (.ob ρ'.T.length) ⟨ρ'.T ++ [.lst ds], ρ'.s⟩
  | _ => False
section
variable {X : Cx} {W : WX}
theorem newOf_core {K : PySem.W.Frag} {G1 H1 : Hp} {la1 : List Addr} {σ : L2.St} {ρ1 : Env} {p : Addr} {vs : List V} {ds : List D} (r : Re K G1 H1 la1 σ ρ1) (hp : H1 p = none) (l : vs.length ≤ sizeLine) (d : Dps K G1 vs ds) :
    Re K G1 (upd H1 p (.lst vs)) (la1 ++ [p]) σ ⟨ρ1.T ++ [.lst ds], ρ1.s⟩ ∧ SlR K G1 (la1 ++ [p]) (.ref p) (.ob ρ1.T.length) := by
  refine ⟨⟨r.tb.fresh hp l d, r.sl, fun j y hj => ?_⟩, p, ?_, rfl⟩
  · obtain ⟨u, hu, ru⟩ := r.at_ j y hj
    exact ⟨u, hu, ru.grow (Same.refl _) (List.prefix_append _ _)⟩
  · rw [← r.tb.len, List.getElem?_append_right (Nat.le_refl _)]
    simp
theorem dl_listN {e : Expr} {p pos : Pos} {fa : DA} (hm : X.mg "list" = none) (ha : PA X [e] (lA X.K W fa)) (hgl : Gl X "list" := by rfl) (he : starEach [e] X.env = (false, eval e X.env) :: starEach [] X.env := by rfl) (hpl : (backTo pos (starEach [] X.env)).any (·.1) = false := by rfl) :
    PE X (.Call (.Name "list" p) [e] [] pos) (lL X.K W (dNewOf fa)) :=
  pe_imp (pe_callTy call_list_of hgl hm bt_list ha (by decide) (by decide) he hpl) fun σ H Q ⟨ρ, G, la, P, XX, re, h, q, xo⟩ =>
  ⟨ρ, G, la, _, XX, re, h, fun xs ρ1 vs G1 la1 H1 p1 a1 z1 => by
    have p1' : (match (generalizing := false) xs with
      | [.dat (.tup ds)] => P (.ob ρ1.T.length) ⟨ρ1.T ++ [.lst ds], ρ1.s⟩
      | [.dat (.lst ds)] => P (.ob ρ1.T.length) ⟨ρ1.T ++ [.lst ds], ρ1.s⟩
      | _ => False) := p1
    split at p1'
    · rename_i ds
      cases z1 with
      | cons a b =>
        cases b
        cases (show Dp _ _ _ (.tup ds) from a) with
        | tup ha l r =>
          refine ⟨_, _, rfl, .inr (same_t a1.r.ext ha), fun p hp => ?_⟩
          obtain ⟨c1, c2⟩ := newOf_core a1.r hp l r
          exact q _ _ _ G1 (la1 ++ [p]) _ p1' ⟨a1.g, a1.p.trans (List.prefix_append _ _), c1⟩ c2
    · rename_i ds
      cases z1 with
      | cons a b =>
        cases b
        cases (show Dp _ _ _ (.lst ds) from a) with
        | lst ha l r =>
          refine ⟨_, _, rfl, .inl (SqL.of (a1.r.ext _ _ ha)), fun p hp => ?_⟩
          obtain ⟨c1, c2⟩ := newOf_core a1.r hp l r
          exact q _ _ _ G1 (la1 ++ [p]) _ p1' ⟨a1.g, a1.p.trans (List.prefix_append _ _), c1⟩ c2
    · exact p1'.elim, xo⟩
/-- three names at once -/
theorem ds_par3 (i j l : Nat) {x y z : Str} {a b c : Expr} {f g h : DL'} {px py pz pt pos : Pos} {kt k2 pt2} (hc : X.calm = true) (hN : X.N.Nodup) (ha : PA X [a, b, c] (lA X.K W (dCons f (dCons g (dCons h dNil))))) (hw : swappedStores [.Tuple [.Name x px, .Name y py, .Name z pz] kt pt] (.Tuple [a, b, c] k2 pt2) X.env = pure (some [x, y, z]) := by rfl)
    (hi : X.N[i]? = some x := by rfl) (hj : X.N[j]? = some y := by rfl) (hl : X.N[l]? = some z := by rfl) (hij : i ≠ j := by decide) (hil : i ≠ l := by decide) (hjl : j ≠ l := by decide) (hx : X.env.scope.names.lookup x = some .local := by rfl) (hy : X.env.scope.names.lookup y = some .local := by rfl) (hz : X.env.scope.names.lookup z = some .local := by rfl)
    (hs : swapsWithSole [.Tuple [.Name x px, .Name y py, .Name z pz] kt pt] (.Tuple [a, b, c] k2 pt2) pos.line X.env = pure false := by rfl) : PS X (.Assign [.Tuple [.Name x px, .Name y py, .Name z pz] kt pt] (.Tuple [a, b, c] k2 pt2) pos) (lS X.K W (sPar3 i j l f g h)) :=
  ps_imp (ps_par3 hc hN hi hj hl hij hil hjl hx hy hz ha hw hs) fun D σ H ⟨ρ, G, la, E, r, hh, b⟩ => ⟨ρ, G, la, fun xs ρ2 => ∃ u v w, xs = [u, v, w] ∧ E.nx ⟨ρ2.T, ((ρ2.s.set i (some u)).set j (some v)).set l (some w)⟩, _, r, by
    show f E.xn ρ fun x ρ1 => g E.xn ρ1 fun y ρ2 => h E.xn ρ2 fun z ρ3 => ∃ u v w, [x, y, z] = [u, v, w] ∧ E.nx ⟨ρ3.T, ((ρ3.s.set i (some u)).set j (some v)).set l (some w)⟩
    have e : (fun (x : Sl) (ρ1 : Env) => g E.xn ρ1 fun y ρ2 => h E.xn ρ2 fun z ρ3 => ∃ u v w, [x, y, z] = [u, v, w] ∧ E.nx ⟨ρ3.T, ((ρ3.s.set i (some u)).set j (some v)).set l (some w)⟩) = fun x ρ1 => g E.xn ρ1 fun y ρ2 => h E.xn ρ2 fun z ρ3 => E.nx ⟨ρ3.T, ((ρ3.s.set i (some x)).set j (some y)).set l (some z)⟩ := by
      funext x ρ1
      congr 1
      funext y ρ2
      congr 1
      funext z ρ3
      apply propext
      constructor
      · rintro ⟨u, v, w, h1, h2⟩
        cases h1
        exact h2
      · intro h2
        exact ⟨x, y, z, rfl, h2⟩
    rw [e]
    exact hh, fun xs ρ2 vs G2 la2 H2 p a z => by
    obtain ⟨u, v, w, rfl, p⟩ := p
    cases z with
    | cons z1 z =>
      cases z with
      | cons z2 z =>
        cases z with
        | cons z3 z =>
          cases z
          exact ⟨_, _, _, rfl, b.nx _ _ _ _ _ p ⟨a.g, a.p, ((a.r.set z1).set (ρ := ⟨ρ2.T, ρ2.s.set i (some u)⟩) z2).set (ρ := ⟨ρ2.T, (ρ2.s.set i (some u)).set j (some v)⟩) z3⟩⟩, b.xn⟩
end
end DL
set_option Elab.async false
set_option linter.all false
set_option maxRecDepth 100000
set_option maxHeartbeats 4000000
set_option autoImplicit false
/-! The data level: lemmas for walking by simp. -/
namespace DL
open PySem PySem.Spec PyProof.Rows L2
theorem valK_dat (Q : D → Env → Prop) (d : D) (ρ : Env) : @valK ⟨Q⟩ (.dat d) ρ = Q d ρ := rfl
theorem valK_ob (Q : D → Env → Prop) (k : Nat) (ρ : Env) : @valK ⟨Q⟩ (.ob k) ρ = match ρ.T[k]? with
    | some (.lst xs) => Q (.lst xs) ⟨ρ.T.set k .dead, ρ.s⟩
    | _ => False := rfl
/-! ### places of short lists -/
section
variable {α : Type}
theorem atI_nat (xs : List α) (i : Nat) : atI xs (i : Int) = xs[i]? := by
  unfold atI ixN
  by_cases h : (i : Int) < xs.length
  · rw [if_pos (by omega), if_pos h]
    rfl
  · rw [if_pos (by omega), if_neg h]
    show none = _
    rw [List.getElem?_eq_none (by omega)]
theorem atI_0 (x : α) (r : List α) : atI (x :: r) 0 = some x := atI_nat (x :: r) 0
theorem atI_1 (x y : α) (r : List α) : atI (x :: y :: r) 1 = some y := atI_nat (x :: y :: r) 1
theorem atI_2 (x y z : α) (r : List α) : atI (x :: y :: z :: r) 2 = some z := atI_nat (x :: y :: z :: r) 2
theorem atI_last (xs : List α) (x : α) : atI (xs ++ [x]) (-1) = some x := by
  unfold atI ixN
  rw [if_neg (by omega), if_pos (by simp; omega)]
  show (xs ++ [x])[(((xs ++ [x]).length : Int) + -1).toNat]? = some x
  rw [show (((xs ++ [x]).length : Int) + -1).toNat = xs.length by simp; omega]
  simp
theorem atI_pos {xs : List α} {i : Int} (h : 0 ≤ i) : atI xs i = xs[i.toNat]? := by
  have := atI_nat xs i.toNat
  rwa [Int.toNat_of_nonneg h] at this
theorem atI_some {xs : List α} {i : Int} (h : 0 ≤ i) (h2 : i < xs.length) : atI xs i = some (xs[i.toNat]'(by omega)) := by
  rw [atI_pos h, List.getElem?_eq_getElem]
theorem ixN_pos {n : Nat} {i : Int} (h : 0 ≤ i) (h2 : i < n) : ixN n i = some i.toNat := by
  unfold ixN
  rw [if_pos h, if_pos h2]
theorem ixN_20 : ixN 2 0 = some 0 := rfl
theorem ixN_21 : ixN 2 1 = some 1 := rfl
theorem atI_map' (f : Int → D) (xs : List Int) (i : Int) : atI (xs.map f) i = (atI xs i).map f := by
  unfold atI
  rw [List.length_map]
  cases ixN xs.length i with
  | none => rfl
  | some j => simp
theorem set_last (T : List α) (x y : α) : (T ++ [x]).set T.length y = T ++ [y] := by simp
theorem get_last (T : List α) (x : α) : (T ++ [x])[T.length]? = some x := by simp
theorem take_last (T : List α) (x : α) : (T ++ [x]).take T.length = T := by simp
end
/-! ### equality of data -/
theorem deq_str (a b : Str) : deq (.str a) (.str b) = (a == b) := by simp [deq, toP, PyData.eqv]
theorem deq_int (a b : Int) : deq (.int a) (.int b) = (a == b) := by simp [deq, toP, PyData.eqv]
theorem deq_non : deq .non .non = true := by simp [deq, toP, PyData.eqv]
theorem deq_bl (a b : Bool) : deq (.bl a) (.bl b) = (a == b) := by simp [deq, toP, PyData.eqv]
theorem deq_tt (a b : List D) : deq (.tup a) (.tup b) = deqs a b := by simp [deq, deqs, toP, PyData.eqv]
theorem deq_ll (a b : List D) : deq (.lst a) (.lst b) = deqs a b := by simp [deq, deqs, toP, PyData.eqv]
theorem deqs_nn : deqs [] [] = true := by simp [deqs, toPs, PyData.eqvAll]
theorem deqs_cc (a b : D) (r s : List D) : deqs (a :: r) (b :: s) = (deq a b && deqs r s) := by simp [deq, deqs, toPs, PyData.eqvAll]
theorem deqs_nc (b : D) (s : List D) : deqs [] (b :: s) = false := by simp [deqs, toPs, PyData.eqvAll]
theorem deqs_cn (b : D) (s : List D) : deqs (b :: s) [] = false := by simp [deqs, toPs, PyData.eqvAll]
theorem deq_sn (a : Str) : deq (.str a) .non = false := by simp [deq, toP, PyData.eqv]
theorem deq_ni (a : Int) : deq .non (.int a) = false := by simp [deq, toP, PyData.eqv]
theorem deq_in (a : Int) : deq (.int a) .non = false := by simp [deq, toP, PyData.eqv]
theorem deq_tn (a : List D) : deq (.tup a) .non = false := by simp [deq, toP, PyData.eqv]
theorem deq_nt (a : List D) : deq .non (.tup a) = false := by simp [deq, toP, PyData.eqv]
mutual
theorem eqvP_refl : ∀ (n : Nat) (d : D), okd n d = true → PyData.eqv (toP d) (toP d) = true
  | _, .non, _ => by simp [toP, PyData.eqv]
  | _, .bl b, _ => by simp [toP, PyData.eqv]
  | _, .int b, _ => by simp [toP, PyData.eqv]
  | _, .str b, _ => by simp [toP, PyData.eqv]
  | n, .raw _, h => by simp [okd] at h
  | 0, .tup xs, h => by simp [okd] at h
  | n + 1, .tup xs, h => by
    simp only [okd] at h
    simp only [toP, PyData.eqv]
    exact eqvPs_refl n xs h
  | 0, .lst xs, h => by simp [okd] at h
  | n + 1, .lst xs, h => by
    simp only [okd] at h
    simp only [toP, PyData.eqv]
    exact eqvPs_refl n xs h
  | n, .scr ns, h => by
    simp only [toP, PyData.eqv]
    clear h
    induction ns with
    | nil => simp [PyData.eqvAll]
    | cons x r ih => simp [PyData.eqvAll, PyData.eqv, ih]
theorem eqvPs_refl : ∀ (n : Nat) (ds : List D), okds n ds = true → PyData.eqvAll (toPs ds) (toPs ds) = true
  | _, [], _ => by simp [toPs, PyData.eqvAll]
  | n, d :: ds, h => by
    simp only [okds, Bool.and_eq_true] at h
    simp only [toPs, PyData.eqvAll, Bool.and_eq_true]
    exact ⟨eqvP_refl n d h.1, eqvPs_refl n ds h.2⟩
end
theorem deq_refl {d : D} (n : Nat) (h : okd n d = true) : deq d d = true := eqvP_refl n d h
mutual
theorem okd_up : ∀ (n : Nat) (d : D), okd n d = true → okd (n + 1) d = true
  | _, .non, _ => by simp [okd]
  | _, .bl b, _ => by simp [okd]
  | _, .int b, _ => by simp [okd]
  | _, .str b, _ => by simp [okd]
  | n, .raw _, h => by simp [okd] at h
  | 0, .tup xs, h => by simp [okd] at h
  | n + 1, .tup xs, h => by
    simp only [okd] at h ⊢
    exact okds_up n xs h
  | 0, .lst xs, h => by simp [okd] at h
  | n + 1, .lst xs, h => by
    simp only [okd] at h ⊢
    exact okds_up n xs h
  | n, .scr ns, h => by simp [okd] at h
theorem okds_up : ∀ (n : Nat) (ds : List D), okds n ds = true → okds (n + 1) ds = true
  | _, [], _ => by simp [okds]
  | n, d :: ds, h => by
    simp only [okds, Bool.and_eq_true] at h ⊢
    exact ⟨okd_up n d h.1, okds_up n ds h.2⟩
end
theorem okd_le {n m : Nat} {d : D} (h : okd n d = true) (l : n ≤ m) : okd m d = true := by
  induction l with
  | refl => exact h
  | step _ ih => exact okd_up _ _ ih
theorem okds_iff (n : Nat) : ∀ ds : List D, okds n ds = true ↔ ∀ d ∈ ds, okd n d = true
  | [] => by simp [okds]
  | d :: ds => by simp [okds, okds_iff n ds]
theorem okd_item {n : Nat} {ds : List D} {d : D} (h : okd (n + 1) (.tup ds) = true) (m : d ∈ ds) : okd (n + 1) d = true := by
  simp only [okd] at h
  exact okd_up _ _ ((okds_iff n ds).mp h d m)
theorem okd_itemL {n : Nat} {ds : List D} {d : D} (h : okd (n + 1) (.lst ds) = true) (m : d ∈ ds) : okd (n + 1) d = true := by
  simp only [okd] at h
  exact okd_up _ _ ((okds_iff n ds).mp h d m)
theorem okd_non (n : Nat) : okd n .non = true := by simp [okd]
theorem okd_bl (n : Nat) (b : Bool) : okd n (.bl b) = true := by simp [okd]
theorem okd_int (n : Nat) (i : Int) : okd n (.int i) = true := by simp [okd]
theorem okd_str (n : Nat) (x : Str) : okd n (.str x) = true := by simp [okd]
theorem okds_nil (n : Nat) : okds n [] = true := by simp [okds]
theorem okds_cons (n : Nat) (d : D) (r : List D) : okds n (d :: r) = (okd n d && okds n r) := by simp [okds]
theorem okd_60t (xs : List D) : okd 60 (.tup xs) = okds 59 xs := by simp [okd]
theorem okd_59t (xs : List D) : okd 59 (.tup xs) = okds 58 xs := by simp [okd]
theorem okd_58t (xs : List D) : okd 58 (.tup xs) = okds 57 xs := by simp [okd]
theorem okd_60l (xs : List D) : okd 60 (.lst xs) = okds 59 xs := by simp [okd]
theorem okd_59l (xs : List D) : okd 59 (.lst xs) = okds 58 xs := by simp [okd]
theorem okd_58l (xs : List D) : okd 58 (.lst xs) = okds 57 xs := by simp [okd]
theorem st_tk : (("to" : Str) == ("bark" : Str)) = false := by decide
theorem st_tb : (("to" : Str) == ("back" : Str)) = false := by decide
theorem st_tf : (("to" : Str) == ("front" : Str)) = false := by decide
theorem st_kt : (("bark" : Str) == ("to" : Str)) = false := by decide
theorem st_kb : (("bark" : Str) == ("back" : Str)) = false := by decide
theorem st_kf : (("bark" : Str) == ("front" : Str)) = false := by decide
theorem st_bt : (("back" : Str) == ("to" : Str)) = false := by decide
theorem st_bk : (("back" : Str) == ("bark" : Str)) = false := by decide
theorem st_bf : (("back" : Str) == ("front" : Str)) = false := by decide
theorem st_ft : (("front" : Str) == ("to" : Str)) = false := by decide
theorem st_fk : (("front" : Str) == ("bark" : Str)) = false := by decide
theorem st_fb : (("front" : Str) == ("back" : Str)) = false := by decide
theorem nat_num (n : Nat) : ((@OfNat.ofNat Nat n (instOfNatNat n) : Nat) : Int) = (@OfNat.ofNat Int n (@instOfNat n)) := rfl
/-! ### tuples of whole numbers -/
def tupI (xs : List Int) : D := .tup (xs.map .int)
theorem okds_ints (n : Nat) (xs : List Int) : okds n (xs.map .int) = true := by
  rw [okds_iff]
  intro d hd
  obtain ⟨x, _, rfl⟩ := List.mem_map.mp hd
  simp [okd]
theorem okd_tupI (n : Nat) (xs : List Int) : okd (n + 1) (tupI xs) = true := by
  simp only [tupI, okd]
  exact okds_ints n xs
theorem okd_tI (n : Nat) (xs : List Int) : okd (n + 1) (.tup (xs.map .int)) = true := okd_tupI n xs
theorem dat_tI (xs : List Int) : D.tup (xs.map .int) = tupI xs := rfl
theorem intsOf_map : ∀ xs : List Int, intsOf (xs.map .int) = some xs
  | [] => rfl
  | x :: r => by
    show (intsOf (r.map .int)).map (x :: ·) = _
    rw [intsOf_map r]
    rfl
theorem gIx_tupI (xs : List Int) (i : Int) (P : D → Prop) : gIx (tupI xs) (.int i) P = (match atI xs i with | some n => P (.int n) | none => False) := by
  show (match atI (xs.map .int) i with | some d => P d | none => False) = _
  rw [atI_map']
  cases atI xs i <;> rfl
theorem gLen_tupI (xs : List Int) (P : D → Prop) : gLen [tupI xs] P = P (.int xs.length) := by
  show P (.int (xs.map D.int).length) = _
  rw [List.length_map]
theorem cutL_map {α β : Type} (f : α → β) (xs : List α) (lo hi : Option Int) : cutL (xs.map f) lo hi = (cutL xs lo hi).map f := by
  unfold cutL
  rw [List.length_map, List.map_take, List.map_drop]
theorem gSl_tupI (xs : List Int) (lo hi : Option Int) (P : D → Prop) : gSl (tupI xs) lo hi P = P (tupI (cutL xs lo hi)) := by
  show P (.tup (cutL (xs.map D.int) lo hi)) = _
  rw [cutL_map]
  rfl
theorem gAdd_tupI (xs ys : List Int) (P : D → Prop) : gAdd (tupI xs) (tupI ys) P = (xs.length + ys.length ≤ sizeLine ∧ P (tupI (xs ++ ys))) := by
  show ((xs.map D.int).length + (ys.map D.int).length ≤ sizeLine ∧ P (.tup (xs.map D.int ++ ys.map D.int))) = _
  rw [List.length_map, List.length_map, ← List.map_append]
  rfl
theorem cut_to {α : Type} (xs : List α) {i : Int} (h : 0 ≤ i) (h2 : i ≤ xs.length) : cutL xs none (some i) = xs.take i.toNat := by
  unfold cutL
  rw [HT.sIx_none, show HT.sIx xs.length xs.length (some i) = min i.toNat xs.length by
    have := HT.sIx_nat xs.length xs.length i.toNat
    rwa [Int.toNat_of_nonneg h] at this]
  rw [show min i.toNat xs.length = i.toNat by omega]
  simp
theorem cut_from {α : Type} (xs : List α) {i : Int} (h : 0 ≤ i) : cutL xs (some i) none = xs.drop i.toNat := by
  unfold cutL
  rw [HT.sIx_none, show HT.sIx xs.length 0 (some i) = min i.toNat xs.length by
    have := HT.sIx_nat xs.length 0 i.toNat
    rwa [Int.toNat_of_nonneg h] at this]
  by_cases q : i.toNat ≤ xs.length
  · rw [Nat.min_eq_left q]
    rw [List.take_of_length_le]
    simp
  · rw [Nat.min_eq_right (by omega)]
    simp
    omega
/-! ### walks -/
theorem loop_inv {g : DG} {B : DS} {E : DN} (I : List D → Env → Prop) (step : ∀ d r ρ, I (d :: r) ρ → ∀ N : Env → Prop, (∀ ρ', I r ρ' → N ρ') → g d ρ fun ρ' => B { E with nx := N, ct := N, bk := E.nx } ρ') (done : ∀ ρ, I [] ρ → E.nx ρ) : ∀ (ds : List D) (ρ : Env), I ds ρ → loopD g B E ds ρ
  | [], ρ, h => done ρ h
  | d :: ds, ρ, h => step d ds ρ h (loopD g B E ds) fun ρ' h' => loop_inv I step done ds ρ' h'
theorem comp_inv {g : DG} {t : DT} {e : DE} {own : List Nat} {k : Nat} {T : List Ob} {s0 : List (Option Sl)} {Q : Env → Prop} (hk : k = T.length) (I : List D → List D → List Ob → Prop)
    (step : ∀ d r acc T', T'.length = k → acc.length + (d :: r).length ≤ sizeLine → I (d :: r) acc T' → ∀ R : Option D → Env → Prop, (∀ o T'' s', T''.length = k → I r (acc ++ o.toList) T'' → wipeS s' own = s0 → R o ⟨T'' ++ [.lst acc], s'⟩) →
      g d ⟨T' ++ [.lst acc], s0⟩ fun ρ1 => t X0 ρ1 fun b ρ2 => if b = true then e X0 ρ2 fun y ρ3 => R (some y) ρ3 else R none ρ2)
    (done : ∀ acc T' s', T'.length = k → I [] acc T' → wipeS s' own = s0 → Q ⟨T' ++ [.lst acc], s'⟩) : ∀ (ds acc : List D) (T' : List Ob) (s' : List (Option Sl)), T'.length = k → acc.length + ds.length ≤ sizeLine → I ds acc T' → wipeS s' own = s0 → compD g t e own k ds ⟨T' ++ [.lst acc], s'⟩ Q
  | [], acc, T', s', hl, _, h, hs => done acc T' s' hl h hs
  | d :: ds, acc, T', s', hl, hz, h, hs => by
    unfold compD
    simp only
    rw [hs]
    refine step d ds acc T' hl hz h (fun o ρ3 => match o with
      | some y => match ρ3.T[k]? with
        | some (.lst acc) => acc.length < sizeLine ∧ compD g t e own k ds ⟨ρ3.T.set k (.lst (acc ++ [y])), ρ3.s⟩ Q
        | _ => False
      | none => compD g t e own k ds ρ3 Q) ?_
    intro o T'' s'' hl2 h2 hs2
    rw [List.length_cons] at hz
    cases o with
    | none => exact comp_inv hk I step done ds acc T'' s'' hl2 (by omega) (by simpa using h2) hs2
    | some y =>
      show (match (T'' ++ [Ob.lst acc])[k]? with
        | some (.lst acc) => acc.length < sizeLine ∧ compD g t e own k ds ⟨(T'' ++ [Ob.lst _]).set k (.lst (acc ++ [y])), s''⟩ Q
        | _ => False)
      rw [← hl2, get_last]
      simp only
      rw [set_last, hl2]
      exact ⟨by omega, comp_inv hk I step done ds (acc ++ [y]) T'' s'' hl2 (by rw [List.length_append]; simp; omega) h2 hs2⟩
/-- a comprehension whose turns change nothing else -/
theorem dComp_pure {fi : DI} {g : DG} {t : DT} {e : DE} {own : List Nat} {X : XP} {ρ : Env} {Q : D → Env → Prop} (h : D → Option D) (ds : List D) (T : List Ob) (s s0 : List (Option Sl)) (hfi : ∀ P : List D → Env → Prop, P ds ⟨T, s⟩ → fi X ρ P)
    (hs : wipeS s own = s0) (hs2 : wipeS s0 own = s0) (hlow : lowS T.length s0 = true) (hz : ds.length ≤ sizeLine)
    (step : ∀ d ∈ ds, ∀ acc, ∀ R : Option D → Env → Prop, (∀ s', wipeS s' own = s0 → R (h d) ⟨T ++ [.lst acc], s'⟩) → g d ⟨T ++ [.lst acc], s0⟩ fun ρ1 => t X0 ρ1 fun b ρ2 => if b = true then e X0 ρ2 fun y ρ3 => R (some y) ρ3 else R none ρ2)
    (q : Q (.lst (ds.filterMap h)) ⟨T, s0⟩) : dComp fi g t e own X ρ Q := by
  unfold dComp
  apply hfi
  simp only
  rw [hs]
  refine comp_inv rfl (fun r acc T' => T' = T ∧ (∀ d ∈ r, d ∈ ds) ∧ acc ++ r.filterMap h = ds.filterMap h) ?_ ?_ ds [] T s0 rfl (by simpa using hz) ⟨rfl, fun d h => h, rfl⟩ hs2
  · rintro d r acc T' hl hz ⟨rfl, hm, he⟩ R hR
    refine step d (hm d List.mem_cons_self) acc R fun s' hs' => hR _ _ _ rfl ⟨rfl, fun d' m => hm d' (List.mem_cons_of_mem _ m), ?_⟩ hs'
    rw [← he, List.filterMap_cons]
    cases h d <;> simp
  · rintro acc T' s' hl ⟨rfl, hm, he⟩ hs'
    simp only [List.filterMap_nil, List.append_nil] at he
    rw [get_last]
    simp only
    rw [hs', take_last, he]
    exact ⟨hlow, q⟩
/-- a comprehension whose turns change lists -/
theorem dComp_any {fi : DI} {g : DG} {t : DT} {e : DE} {own : List Nat} {X : XP} {ρ : Env} {Q : D → Env → Prop} (I : List D → List D → List Ob → Prop) (ds : List D) (T : List Ob) (s s0 : List (Option Sl)) (hfi : ∀ P : List D → Env → Prop, P ds ⟨T, s⟩ → fi X ρ P)
    (hs : wipeS s own = s0) (hs2 : wipeS s0 own = s0) (hlow : lowS T.length s0 = true) (hz : ds.length ≤ sizeLine) (h0 : I ds [] T)
    (step : ∀ d r acc T', T'.length = T.length → acc.length + (d :: r).length ≤ sizeLine → I (d :: r) acc T' → ∀ R : Option D → Env → Prop, (∀ o T'' s', T''.length = T.length → I r (acc ++ o.toList) T'' → wipeS s' own = s0 → R o ⟨T'' ++ [.lst acc], s'⟩) →
      g d ⟨T' ++ [.lst acc], s0⟩ fun ρ1 => t X0 ρ1 fun b ρ2 => if b = true then e X0 ρ2 fun y ρ3 => R (some y) ρ3 else R none ρ2)
    (q : ∀ acc T', T'.length = T.length → I [] acc T' → Q (.lst acc) ⟨T', s0⟩) : dComp fi g t e own X ρ Q := by
  unfold dComp
  apply hfi
  simp only
  rw [hs]
  refine comp_inv rfl I step ?_ ds [] T s0 rfl (by simpa using hz) h0 hs2
  intro acc T' s' hl hI hs'
  simp only
  rw [← hl, get_last]
  simp only
  rw [hs', take_last, hl]
  exact ⟨hlow, q acc T' hl hI⟩
def compK (g : DG) (t : DT) (e : DE) (own : List Nat) (Q : D → Env → Prop) : List D → Env → Prop := fun ds ρ1 => compD g t e own ρ1.T.length ds ⟨ρ1.T ++ [.lst []], wipeS ρ1.s own⟩ fun ρ2 => match ρ2.T[ρ1.T.length]? with
  | some (.lst acc) => lowS ρ1.T.length (wipeS ρ2.s own) = true ∧ Q (.lst acc) ⟨ρ2.T.take ρ1.T.length, wipeS ρ2.s own⟩
  | _ => False
def compC [h : Kept (D → Env → Prop)] (g : DG) (t : DT) (e : DE) (own : List Nat) : List D → Env → Prop := compK g t e own h.q
theorem dComp_eq (fi : DI) (g : DG) (t : DT) (e : DE) (own : List Nat) (X : XP) (ρ : Env) (Q : D → Env → Prop) : dComp fi g t e own X ρ Q = fi X ρ (@compC ⟨Q⟩ g t e own) := rfl
theorem compK_any {g : DG} {t : DT} {e : DE} {own : List Nat} {Q : D → Env → Prop} (I : List D → List D → List Ob → Prop) {ds : List D} {T : List Ob} {s : List (Option Sl)} (s0 : List (Option Sl))
    (hs : wipeS s own = s0) (hs2 : wipeS s0 own = s0) (hlow : lowS T.length s0 = true) (hz : ds.length ≤ sizeLine) (h0 : I ds [] T)
    (step : ∀ d r acc T', T'.length = T.length → acc.length + (d :: r).length ≤ sizeLine → I (d :: r) acc T' → ∀ R : Option D → Env → Prop, (∀ o T'' s', T''.length = T.length → I r (acc ++ o.toList) T'' → wipeS s' own = s0 → R o ⟨T'' ++ [.lst acc], s'⟩) →
      g d ⟨T' ++ [.lst acc], s0⟩ fun ρ1 => t X0 ρ1 fun b ρ2 => if b = true then e X0 ρ2 fun y ρ3 => R (some y) ρ3 else R none ρ2)
    (q : ∀ acc T', T'.length = T.length → I [] acc T' → Q (.lst acc) ⟨T', s0⟩) : compK g t e own Q ds ⟨T, s⟩ :=
  dComp_any (fi := fun _ ρ P => P ds ⟨T, s⟩) (X := X0) (ρ := ⟨T, s⟩) I ds T s s0 (fun _ h => h) hs hs2 hlow hz h0 step q
theorem compK_pure {g : DG} {t : DT} {e : DE} {own : List Nat} {Q : D → Env → Prop} (h : D → Option D) {ds : List D} {T : List Ob} {s : List (Option Sl)} (s0 : List (Option Sl))
    (hs : wipeS s own = s0) (hs2 : wipeS s0 own = s0) (hlow : lowS T.length s0 = true) (hz : ds.length ≤ sizeLine)
    (step : ∀ d ∈ ds, ∀ acc, ∀ R : Option D → Env → Prop, (∀ s', wipeS s' own = s0 → R (h d) ⟨T ++ [.lst acc], s'⟩) → g d ⟨T ++ [.lst acc], s0⟩ fun ρ1 => t X0 ρ1 fun b ρ2 => if b = true then e X0 ρ2 fun y ρ3 => R (some y) ρ3 else R none ρ2)
    (q : Q (.lst (ds.filterMap h)) ⟨T, s0⟩) : compK g t e own Q ds ⟨T, s⟩ :=
  dComp_pure (fi := fun _ ρ P => P ds ⟨T, s⟩) (X := X0) (ρ := ⟨T, s⟩) h ds T s s0 (fun _ h => h) hs hs2 hlow hz step q
theorem take_len {α : Type} {T T' : List α} (h : T'.length = T.length) : T'.take T.length = T' := List.take_of_length_le (by omega)
end DL
set_option Elab.async false
set_option linter.all false
set_option maxRecDepth 100000
set_option maxHeartbeats 4000000
set_option autoImplicit false
/-! max(xs, default=d). -/
namespace PySem
theorem mxd_args (a d : Value) : argsOk "max" ⟨[a], [("default", d)]⟩ := by
  unfold argsOk
  kernel_rfl
section
variable {prog : Program} {w : World} {A : Around} {R : Result → Shared → Prop} {I : Addr} {fp wr : List Addr} {n : Nat} {P : Nat → Value → Prop} {St : Nat → Heap → Prop}
theorem mxd_loop (Wk : Walks prog w A.in1 I fp wr n P St) (lt : Nat → Nat → Bool) (cmp : CmpOf prog w A.in1 .Gt P lt) (S : Addr) (nS : S ∉ fp) (d : Value) :
    ∀ (m j : Nat) (s : Shared) (its : Array Value) (cc : Nat), n - j = m → j ≤ n → St j s.heap → ((j = 0 ∧ its = #[]) ∨ (∃ vb, 0 < j ∧ P (argBest lt (j - 1)) vb ∧ its = #[vb, vb])) → s.heap.get? S = some { cls := .type "list", dict := none, data := .seq its cc, slots := #[] } →
    (∀ (v : Value) (h2 : Heap) (tk : Nat), ((n = 0 ∧ v = d) ∨ (0 < n ∧ P (argBest lt (n - 1)) v)) → (∀ b o, b ∉ wr → b ≠ S → s.heap.get? b = some o → h2.get? b = some o) → R (.ok (.ret v)) { s with heap := h2, toks := tk }) →
    codeAny (model prog w) A (.builtin "max.loop" ⟨[.ref I, .none, .ref S], [("default", d)]⟩) R s := by
  have nw : S ∉ wr := fun z => nS (Wk.sub _ z)
  have nm : (toString "max" ++ toString ".loop" : String) = "max.loop" := by decide
  intro m
  induction m with
  | zero =>
    intro j s its cc hm hj st hb hS hR
    have hn : j = n := by omega
    subst hn
    refine codeAny_builtin F.entry_max_loop ?_
    rw [Around.under_plainId F.plain_max_loop _]
    show wpAny _ A.in1 (seqItems? (.ref S) >>= _) _ _ s
    refine wpAny_bind (wpAny_seqItems hS rfl ?_)
    show wpAny _ A.in1 (tryCatch (pyNext (.ref I)) _ >>= _) _ _ s
    refine wpAny_bind (wpAny_tryCatch (Wk.done s _ _ st fun h2 tk kp => ?_))
    have hS2 := kp S _ nw hS
    rcases hb with ⟨rfl, rfl⟩ | ⟨vb, j0, hp, rfl⟩
    · show wpAny _ A.in1 (rule _ >>= _) _ _ _
      refine wpAny_bind (wpAny_rule (wpAny_pure ?_))
      exact hR d h2 tk (.inl ⟨rfl, rfl⟩) fun b o x1 x2 e => kp b o x1 e
    · show wpAny _ A.in1 (updateSeq S (fun _ => #[]) >>= _) _ _ _
      refine wpAny_bind ?_
      refine wpAny_updateSeq hS2 rfl (wpAny_bind (wpAny_letGo (wpAny_pure ?_)))
      exact hR vb _ tk (.inr ⟨j0, hp⟩) fun b o x1 x2 e => (Heap.get?_update_other _ _ (Ne.symm x2)).trans (kp b o x1 e)
  | succ m ih =>
    intro j s its cc hm hj st hb hS hR
    have jn : j < n := by omega
    refine codeAny_builtin F.entry_max_loop ?_
    rw [Around.under_plainId F.plain_max_loop _]
    show wpAny _ A.in1 (seqItems? (.ref S) >>= _) _ _ s
    refine wpAny_bind (wpAny_seqItems hS rfl ?_)
    show wpAny _ A.in1 (tryCatch (pyNext (.ref I)) _ >>= _) _ _ s
    refine wpAny_bind (wpAny_tryCatch (Wk.item j s _ _ jn st fun v h2 tk pv st2 kp => ?_))
    have hS2 := kp S _ nw hS
    rcases hb with ⟨rfl, rfl⟩ | ⟨vb, j0, hp, rfl⟩
    · show wpAny _ A.in1 (updateSeq S (fun _ => #[v, v]) >>= _) _ _ _
      refine wpAny_bind ?_
      refine wpAny_updateSeq hS2 rfl ?_
      rw [nm]
      refine wpAny_pure ⟨plainId_quiet F.plain_max_loop _, ih 1 _ #[v, v] _ (by omega) (by omega) (Wk.frame _ _ _ st2 fun b hbf o e => ?_) (.inr ⟨v, Nat.one_pos, pv, rfl⟩) (Heap.get?_update_self _ hS2 rfl) fun u h3 tk3 hu kp3 => ?_⟩
      · exact (Heap.get?_update_other _ _ (fun z : S = b => nS (z ▸ hbf))).trans e
      · exact hR u h3 tk3 hu fun b o x1 x2 e => kp3 b o x1 x2 ((Heap.get?_update_other _ _ (Ne.symm x2)).trans (kp b o x1 e))
    · show wpAny _ A.in1 (tryCatch (holding [v, v] (richCompare .Gt v vb >>= _)) _ >>= _) _ _ _
      refine wpAny_bind (wpAny_tryCatch (wpAny_holding (wpAny_bind (cmp j (argBest lt (j - 1)) v vb _ _ _ pv hp ?_))))
      refine wpAny_bind (wpAny_holding (wpAny_truthy_bool ?_))
      refine wpAny_bind (wpAny_letGo (wpAny_pure ?_))
      obtain ⟨i, rfl⟩ : ∃ i, j = i + 1 := ⟨j - 1, by omega⟩
      simp only [Nat.add_sub_cancel] at hp ⊢
      cases hq : lt (i + 1) (argBest lt i) with
      | true =>
        simp only [if_true]
        refine wpAny_bind ?_
        refine wpAny_updateSeq hS2 rfl (wpAny_bind (wpAny_letGo ?_))
        rw [nm]
        refine wpAny_pure ⟨plainId_quiet F.plain_max_loop _, ih (i + 2) _ #[v, v] _ (by omega) (by omega) (Wk.frame _ _ _ st2 fun b hbf o e => ?_) (.inr ⟨v, by omega, (show P (argBest lt (i + 1)) v by simp only [argBest, hq, if_true]; exact pv), rfl⟩) (Heap.get?_update_self _ hS2 rfl) fun u h3 tk3 hu kp3 => ?_⟩
        · exact (Heap.get?_update_other _ _ (fun z : S = b => nS (z ▸ hbf))).trans e
        · exact hR u h3 tk3 hu fun b o x1 x2 e => kp3 b o x1 x2 ((Heap.get?_update_other _ _ (Ne.symm x2)).trans (kp b o x1 e))
      | false =>
        simp only [Bool.false_eq_true, if_false]
        refine wpAny_bind (wpAny_letGo ?_)
        rw [nm]
        refine wpAny_pure ⟨plainId_quiet F.plain_max_loop _, ih (i + 2) _ #[vb, vb] cc (by omega) (by omega) st2 (.inr ⟨vb, by omega, (show P (argBest lt (i + 1)) vb by simp only [argBest, hq, Bool.false_eq_true, if_false]; exact hp), rfl⟩) hS2 fun u h3 tk3 hu kp3 => ?_⟩
        exact hR u h3 tk3 hu fun b o x1 x2 e => kp3 b o x1 x2 (kp b o x1 e)
end
section
variable {prog : Program} {w : World} {A : Around} {E : Value → Shared → Prop} {s : Shared} {l : Addr} {xs : Array (Int × Tok)}
theorem mxd_call {Q : Value → Shared → Prop} (a d : Value) (hc : wpAny (model prog w) A.in1 (Builtin.«max» ⟨[a], [("default", d)]⟩) (fun fin s' => match fin with
      | .done f => (match (Except.ok f : Result) with
        | .ok (.ret v) => Q v s'
        | .ok _ => False
        | .error e => E e s')
      | .again c' => c'.quiet = true ∧ codeAny (model prog w) A c' (fun r s' => match r with
        | .ok (.ret v) => Q v s'
        | .ok _ => False
        | .error e => E e s') s') E s) : wpAny (model prog w) A (call (.builtin "max") [a] [("default", d)]) Q E s := by
  refine wpAny_call (codeAny_call_builtin F.plain_max F.entry_max ?_)
  have ha := mxd_args a d
  simp only [checkBuiltinCall, F.kind_max]
  cases hsig : Manifest.signature? "max" with
  | none => exact wpAny_pure hc
  | some sg =>
    have ha2 : Bind.checkArgs "max" sg ⟨[a], [("default", d)]⟩ = pure () := by simpa only [argsOk, hsig] using ha
    simp only [ha2]
    exact wpAny_pure hc
theorem mxd_ints {Q : Value → Shared → Prop} (d : Value) (hh : A.handled = none) (hl : s.heap.IsList l (intItems xs))
    (h : ∀ v h' tk, ((xs.size = 0 ∧ v = d) ∨ (0 < xs.size ∧ (intItems xs)[argBest (fun i j => decide (numAt xs i > numAt xs j)) (xs.size - 1)]? = some v)) → (∀ b o, s.heap.get? b = some o → h'.get? b = some o) → Q v { s with heap := h', toks := tk }) :
    wpAny (model prog w) A (call (.builtin "max") [.ref l] [("default", d)]) Q E s := by
  have nm : (toString "max" ++ toString ".loop" : String) = "max.loop" := by decide
  refine mxd_call _ d ?_
  show wpAny _ A.in1 (Builtin.Builtins.bindParams "max" ["key", "default"] 0 ⟨[], [("default", d)]⟩ >>= _) _ _ s
  refine wpAny_bind (wpAny_of_eq (show Builtin.Builtins.bindParams "max" ["key", "default"] 0 ⟨[], [("default", d)]⟩ = pure [none, some d] from rfl) ?_)
  refine wpAny_bind (wpAny_pure ?_)
  refine wpAny_bind (iter_intList hl fun s2 e st hfp hlI => ?_)
  subst e
  have Wk := Walks.list (prog := prog) (w := w) (A := A.in1) hh s.heap.objs.size l hlI (intItems xs)
  refine wpAny_bind (wpAny_newObj_type ?_)
  have nS : (s.heap.push { cls := .type "list_iterator", data := .fields #[.ref l, .int 0 0] }).objs.size ∉ [s.heap.objs.size, l] := fun hm => Nat.lt_irrefl _ (hfp _ hm)
  rw [nm]
  refine wpAny_pure ⟨plainId_quiet F.plain_max_loop _, mxd_loop Wk (fun i j => decide (numAt xs i > numAt xs j)) (CmpOf.ints_gt (numAt xs) (fun _ _ => intItems_at)) _ nS d _ 0 _ #[] _ rfl (Nat.zero_le _) (Wk.frame _ _ _ st fun b _ o e => Heap.get?_push_of_some _ e) (.inl ⟨rfl, rfl⟩) (Heap.get?_push_size _ rfl) fun v h2 tk hv kp => ?_⟩
  refine h v h2 tk (by simpa [intItems] using hv) fun b o e => ?_
  exact old_kept (fun b o hbw e => kp b o hbw (Nat.ne_of_lt (Heap.lt_size e)) (Heap.get?_push_of_some _ e)) b o e
end
end PySem
namespace DL
open PySem PySem.Spec PyProof.Rows L2
def rMaxDef (K : PySem.W.Frag) : List V → List V → Hp → VK → Prop := fun vs zs H Q => ∃ (a : Addr) (ns : List Int) (d : V), vs = [V.ref a] ∧ zs = [d] ∧ SqL K H a (ns.map V.int) ∧ (ns = [] → Q d H) ∧ (0 < ns.length → ∀ m, m ∈ ns → (∀ y ∈ ns, y ≤ m) → Q (.int m) H)
theorem cr_maxDef {X : Cx} (hc : X.calm = true) : CallRK X (.builtin "max") [Str.ofString "default"] (rMaxDef X.K) := by
  intro pins s σ H vs zs us ws Q I r rz h
  obtain ⟨a, ns, d, rfl, rfl, hs, q0, q1⟩ := h
  obtain rfl := Vals.ref1 r
  obtain ⟨w1, rfl, e1⟩ := vals1 rz
  obtain ⟨its, rv, hl, _⟩ := I.list hs
  have hi := rv.ints
  obtain ⟨xs, e⟩ := hi.allInts.items
  have hn : numsOf (intItems xs).toList = ns := by rw [← e]; exact hi.numsOf
  rw [nums_intItems] at hn
  have hl' := hl.isList
  rw [e] at hl'
  refine mxd_ints w1 (I.ok.hd hc) hl' fun v h' tk hv kp => ?_
  rcases hv with ⟨h0, rfl⟩ | ⟨h0, hv⟩
  · refine ⟨d, H, I.kept kp, e1, q0 ?_⟩
    rw [← hn]
    simpa using h0
  · obtain ⟨t, rfl⟩ := intItems_at hv
    obtain ⟨h1, h2⟩ := argBest_gt (numAt xs) (xs.size - 1)
    refine ⟨.int _, H, I.kept kp, ⟨_, rfl⟩, q1 (by rw [← hn]; simpa using h0) _ ?_ fun y hy => ?_⟩
    · rw [numAt_eq, ← hn]
      exact PySem.getD_mem (by rw [List.length_map, Array.length_toList]; omega)
    · rw [← hn] at hy
      obtain ⟨j, hj, rfl⟩ := mem_getD hy
      rw [List.length_map, Array.length_toList] at hj
      rw [← numAt_eq]
      exact h2 j (by omega)
def dMaxD (fa : DA) (fd : DE) : DE := fun X ρ Q => fa X ρ fun xs ρ1 => match dats xs with
  | some [.lst ds] => fd X ρ1 fun e ρ2 => match intsOf ds with
    | some [] => Q e ρ2
    | some (n :: ns) => Q (.int (maxOf n ns)) ρ2
    | none => False
  | _ => False
section
variable {X : Cx} {W : WX}
theorem de_maxd {e d : Expr} {p pos kpos : Pos} {fa : DA} {fd : DE} (hc : X.calm = true) (hm : X.mg "max" = none) (ha : PA X [e] (lA X.K W fa)) (hd : PE X d (lE X.K W fd)) (hg : Gl X "max" := by rfl)
    (he : backTo pos (starEach [e] X.env) = (false, eval e X.env) :: backTo pos (starEach [] X.env) := by rfl) (hpl : (backTo pos (starEach [e] X.env)).any (·.1) = false := by rfl)
    (hall : (backToKw pos (keywordEach [⟨some "default", d, kpos⟩] X.env)).all (·.1.isSome) = true := by rfl) (hnone : (backToKw pos (keywordEach [⟨some "default", d, kpos⟩] X.env)).any (·.1.isNone) = false := by rfl) (hks : (backToKw pos (keywordEach [⟨some "default", d, kpos⟩] X.env)).filterMap (·.1) = [Str.ofString "default"] := by rfl) :
    PE X (.Call (.Name "max" p) [e] [⟨some "default", d, kpos⟩] pos) (lE X.K W (dMaxD fa fd)) :=
  pe_imp (pe_callBK (cr_maxDef hc) hg hm bt_max ha (pk_cons hd pk_nil) (by decide) (by decide) he hpl hall hnone hks) fun σ H Q ⟨ρ, G, la, P, XX, re, h, q, xo⟩ =>
  ⟨ρ, G, la, _, XX, re, h, fun xs ρ1 vs G1 la1 H1 p1 a1 z1 => by
    have p1' : (match (generalizing := false) dats xs with
      | some [.lst ds] => fd XX ρ1 fun e ρ2 => match intsOf ds with
        | some [] => P e ρ2
        | some (n :: ns) => P (.int (maxOf n ns)) ρ2
        | none => False
      | _ => False) := p1
    split at p1'
    · rename_i ds hds
      have dp := dats_of z1 hds
      cases dp with
      | cons a b =>
        cases b
        cases a with
        | lst a l r =>
          refine ⟨ρ1, G1, la1, _, XX, a1.r, p1', fun e2 ρ2 v G2 la2 H2 p2 a2 z2 => ?_, xo.up a1.g a1.p⟩
          have p2' : (match (generalizing := false) intsOf ds with
            | some [] => P e2 ρ2
            | some (n :: ns) => P (.int (maxOf n ns)) ρ2
            | none => False) := p2
          split at p2'
          · rename_i hn
            have e := intsOf_of r hn
            subst e
            exact ⟨_, [], v, rfl, rfl, SqL.of (a2.r.ext _ _ (a2.g _ _ a)), fun _ => q _ _ _ _ _ _ p2' (a1.trans a2) z2, fun h0 => absurd h0 (by simp)⟩
          · rename_i n ns hn
            have e := intsOf_of r hn
            subst e
            refine ⟨_, n :: ns, v, rfl, rfl, SqL.of (a2.r.ext _ _ (a2.g _ _ a)), fun h0 => (nomatch h0), fun _ m hm2 hle => ?_⟩
            obtain ⟨c1, c2, c3⟩ := maxOf_ge ns n
            have em : m = maxOf n ns := by
              have h1 : maxOf n ns ≤ m := by
                rcases c3 with c3 | c3
                · rw [c3]
                  exact hle _ (by simp)
                · exact hle _ (by simp [c3])
              have h2 : m ≤ maxOf n ns := by
                rcases List.mem_cons.mp hm2 with z | z
                · rw [z]
                  exact c1
                · exact c2 _ z
              omega
            rw [em]
            exact q _ _ _ _ _ _ p2' (a1.trans a2) (.int _)
          · exact p2'.elim
    · exact p1'.elim, xo⟩
end
end DL
set_option Elab.async false
set_option linter.all false
set_option maxRecDepth 100000
set_option maxHeartbeats 4000000
set_option autoImplicit false
/-! {"a": i, "b": j}.get(e, d). -/
namespace DL
open PySem PySem.Spec PyProof.Rows L2
def dGetP (k1 k2 : Str) (i1 i2 : Int) (fe fd : DE) : DE := fun X ρ Q => fe X ρ fun k ρ1 => fd X ρ1 fun z ρ2 => match k with
  | .str w => if w = k1 then Q (.int i1) ρ2 else if w = k2 then Q (.int i2) ρ2 else Q z ρ2
  | _ => False
theorem fn_none {P : Program} {w : World} {K : PySem.W.Frag} {mg : Str → Option Value} {base : Heap} {CX : CXT} {k n : Nat} {f : Addr} {fd : FuncData} {ps : List Str} {F : DF} (h : ∀ ss T Q QX, F ss T Q QX → False) : FnOk P w K mg base CX k f fd ps (spD K n F) :=
  ⟨fun vs H Q E ⟨_, ss, G, la, T, Pd, PX, _, _, fp, _⟩ => (h _ _ _ _ fp).elim, fun A outer s H args us vs Q E _ _ _ _ ⟨_, ss, G, la, T, Pd, PX, _, _, fp, _⟩ => (h _ _ _ _ fp).elim⟩
theorem upd_twice {H : Hp} {p : Addr} {x y : HO} : upd (upd H p x) p y = upd H p y := by
  funext b
  by_cases hb : b = p
  · subst hb
    rw [upd_same, upd_same]
  · rw [upd_ne hb, upd_ne hb, upd_ne hb]
theorem Grow.hid {G H : Hp} {p : Addr} {o : HO} (e : Same G H) (h : H p = none) : Grow G H G (upd H p o) :=
  ⟨Same.refl _, same_new h, e.trans (same_new h), fun _ ga _ => ga⟩
section
variable {X : Cx} {W : WX}
theorem de_getP {k1 k2 : Str} {i1 i2 : Int} {a1 a2 b1 b2 : Nat} {p1 p2 q1 q2 dpos apos cpos : Pos} {e f : Expr} {fe fd : DE} (hu : X.A.units + 1 < cLine) (hk : k1 ≠ k2) (he : PE X e (lE X.K W fe)) (hf : PE X f (lE X.K W fd))
    (m : M2 X (.Dict [some (.Constant (.str k1) a1 p1), some (.Constant (.str k2) a2 p2)] [.Constant (.int i1) b1 q1, .Constant (.int i2) b2 q2] dpos) "get" apos e f cpos := by exact ⟨rfl, rfl, rfl, rfl⟩) :
    PE X (.Call (.Attribute (.Dict [some (.Constant (.str k1) a1 p1), some (.Constant (.str k2) a2 p2)] [.Constant (.int i1) b1 q1, .Constant (.int i2) b2 q2] dpos) "get" apos) [e, f] [] cpos) (lE X.K W (dGetP k1 k2 i1 i2 fe fd)) :=
  pe_imp (pe_dget2 hu (pe_disp (pps_cons pe_str pe_int (pps_cons pe_str pe_int pps_nil)) rfl rfl (by simp) (by simp)) he hf m) fun σ H Q ⟨ρ, G, la, P, XX, re, h, q, xo⟩ => by
  intro p hp
  refine ⟨upd_same, [(.inr k1, .int i1), (.inr k2, .int i2)], rfl, by simp, ?_⟩
  rw [upd_twice]
  have hm : mergeK [] [((.inr k1 : Key), V.int i1), (.inr k2, .int i2)] = [(.inr k1, .int i1), (.inr k2, .int i2)] := by
    have hne : ¬ ((Sum.inr k1 : Key) = .inr k2) := fun z => hk (Sum.inr.inj z)
    simp [mergeK, putK, hne]
  rw [hm]
  refine ⟨p, rfl, .inl ⟨_, .inl upd_same⟩, ?_⟩
  have w0 : Grow G H (upd G p (.dK [(.inr k1, .int i1), (.inr k2, .int i2)])) (upd H p (.dK [(.inr k1, .int i1), (.inr k2, .int i2)])) := Grow.new re.tb.ext hp
  have gp : upd G p (.dK [(.inr k1, .int i1), (.inr k2, .int i2)]) p = some (.dK [(.inr k1, .int i1), (.inr k2, .int i2)]) := upd_same
  have rg := re.grow w0
  have s0 := w0.g
  generalize upd G p (.dK [(.inr k1, .int i1), (.inr k2, .int i2)]) = G0 at gp rg s0
  refine ⟨ρ, G0, la, _, XX, rg, h, fun k ρ1 v G1 la1 H1 e1 r1 z1 => ⟨ρ1, G1, la1, _, XX, r1.r, e1, fun z ρ2 u G2 la2 H2 e2 r2 z2 => ?_, xo.up (s0.trans r1.g) r1.p⟩, xo.up s0 List.prefix_rfl⟩
  have e2' : (match (generalizing := false) k with
    | .str w => if w = k1 then P (.int i1) ρ2 else if w = k2 then P (.int i2) ρ2 else P z ρ2
    | _ => False) := e2
  cases k with
  | str w =>
    cases z1
    have hp2 : H2 p = some (.dK [(.inr k1, .int i1), (.inr k2, .int i2)]) := r2.r.ext _ _ (r2.g _ _ (r1.g _ _ gp))
    have af : Aft X.K G la σ ρ2 G2 la2 H2 := ⟨s0.trans (r1.g.trans r2.g), r1.p.trans r2.p, r2.r⟩
    refine ⟨_, DGet.k (k := .inr w) hp2, ?_⟩
    by_cases w1 : w = k1
    · subst w1
      rw [valV_pos rfl]
      simp only [if_true] at e2'
      exact q _ _ _ _ _ _ e2' af (.int _)
    · rw [valV_neg (fun z => w1 (Sum.inr.inj z).symm)]
      simp only [if_neg w1] at e2'
      by_cases w2 : w = k2
      · subst w2
        rw [valV_pos rfl]
        simp only [if_true] at e2'
        exact q _ _ _ _ _ _ e2' af (.int _)
      · rw [valV_neg (fun z => w2 (Sum.inr.inj z).symm), valV_nil]
        simp only [if_neg w2] at e2'
        exact q _ _ _ _ _ _ e2' af z2
  | _ => exact e2'.elim
end
end DL
set_option Elab.async false
set_option linter.all false
set_option maxRecDepth 100000
set_option maxHeartbeats 4000000
set_option autoImplicit false
/-! The program's defs at data level: what a drill and a beginning are. -/
namespace DL
open PySem PySem.Spec PyProof.Rows L2
local macro_rules | `(tactic| walk_at "dl") => `(tactic| (try simp only [sSeq, sSet, sRet, sRetN, sIf, sNil, sDrop, sFor, sTo, sPar2, sPar3, sNever, sSetIx, dVar, dC, dVarL, dDat, dVal, valK_dat, valK_ob, dBin, dUn, dNil, dCons, dats, dTup, dLst, dNew, dNewOf, dTest, dtAnd, dtOr, dtNot, dAnd, dOr, dNot, dIf, dChain, dCB, dSl, dNo, dSo, sApp, dIxO, dLenO, dMaxD, dGetP, dCall, dSeq, dRng1, dRng2, dZip, dEnum, gNm, gTp, gCs, gNl, dYes,
  startD, endsOf, retD, wipeS, gAdd, gSub, gMul, gMulA, gMulB, gDiv, gMod, gPow, gNeg, gLt, gLe, gGt, gGe, gEq, gNe, gIn, gIx, gSl, gIsi, tyD, isiD, gLen, gAbs, gInt, gMax2, gMin2, gTuple, gList, gIsN, isNon, gIsB, gNotB,
  List.getElem?_cons_zero, List.getElem?_cons_succ, List.getElem?_nil, List.set_cons_zero, List.set_cons_succ, List.map_cons, List.map_nil, List.cons_append, List.nil_append, List.length_cons, List.length_nil, List.replicate_succ, List.replicate_zero, Option.map_some, Nat.reduceSub, Nat.reduceAdd, Nat.reduceLeDiff,
  List.take_length, beq_self_eq_true, String.reduceBEq, Bool.or_true, Bool.true_or, Bool.or_false, Bool.false_or, Bool.and_true, Bool.and_false, Bool.true_and, Bool.false_and, Bool.or_self, Bool.and_self, decide_true, decide_false, dmem, List.any_cons, List.any_nil, okd_non, okd_bl, okd_int, okd_str, okds_nil, okds_cons, okd_60t, okd_59t, okd_58t, okd_60l, okd_59l, okd_58l, st_tk, st_tb, st_tf, st_kt, st_kb, st_kf, st_bt, st_bk, st_bf, st_ft, st_fk, st_fb, nat_num, Int.reduceBEq, Int.reduceBNe, Int.reduceEq, Int.reduceLT, Int.reduceLE, Int.reduceAdd, Int.reduceSub, Int.reduceMul, Int.reduceNeg, Int.reduceToNat, Int.reducePow, atI_0, atI_1, atI_2, set_last, get_last, take_last, deq_str, deq_int, deq_non, deq_bl, deq_tt, deq_ll, deqs_nn, deqs_cc, deqs_nc, deqs_cn, Nat.lt_irrefl, List.set_set, ixN_20, ixN_21, tupI, okds_ints, atI_map', List.length_map, cutL_map, eq_self, if_true, if_false, ite_true, ite_false, Bool.false_eq_true, decide_eq_true_eq, true_and, and_true, and_self, Bool.not_true, Bool.not_false, true_or, or_true, false_or, or_false, Option.some.injEq, reduceCtorEq]))
def isInt (d : D) (lo hi : Int) : Bool := match d with
  | .int i => decide (lo ≤ i) && decide (i ≤ hi)
  | _ => false
/-- slots: 0 value, 1 low, 2 high -/
def B_is_int : DS :=
  (sRet (dDat (dAnd (dCB gIsi (dCons (dDat (dVar 0)) (dCons (dDat (dC (.raw (.ty "int")))) dNil))) (dAnd (dNot (dCB gIsi (dCons (dDat (dVar 0)) (dCons (dDat (dC (.raw (.ty "bool")))) dNil)))) (dChain gLe gLe (dVar 1) (dVar 0) (dVar 2))))))
def S_is_int : DF := fun ss T Q _ => match ss with
  | [.dat d, .dat (.int lo), .dat (.int hi)] => okd 60 d = true ∧ Q (.dat (.bl (isInt d lo hi))) T
  | _ => False
theorem h_is_int : ∀ (ss : List Sl) (T : List Ob) (Q : Sl → List Ob → Prop) (QX : Xn → List Ob → Prop), ss.length = 3 → S_is_int ss T Q QX → B_is_int (endsOf T.length Q QX) (startD 3 3 ss T) := by
  intro ss T Q QX hl h
  unfold S_is_int at h
  split at h
  · rename_i d lo hi
    obtain ⟨ok, h⟩ := h
    unfold B_is_int
    cases d with
    | raw v => simp [okd] at ok
    | int i =>
      walk_at "dl"
      unfold isInt at h
      split
      · rename_i q
        simpa [q] using h
      · rename_i q
        simpa [q] using h
    | scr ns => simp [okd] at ok
    | _ =>
      walk_at "dl"
      exact h
  · exact h.elim
/-- a run -/
def isRun (d : D) : Bool := match d with
  | .tup [.str w, a] => (w == "to" && isInt a 0 1000000000000) || (w == "bark" && isInt a 1 1000000000000)
  | .tup [.str w, a, b] => (w == "back" || w == "front") && isInt a 0 3 && isInt b 1 1000000000000
  | _ => false
/-- slots: 0 value -/
def B_is_a_run : DS :=
  (sSeq (sIf (dtOr (dtNot (dTest (dCB gIsi (dCons (dDat (dVar 0)) (dCons (dDat (dC (.raw (.ty "tuple")))) dNil))))) (dtOr (dTest (dBin gEq (dVar 0) (dTup dNil))) (dtNot (dTest (dCB gIsi (dCons (dDat (dBin gIx (dVar 0) (dC (.int 0)))) (dCons (dDat (dC (.raw (.ty "str")))) dNil))))))) (sRet (dDat (dC (.bl false)))) sNil)
  (sSeq (sIf (dTest (dBin gEq (dBin gIx (dVar 0) (dC (.int 0))) (dC (.str "to")))) (sRet (dDat (dAnd (dBin gEq (dCB gLen (dCons (dDat (dVar 0)) dNil)) (dC (.int 2))) (dVal (dCall 3 S_is_int (dCons (dDat (dBin gIx (dVar 0) (dC (.int 1)))) (dCons (dDat (dC (.int 0))) (dCons (dDat (dC (.int 1000000000000))) dNil)))))))) sNil)
  (sSeq (sIf (dTest (dBin gEq (dBin gIx (dVar 0) (dC (.int 0))) (dC (.str "bark")))) (sRet (dDat (dAnd (dBin gEq (dCB gLen (dCons (dDat (dVar 0)) dNil)) (dC (.int 2))) (dVal (dCall 3 S_is_int (dCons (dDat (dBin gIx (dVar 0) (dC (.int 1)))) (dCons (dDat (dC (.int 1))) (dCons (dDat (dC (.int 1000000000000))) dNil)))))))) sNil)
  (sSeq (sIf (dtOr (dTest (dBin (gIn true) (dBin gIx (dVar 0) (dC (.int 0))) (dTup (dCons (dDat (dC (.str "back"))) (dCons (dDat (dC (.str "front"))) dNil))))) (dTest (dBin gNe (dCB gLen (dCons (dDat (dVar 0)) dNil)) (dC (.int 3))))) (sRet (dDat (dC (.bl false)))) sNil)
  (sRet (dDat (dAnd (dVal (dCall 3 S_is_int (dCons (dDat (dBin gIx (dVar 0) (dC (.int 1)))) (dCons (dDat (dC (.int 0))) (dCons (dDat (dC (.int 3))) dNil))))) (dVal (dCall 3 S_is_int (dCons (dDat (dBin gIx (dVar 0) (dC (.int 2)))) (dCons (dDat (dC (.int 1))) (dCons (dDat (dC (.int 1000000000000))) dNil))))))))))))
def S_is_a_run : DF := fun ss T Q _ => match ss with
  | [.dat d] => okd 60 d = true ∧ Q (.dat (.bl (isRun d))) T
  | _ => False
theorem h_is_a_run : ∀ (ss : List Sl) (T : List Ob) (Q : Sl → List Ob → Prop) (QX : Xn → List Ob → Prop), ss.length = 1 → S_is_a_run ss T Q QX → B_is_a_run (endsOf T.length Q QX) (startD 1 1 ss T) := by
  intro ss T Q QX hl h
  unfold S_is_a_run at h
  split at h
  · rename_i d
    obtain ⟨ok, h⟩ := h
    unfold B_is_a_run
    cases d with
    | raw v => simp [okd] at ok
    | tup xs =>
      cases xs with
      | nil =>
        walk_at "dl"
        exact h
      | cons x r =>
        have okx := okd_item ok (d := x) (by simp)
        cases x with
        | raw v => simp [okd] at okx
        | str w =>
          have ok' := ok
          simp only [okd_60t, okds_cons, okd_str, Bool.true_and] at ok'
          by_cases w1 : w = "to"
          · subst w1
            cases r with
            | nil =>
              walk_at "dl"
              exact h
            | cons a r =>
              have oka := okd_item ok (d := a) (by simp)
              cases r with
              | nil =>
                simp only [okds_cons, okds_nil, Bool.and_true] at ok'
                walk_at "dl"
                simp only [S_is_int]
                walk_at "dl"
                simpa [isRun, oka, ok', st_tk] using h
              | cons b r =>
                simp only [okds_cons] at ok'
                walk_at "dl"
                have e : (((r.length + 1 + 1 + 1 : Nat) : Int) == 2) = false := by simp; omega
                simp only [ok', e]
                walk_at "dl"
                cases r <;> simpa [isRun, st_tb, st_tf] using h
          by_cases w2 : w = "bark"
          · subst w2
            cases r with
            | nil =>
              walk_at "dl"
              exact h
            | cons a r =>
              have oka := okd_item ok (d := a) (by simp)
              cases r with
              | nil =>
                simp only [okds_cons, okds_nil, Bool.and_true] at ok'
                walk_at "dl"
                simp only [S_is_int]
                walk_at "dl"
                simpa [isRun, oka, ok', st_kt] using h
              | cons b r =>
                simp only [okds_cons] at ok'
                walk_at "dl"
                have e : (((r.length + 1 + 1 + 1 : Nat) : Int) == 2) = false := by simp; omega
                simp only [ok', e]
                walk_at "dl"
                cases r <;> simpa [isRun, st_kb, st_kf] using h
          have v1 : (w == ("to" : Str)) = false := by simpa using w1
          have v2 : (w == ("bark" : Str)) = false := by simpa using w2
          by_cases w3 : w = "back" ∨ w = "front"
          · have v3 : ((("back" : Str) == w) || (("front" : Str) == w)) = true := by
              rcases w3 with rfl | rfl <;> simp
            have v3' : ((w == ("back" : Str)) || (w == ("front" : Str))) = true := by
              rcases w3 with rfl | rfl <;> simp
            cases r with
            | nil =>
              walk_at "dl"
              simp only [v1, v2, v3]
              walk_at "dl"
              exact h
            | cons a r =>
              have oka := okd_item ok (d := a) (by simp)
              cases r with
              | nil =>
                simp only [okds_cons, okds_nil, Bool.and_true] at ok'
                walk_at "dl"
                simp only [v1, v2, v3, ok']
                walk_at "dl"
                simpa [isRun, v1, v2] using h
              | cons b r =>
                have okb := okd_item ok (d := b) (by simp)
                cases r with
                | nil =>
                  simp only [okds_cons, okds_nil, Bool.and_true] at ok'
                  walk_at "dl"
                  simp only [v1, v2, v3, ok', S_is_int]
                  walk_at "dl"
                  refine ⟨oka, ?_⟩
                  simp only [isRun, v3', Bool.true_and] at h
                  cases q : isInt a 0 3 with
                  | true =>
                    rw [q] at h
                    simp only [Bool.true_and] at h
                    walk_at "dl"
                    refine ⟨okb, ?_⟩
                    walk_at "dl"
                    exact h
                  | false =>
                    rw [q] at h
                    walk_at "dl"
                    exact h
                | cons c r =>
                  simp only [okds_cons] at ok'
                  walk_at "dl"
                  have e : (((r.length + 1 + 1 + 1 + 1 : Nat) : Int) == 3) = false := by simp; omega
                  simp only [v1, v2, v3, ok', e]
                  walk_at "dl"
                  simpa [isRun] using h
          · have v3 : ((("back" : Str) == w) || (("front" : Str) == w)) = false := by
              simp only [not_or] at w3
              simp [Ne.symm w3.1, Ne.symm w3.2]
            have v4 : (w == ("back" : Str)) = false := by simp only [not_or] at w3; simpa using w3.1
            have v5 : (w == ("front" : Str)) = false := by simp only [not_or] at w3; simpa using w3.2
            cases r with
            | nil =>
              walk_at "dl"
              simp only [v1, v2, v3]
              walk_at "dl"
              exact h
            | cons a r =>
              simp only [okds_cons] at ok'
              walk_at "dl"
              simp only [v1, v2, v3, ok']
              walk_at "dl"
              rcases r with _ | ⟨b, _ | ⟨c, r⟩⟩ <;> simpa [isRun, v1, v2, v4, v5] using h
        | scr ns => simp [okd] at okx
        | _ =>
          have ok' := ok
          simp only [okd_60t, okds_cons] at ok'
          try simp only [okd_non, okd_bl, okd_int, Bool.true_and] at ok'
          try simp only [okd_59t, okd_59l] at ok'
          walk_at "dl"
          exact ⟨ok', h⟩
    | scr ns => simp [okd] at ok
    | _ =>
      walk_at "dl"
      exact h
  · exact h.elim
end DL
set_option Elab.async false
set_option linter.all false
set_option maxRecDepth 100000
set_option maxHeartbeats 4000000
set_option autoImplicit false
/-! The program's defs at data level: drills, beginnings. -/
namespace DL
open PySem PySem.Spec PyProof.Rows L2
local macro_rules | `(tactic| walk_at "dl") => `(tactic| (try simp only [sSeq, sSet, sRet, sRetN, sIf, sNil, sDrop, sFor, sTo, sPar2, sPar3, sNever, sSetIx, dVar, dC, dVarL, dDat, dVal, valK_dat, valK_ob, dBin, dUn, dNil, dCons, dats, dTup, dLst, dNew, dNewOf, dTest, dtAnd, dtOr, dtNot, dAnd, dOr, dNot, dIf, dChain, dCB, dSl, dNo, dSo, sApp, dIxO, dLenO, dMaxD, dGetP, dCall, dSeq, dRng1, dRng2, dZip, dEnum, gNm, gTp, gCs, gNl, dYes,
  startD, endsOf, retD, wipeS, gAdd, gSub, gMul, gMulA, gMulB, gDiv, gMod, gPow, gNeg, gLt, gLe, gGt, gGe, gEq, gNe, gIn, gIx, gSl, gIsi, tyD, isiD, gLen, gAbs, gInt, gMax2, gMin2, gTuple, gList, gIsN, isNon, gIsB, gNotB,
  List.getElem?_cons_zero, List.getElem?_cons_succ, List.getElem?_nil, List.set_cons_zero, List.set_cons_succ, List.map_cons, List.map_nil, List.cons_append, List.nil_append, List.length_cons, List.length_nil, List.replicate_succ, List.replicate_zero, Option.map_some, Nat.reduceSub, Nat.reduceAdd, Nat.reduceLeDiff,
  List.take_length, beq_self_eq_true, String.reduceBEq, Bool.or_true, Bool.true_or, Bool.or_false, Bool.false_or, Bool.and_true, Bool.and_false, Bool.true_and, Bool.false_and, Bool.or_self, Bool.and_self, decide_true, decide_false, dmem, List.any_cons, List.any_nil, okd_non, okd_bl, okd_int, okd_str, okds_nil, okds_cons, okd_60t, okd_59t, okd_58t, okd_60l, okd_59l, okd_58l, st_tk, st_tb, st_tf, st_kt, st_kb, st_kf, st_bt, st_bk, st_bf, st_ft, st_fk, st_fb, nat_num, Int.reduceBEq, Int.reduceBNe, Int.reduceEq, Int.reduceLT, Int.reduceLE, Int.reduceAdd, Int.reduceSub, Int.reduceMul, Int.reduceNeg, Int.reduceToNat, Int.reducePow, atI_0, atI_1, atI_2, set_last, get_last, take_last, deq_str, deq_int, deq_non, deq_bl, deq_tt, deq_ll, deqs_nn, deqs_cc, deqs_nc, deqs_cn, Nat.lt_irrefl, List.set_set, ixN_20, ixN_21, tupI, okds_ints, atI_map', List.length_map, cutL_map, eq_self, if_true, if_false, ite_true, ite_false, Bool.false_eq_true, decide_eq_true_eq, true_and, and_true, and_self, Bool.not_true, Bool.not_false, true_or, or_true, false_or, or_false, Option.some.injEq, reduceCtorEq]))
/-- a drill -/
def fitsB (d : D) : Bool := match d with
  | .tup [g, .tup rs] => isInt g 1 9 && (decide (rs.length ≤ 8) && rs.all isRun)
  | _ => false
/-- slots: 0 value, 1 run -/
def B_fits : DS :=
  (sSeq (sIf (dtOr (dtNot (dTest (dCB gIsi (dCons (dDat (dVar 0)) (dCons (dDat (dC (.raw (.ty "tuple")))) dNil))))) (dtOr (dTest (dBin gNe (dCB gLen (dCons (dDat (dVar 0)) dNil)) (dC (.int 2)))) (dtNot (dTest (dVal (dCall 3 S_is_int (dCons (dDat (dBin gIx (dVar 0) (dC (.int 0)))) (dCons (dDat (dC (.int 1))) (dCons (dDat (dC (.int 9))) dNil))))))))) (sRet (dDat (dC (.bl false)))) sNil)
  (sSeq (sIf (dtOr (dtNot (dTest (dCB gIsi (dCons (dDat (dBin gIx (dVar 0) (dC (.int 1)))) (dCons (dDat (dC (.raw (.ty "tuple")))) dNil))))) (dTest (dBin gGt (dCB gLen (dCons (dDat (dBin gIx (dVar 0) (dC (.int 1)))) dNil)) (dC (.int 8))))) (sRet (dDat (dC (.bl false)))) sNil)
  (sRet (dDat (dBin gEq (dComp (dSeq (dBin gIx (dVar 0) (dC (.int 1)))) (gNm 1) (dtNot (dTest (dVal (dCall 1 S_is_a_run (dCons (dDat (dVar 1)) dNil))))) (dVar 1) [1]) (dLst dNil))))))
def S_fits : DF := fun ss T Q _ => match ss with
  | [.dat d] => okd 60 d = true ∧ Q (.dat (.bl (fitsB d))) T
  | _ => False
theorem filt_none {α : Type} (p : α → Bool) (l : List α) : l.filterMap (fun d => if !p d then some d else none) = [] ↔ l.all p = true := by
  induction l with
  | nil => simp
  | cons x r ih =>
    rw [List.filterMap_cons]
    cases q : p x <;> simp [q, ih]
theorem deqs_nil_iff (l : List D) : deqs l [] = l.isEmpty := by
  cases l with
  | nil => simp [deqs_nn]
  | cons x r => simp [deqs_cn]
theorem h_fits : ∀ (ss : List Sl) (T : List Ob) (Q : Sl → List Ob → Prop) (QX : Xn → List Ob → Prop), ss.length = 1 → S_fits ss T Q QX → B_fits (endsOf T.length Q QX) (startD 2 1 ss T) := by
  intro ss T Q QX hl h
  unfold S_fits at h
  split at h
  · rename_i d
    obtain ⟨ok, h⟩ := h
    unfold B_fits
    cases d with
    | raw v => simp [okd] at ok
    | scr ns => simp [okd] at ok
    | tup xs =>
      rcases xs with _ | ⟨g, _ | ⟨x, _ | ⟨y, r⟩⟩⟩
      · walk_at "dl"
        exact h
      · walk_at "dl"
        exact h
      · have okg := okd_item ok (d := g) (by simp)
        have okx := okd_item ok (d := x) (by simp)
        walk_at "dl"
        simp only [S_is_int]
        walk_at "dl"
        refine ⟨okg, ?_⟩
        cases qg : isInt g 1 9 with
        | false =>
          walk_at "dl"
          cases x <;> simpa [fitsB, qg] using h
        | true =>
          walk_at "dl"
          cases x with
          | raw v => simp [okd] at okx
          | scr ns => simp [okd] at okx
          | tup rs =>
            walk_at "dl"
            by_cases q8 : (8 : Int) < rs.length
            · rw [if_pos q8]
              have e : ¬ (rs.length ≤ 8) := by omega
              simpa [fitsB, e] using h
            · rw [if_neg q8]
              have e : rs.length ≤ 8 := by omega
              refine dComp_pure (fun d => if !isRun d then some d else none) rs T [some (.dat (.tup [g, .tup rs])), none] [some (.dat (.tup [g, .tup rs])), none] ?_ rfl rfl rfl (by rw [sizeLine_eq]; omega) ?_ ?_
              · intro P hP
                walk_at "dl"
                exact hP
              · intro d hd acc R hR
                have okd' := okd_item (n := 59) (ds := rs) okx hd
                walk_at "dl"
                simp only [S_is_a_run]
                walk_at "dl"
                refine ⟨okd', ?_⟩
                cases q : isRun d with
                | true =>
                  walk_at "dl"
                  have := hR [some (.dat (.tup [g, .tup rs])), some (.dat d)] rfl
                  simpa [q] using this
                | false =>
                  walk_at "dl"
                  have := hR [some (.dat (.tup [g, .tup rs])), some (.dat d)] rfl
                  simpa [q] using this
              · walk_at "dl"
                rw [deqs_nil_iff]
                have e2 : (List.filterMap (fun d => if !isRun d then some d else none) rs).isEmpty = rs.all isRun := by
                  rw [Bool.eq_iff_iff, List.isEmpty_iff]
                  exact filt_none isRun rs
                rw [e2]
                refine ⟨?_, ?_⟩
                · rw [okds_iff]
                  intro d hd
                  obtain ⟨x, hx, ex⟩ := List.mem_filterMap.mp hd
                  have okx' : okds 59 rs = true := okx
                  have := (okds_iff 59 rs).mp okx' x hx
                  split at ex
                  · cases ex
                    exact this
                  · cases ex
                · simpa [fitsB, qg, e] using h
          | _ =>
            walk_at "dl"
            exact h
      · walk_at "dl"
        have e : (((r.length + 1 + 1 + 1 : Nat) : Int) == 2) = false := by simp; omega
        simp only [e]
        walk_at "dl"
        cases x <;> exact h
    | _ =>
      walk_at "dl"
      exact h
  · exact h.elim
end DL
set_option Elab.async false
set_option linter.all false
set_option maxRecDepth 100000
set_option maxHeartbeats 4000000
set_option autoImplicit false
/-! The program's defs at data level: beginnings. -/
namespace DL
open PySem PySem.Spec PyProof.Rows L2
local macro_rules | `(tactic| walk_at "dl") => `(tactic| (try simp only [sSeq, sSet, sRet, sRetN, sIf, sNil, sDrop, sFor, sTo, sPar2, sPar3, sNever, sSetIx, dVar, dC, dVarL, dDat, dVal, valK_dat, valK_ob, dBin, dUn, dNil, dCons, dats, dTup, dLst, dNew, dNewOf, dTest, dtAnd, dtOr, dtNot, dAnd, dOr, dNot, dIf, dChain, dCB, dSl, dNo, dSo, sApp, dIxO, dLenO, dMaxD, dGetP, dCall, dSeq, dRng1, dRng2, dZip, dEnum, gNm, gTp, gCs, gNl, dYes,
  startD, endsOf, retD, wipeS, gAdd, gSub, gMul, gMulA, gMulB, gDiv, gMod, gPow, gNeg, gLt, gLe, gGt, gGe, gEq, gNe, gIn, gIx, gSl, gIsi, tyD, isiD, gLen, gAbs, gInt, gMax2, gMin2, gTuple, gList, gIsN, isNon, gIsB, gNotB,
  List.getElem?_cons_zero, List.getElem?_cons_succ, List.getElem?_nil, List.set_cons_zero, List.set_cons_succ, List.map_cons, List.map_nil, List.cons_append, List.nil_append, List.length_cons, List.length_nil, List.replicate_succ, List.replicate_zero, Option.map_some, Nat.reduceSub, Nat.reduceAdd, Nat.reduceLeDiff,
  List.take_length, beq_self_eq_true, String.reduceBEq, Bool.or_true, Bool.true_or, Bool.or_false, Bool.false_or, Bool.and_true, Bool.and_false, Bool.true_and, Bool.false_and, Bool.or_self, Bool.and_self, decide_true, decide_false, dmem, List.any_cons, List.any_nil, okd_non, okd_bl, okd_int, okd_str, okds_nil, okds_cons, okd_60t, okd_59t, okd_58t, okd_60l, okd_59l, okd_58l, st_tk, st_tb, st_tf, st_kt, st_kb, st_kf, st_bt, st_bk, st_bf, st_ft, st_fk, st_fb, nat_num, Int.reduceBEq, Int.reduceBNe, Int.reduceEq, Int.reduceLT, Int.reduceLE, Int.reduceAdd, Int.reduceSub, Int.reduceMul, Int.reduceNeg, Int.reduceToNat, Int.reducePow, atI_0, atI_1, atI_2, set_last, get_last, take_last, deq_str, deq_int, deq_non, deq_bl, deq_tt, deq_ll, deqs_nn, deqs_cc, deqs_nc, deqs_cn, Nat.lt_irrefl, List.set_set, ixN_20, ixN_21, tupI, okds_ints, atI_map', List.length_map, cutL_map, eq_self, if_true, if_false, ite_true, ite_false, Bool.false_eq_true, decide_eq_true_eq, true_and, and_true, and_self, Bool.not_true, Bool.not_false, true_or, or_true, false_or, or_false, Option.some.injEq, reduceCtorEq]))
def spaced (g : Int) : List Int → Bool
  | x :: y :: r => decide (x + g ≤ y) && spaced g (y :: r)
  | _ => true
def inGreat (x : Int) : Bool := decide (0 ≤ x) && decide (x ≤ 1000000000000000000000000000000)
/-- a beginning -/
def beginsB (g : Int) (d : D) : Bool := match d with
  | .tup ds => (decide (1 ≤ ds.length) && decide (ds.length ≤ 40)) && match intsOf ds with
    | some xs => xs.all inGreat && spaced g xs
    | none => false
  | _ => false
theorem great_ints : ∀ ds : List D, ds.all (fun d => isInt d 0 1000000000000000000000000000000) = true → ∃ xs : List Int, ds = xs.map .int ∧ xs.all inGreat = true
  | [], _ => ⟨[], rfl, rfl⟩
  | d :: ds, h => by
    simp only [List.all_cons, Bool.and_eq_true] at h
    obtain ⟨xs, e, a⟩ := great_ints ds h.2
    cases d with
    | int i => exact ⟨i :: xs, by rw [e]; rfl, by rw [List.all_cons, a]; have h1 := h.1; unfold isInt at h1; simpa [inGreat] using h1⟩
    | _ => simp [isInt] at h
theorem great_not : ∀ {ds : List D} {xs : List Int}, ds.all (fun d => isInt d 0 1000000000000000000000000000000) = false → intsOf ds = some xs → xs.all inGreat = false
  | [], _, h, _ => by simp at h
  | d :: ds, xs, h, e => by
    cases d with
    | int i =>
      have e' : (intsOf ds).map (i :: ·) = some xs := e
      obtain ⟨ys, e1, rfl⟩ := Option.map_eq_some_iff.mp e'
      simp only [List.all_cons, Bool.and_eq_false_iff] at h ⊢
      rcases h with h | h
      · left
        simpa [isInt, inGreat] using h
      · exact .inr (great_not h e1)
    | _ => cases e
def pairLt (g : Int) (d : D) : Option D := match d with
  | .tup [.int a, .int b] => if b - a < g then some (.int 1) else none
  | _ => none
theorem spaced_zip (g : Int) : ∀ xs : List Int, ((zipD (xs.map .int) ((xs.drop 1).map .int)).filterMap (pairLt g)).isEmpty = spaced g xs
  | [] => rfl
  | [x] => rfl
  | x :: y :: r => by
    have ih := spaced_zip g (y :: r)
    show ((.tup [.int x, .int y] :: zipD ((y :: r).map .int) (((y :: r).drop 1).map .int)).filterMap (pairLt g)).isEmpty = (decide (x + g ≤ y) && spaced g (y :: r))
    rw [List.filterMap_cons, ← ih]
    simp only [pairLt]
    by_cases q : y - x < g
    · rw [if_pos q, show decide (x + g ≤ y) = false by simp; omega]
      rfl
    · rw [if_neg q, show decide (x + g ≤ y) = true by simp; omega]
      rfl
theorem zip_mem : ∀ (xs ys : List Int) (d : D), d ∈ zipD (xs.map .int) (ys.map .int) → ∃ a b, d = .tup [.int a, .int b]
  | [], _, d, h => by simp [zipD] at h
  | _ :: _, [], d, h => by simp [zipD] at h
  | x :: xs, y :: ys, d, h => by
    rcases List.mem_cons.mp h with rfl | h
    · exact ⟨x, y, rfl⟩
    · exact zip_mem xs ys d h
/-- slots: 0 gap, 1 value, 2 place, 3 one, 4 other -/
def B_begins : DS :=
  (sSeq (sIf (dtOr (dtNot (dTest (dCB gIsi (dCons (dDat (dVar 1)) (dCons (dDat (dC (.raw (.ty "tuple")))) dNil))))) (dtNot (dTest (dChain gLe gLe (dC (.int 1)) (dCB gLen (dCons (dDat (dVar 1)) dNil)) (dC (.int 40)))))) (sRet (dDat (dC (.bl false)))) sNil)
  (sSeq (sIf (dTest (dBin gNe (dComp (dSeq (dVar 1)) (gNm 2) (dtNot (dTest (dVal (dCall 3 S_is_int (dCons (dDat (dVar 2)) (dCons (dDat (dC (.int 0))) (dCons (dDat (dC (.int 1000000000000000000000000000000))) dNil))))))) (dVar 2) [2]) (dLst dNil))) (sRet (dDat (dC (.bl false)))) sNil)
  (sRet (dDat (dBin gEq (dComp (dZip (dCons (dDat (dVar 1)) (dCons (dDat (dSl (dVar 1) (dSo (dC (.int 1))) dNo)) dNil))) (gTp 2 (gCs (gNm 3) (gCs (gNm 4) gNl))) (dTest (dBin gLt (dBin gSub (dVar 4) (dVar 3)) (dVar 0))) (dC (.int 1)) [3, 4]) (dLst dNil))))))
def S_begins : DF := fun ss T Q _ => match ss with
  | [.dat (.int g), .dat d] => okd 60 d = true ∧ Q (.dat (.bl (beginsB g d))) T
  | _ => False
theorem h_begins : ∀ (ss : List Sl) (T : List Ob) (Q : Sl → List Ob → Prop) (QX : Xn → List Ob → Prop), ss.length = 2 → S_begins ss T Q QX → B_begins (endsOf T.length Q QX) (startD 5 2 ss T) := by
  intro ss T Q QX hl h
  unfold S_begins at h
  split at h
  · rename_i g d
    obtain ⟨ok, h⟩ := h
    unfold B_begins
    cases d with
    | raw v => simp [okd] at ok
    | scr ns => simp [okd] at ok
    | tup ds =>
      walk_at "dl"
      by_cases q1 : (1 : Int) ≤ ds.length
      rotate_left
      · rw [if_neg q1]
        have e : ds.length = 0 := by omega
        simpa [beginsB, e] using h
      rw [if_pos q1]
      by_cases q2 : (ds.length : Int) ≤ 40
      rotate_left
      · rw [if_pos (by simpa using q2)]
        have e : ¬ (ds.length ≤ 40) := by omega
        simpa [beginsB, e] using h
      rw [if_neg (by simpa using q2)]
      have e1 : decide (1 ≤ ds.length) = true := by simp; omega
      have e2 : decide (ds.length ≤ 40) = true := by simp; omega
      refine dComp_pure (fun d => if !isInt d 0 1000000000000000000000000000000 then some d else none) ds T [some (.dat (.int g)), some (.dat (.tup ds)), none, none, none] [some (.dat (.int g)), some (.dat (.tup ds)), none, none, none] ?_ rfl rfl rfl (by rw [sizeLine_eq]; omega) ?_ ?_
      · intro P hP
        walk_at "dl"
        exact hP
      · intro d hd acc R hR
        have okd' := okd_item (n := 59) (ds := ds) ok hd
        walk_at "dl"
        simp only [S_is_int]
        walk_at "dl"
        refine ⟨okd', ?_⟩
        have := hR [some (.dat (.int g)), some (.dat (.tup ds)), some (.dat d), none, none] rfl
        cases q : isInt d 0 1000000000000000000000000000000 with
        | true =>
          walk_at "dl"
          simpa [q] using this
        | false =>
          walk_at "dl"
          simpa [q] using this
      · walk_at "dl"
        rw [deqs_nil_iff]
        have e3 : (List.filterMap (fun d => if !isInt d 0 1000000000000000000000000000000 then some d else none) ds).isEmpty = ds.all (fun d => isInt d 0 1000000000000000000000000000000) := by
          rw [Bool.eq_iff_iff, List.isEmpty_iff]
          exact filt_none (fun d => isInt d 0 1000000000000000000000000000000) ds
        rw [e3]
        refine ⟨?_, ?_⟩
        · rw [okds_iff]
          intro d hd
          obtain ⟨x, hx, ex⟩ := List.mem_filterMap.mp hd
          have okx' : okds 59 ds = true := ok
          have := (okds_iff 59 ds).mp okx' x hx
          split at ex
          · cases ex
            exact this
          · cases ex
        · cases q : ds.all (fun d => isInt d 0 1000000000000000000000000000000) with
          | false =>
            walk_at "dl"
            cases qi : intsOf ds with
            | none => simpa [beginsB, qi] using h
            | some xs => simpa [beginsB, qi, great_not q qi] using h
          | true =>
            walk_at "dl"
            obtain ⟨xs, rfl, ha⟩ := great_ints ds q
            have hlen : xs.length ≤ 40 := by simpa using e2
            refine dComp_pure (pairLt g) (zipD (xs.map .int) ((xs.drop 1).map .int)) T [some (.dat (.int g)), some (.dat (.tup (xs.map .int))), none, none, none] [some (.dat (.int g)), some (.dat (.tup (xs.map .int))), none, none, none] ?_ rfl rfl rfl ?_ ?_ ?_
            · intro P hP
              walk_at "dl"
              rw [cut_from _ (by omega)]
              exact hP
            · rw [zipD_len, List.length_map, sizeLine_eq]
              omega
            · intro d hd acc R hR
              obtain ⟨a, b, rfl⟩ := zip_mem _ _ _ hd
              walk_at "dl"
              have := hR [some (.dat (.int g)), some (.dat (.tup (xs.map .int))), none, some (.dat (.int a)), some (.dat (.int b))] rfl
              by_cases q : b - a < g
              · rw [if_pos q]
                simpa [pairLt, q] using this
              · rw [if_neg q]
                simpa [pairLt, q] using this
            · walk_at "dl"
              rw [deqs_nil_iff, spaced_zip]
              refine ⟨?_, ?_⟩
              · rw [okds_iff]
                intro d hd
                obtain ⟨x, hx, ex⟩ := List.mem_filterMap.mp hd
                obtain ⟨a, b, rfl⟩ := zip_mem _ _ _ hx
                unfold pairLt at ex
                simp only at ex
                split at ex
                · cases ex
                  rfl
                · cases ex
              · have e1' : decide (1 ≤ xs.length) = true := by simpa using e1
                have e2' : decide (xs.length ≤ 40) = true := by simpa using e2
                simpa only [beginsB, e1', e2', intsOf_map, ha, List.length_map, Bool.true_and] using h
    | _ =>
      walk_at "dl"
      exact h
  · exact h.elim
/-- slots: 0 value -/
def B_need_drill : DS :=
  (sIf (dtNot (dTest (dVal (dCall 1 S_fits (dCons (dDat (dVar 0)) dNil))))) sNever sNil)
def S_need_drill : DF := fun ss T Q _ => match ss with
  | [.dat d] => okd 60 d = true ∧ fitsB d = true ∧ Q (.dat .non) T
  | _ => False
theorem h_need_drill : ∀ (ss : List Sl) (T : List Ob) (Q : Sl → List Ob → Prop) (QX : Xn → List Ob → Prop), ss.length = 1 → S_need_drill ss T Q QX → B_need_drill (endsOf T.length Q QX) (startD 1 1 ss T) := by
  intro ss T Q QX hl h
  unfold S_need_drill at h
  split at h
  · rename_i d
    obtain ⟨ok, f, h⟩ := h
    unfold B_need_drill
    walk_at "dl"
    simp only [S_fits]
    refine ⟨ok, ?_⟩
    rw [f]
    walk_at "dl"
    exact h
  · exact h.elim
/-- slots: 0 gap, 1 value -/
def B_need_beginning : DS :=
  (sIf (dtNot (dTest (dVal (dCall 2 S_begins (dCons (dDat (dVar 0)) (dCons (dDat (dVar 1)) dNil)))))) sNever sNil)
def S_need_beginning : DF := fun ss T Q _ => match ss with
  | [.dat (.int g), .dat d] => okd 60 d = true ∧ beginsB g d = true ∧ Q (.dat .non) T
  | _ => False
theorem h_need_beginning : ∀ (ss : List Sl) (T : List Ob) (Q : Sl → List Ob → Prop) (QX : Xn → List Ob → Prop), ss.length = 2 → S_need_beginning ss T Q QX → B_need_beginning (endsOf T.length Q QX) (startD 2 2 ss T) := by
  intro ss T Q QX hl h
  unfold S_need_beginning at h
  split at h
  · rename_i g d
    obtain ⟨ok, f, h⟩ := h
    unfold B_need_beginning
    walk_at "dl"
    simp only [S_begins]
    refine ⟨ok, ?_⟩
    rw [f]
    walk_at "dl"
    exact h
  · exact h.elim
end DL
set_option Elab.async false
set_option linter.all false
set_option maxRecDepth 100000
set_option maxHeartbeats 4000000
set_option autoImplicit false
/-! The program's defs at data level: running. -/
namespace DL
open PySem PySem.Spec PyProof.Rows L2
local macro_rules | `(tactic| walk_at "dl") => `(tactic| (try simp only [sSeq, sSet, sRet, sRetN, sIf, sNil, sDrop, sFor, sTo, sPar2, sPar3, sNever, sSetIx, dVar, dC, dVarL, dDat, dVal, valK_dat, valK_ob, dBin, dUn, dNil, dCons, dats, dTup, dLst, dNew, dNewOf, dTest, dtAnd, dtOr, dtNot, dAnd, dOr, dNot, dIf, dChain, dCB, dSl, dNo, dSo, sApp, dIxO, dLenO, dMaxD, dGetP, dCall, dSeq, dRng1, dRng2, dZip, dEnum, gNm, gTp, gCs, gNl, dYes,
  startD, endsOf, retD, wipeS, gAdd, gSub, gMul, gMulA, gMulB, gDiv, gMod, gPow, gNeg, gLt, gLe, gGt, gGe, gEq, gNe, gIn, gIx, gSl, gIsi, tyD, isiD, gLen, gAbs, gInt, gMax2, gMin2, gTuple, gList, gIsN, isNon, gIsB, gNotB,
  List.getElem?_cons_zero, List.getElem?_cons_succ, List.getElem?_nil, List.set_cons_zero, List.set_cons_succ, List.map_cons, List.map_nil, List.cons_append, List.nil_append, List.length_cons, List.length_nil, List.replicate_succ, List.replicate_zero, Option.map_some, Nat.reduceSub, Nat.reduceAdd, Nat.reduceLeDiff,
  List.take_length, beq_self_eq_true, String.reduceBEq, Bool.or_true, Bool.true_or, Bool.or_false, Bool.false_or, Bool.and_true, Bool.and_false, Bool.true_and, Bool.false_and, Bool.or_self, Bool.and_self, decide_true, decide_false, dmem, List.any_cons, List.any_nil, okd_non, okd_bl, okd_int, okd_str, okds_nil, okds_cons, okd_60t, okd_59t, okd_58t, okd_60l, okd_59l, okd_58l, st_tk, st_tb, st_tf, st_kt, st_kb, st_kf, st_bt, st_bk, st_bf, st_ft, st_fk, st_fb, nat_num, Int.reduceBEq, Int.reduceBNe, Int.reduceEq, Int.reduceLT, Int.reduceLE, Int.reduceAdd, Int.reduceSub, Int.reduceMul, Int.reduceNeg, Int.reduceToNat, Int.reducePow, atI_0, atI_1, atI_2, set_last, get_last, take_last, deq_str, deq_int, deq_non, deq_bl, deq_tt, deq_ll, deqs_nn, deqs_cc, deqs_nc, deqs_cn, Nat.lt_irrefl, List.set_set, ixN_20, ixN_21, tupI, okds_ints, atI_map', List.length_map, cutL_map, eq_self, if_true, if_false, ite_true, ite_false, Bool.false_eq_true, decide_eq_true_eq, true_and, and_true, and_self, Bool.not_true, Bool.not_false, true_or, or_true, false_or, or_false, Option.some.injEq, reduceCtorEq]))
theorem rangeD_cons {lo hi : Int} (h : lo < hi) : rangeD lo hi = .int lo :: rangeD (lo + 1) hi := by
  unfold rangeD
  rw [show (hi - lo).toNat = (hi - (lo + 1)).toNat + 1 by omega, List.range_succ_eq_map, List.map_cons, List.map_map]
  congr 1
  · simp
  · apply List.map_congr_left
    intro k _
    simp only [Function.comp]
    congr 1
    push_cast
    omega
theorem rangeD_nil {lo hi : Int} (h : hi ≤ lo) : rangeD lo hi = [] := by
  unfold rangeD
  rw [show (hi - lo).toNat = 0 by omega]
  rfl
theorem ints_at (A B : List Int) (x : Int) : ((A ++ x :: B).map D.int)[A.length]? = some (.int x) := by simp
theorem ints_set (A B : List Int) (x y : Int) : ((A ++ x :: B).map D.int).set A.length (.int y) = (A ++ y :: B).map D.int := by simp
theorem atI_ints (A B : List Int) (x i : Int) (h : i = A.length) : atI (A ++ x :: B) i = some x := by
  rw [h, atI_nat]
  simp
theorem atI_intsP (A B : List Int) (p x i : Int) (h : i = A.length + 1) : atI (A ++ p :: x :: B) i = some x := by
  rw [show A ++ p :: x :: B = (A ++ [p]) ++ x :: B by simp]
  exact atI_ints _ _ _ _ (by rw [h]; simp)
/-- each at least g behind the one before -/
def clo (g : Int) : Int → List Int → List Int
  | _, [] => []
  | p, x :: r => (if p + g > x then p + g else x) :: clo g (if p + g > x then p + g else x) r
theorem clo_len (g : Int) : ∀ (r : List Int) (p : Int), (clo g p r).length = r.length
  | [], _ => rfl
  | x :: r, p => congrArg (· + 1) (clo_len g r _)
def pushedL (g : Int) (xs : List Int) (i : Nat) (s : Int) : List Int := xs.take i ++ match xs.drop i with
  | [] => []
  | x :: r => (x + s) :: clo g (x + s) r
theorem pushedL_at (g s x : Int) (A r : List Int) : pushedL g (A ++ x :: r) A.length s = A ++ (x + s) :: clo g (x + s) r := by simp [pushedL]
theorem pushedL_len (g s : Int) (xs : List Int) (i : Nat) : (pushedL g xs i s).length = xs.length := by
  unfold pushedL
  rw [List.length_append]
  cases h : xs.drop i with
  | nil =>
    have := congrArg List.length h
    simp at this ⊢
    omega
  | cons x r =>
    have := congrArg List.length h
    simp [clo_len] at this ⊢
    omega
theorem split_at {xs : List Int} {i : Nat} (h : i < xs.length) : ∃ A x r, xs = A ++ x :: r ∧ A.length = i := by
  refine ⟨xs.take i, xs[i], xs.drop (i + 1), ?_, by simp; omega⟩
  rw [← List.drop_eq_getElem_cons h, List.take_append_drop]
/-- slots: 0 gap, 1 places, 2 sheep, 3 steps, 4 found, 5 at -/
def B_pushed : DS :=
  (sSeq (sSet 4 (dNewOf (dCons (dDat (dVar 1)) dNil)))
  (sSeq (sSetIx 4 (dVar 2) (dBin gAdd (dIxO 4 (dVar 2)) (dVar 3)))
  (sSeq (sFor (dRng2 (dCons (dDat (dBin gAdd (dVar 2) (dC (.int 1)))) (dCons (dDat (dLenO 4)) dNil))) (gNm 5) (sSetIx 4 (dVar 5) (dCB gMax2 (dCons (dDat (dIxO 4 (dVar 5))) (dCons (dDat (dBin gAdd (dIxO 4 (dBin gSub (dVar 5) (dC (.int 1)))) (dVar 0))) dNil)))))
  (sRet (dDat (dCB gTuple (dCons (dDat (dVar 4)) dNil)))))))
def S_pushed : DF := fun ss T Q _ => ∃ (g : Int) (xs : List Int) (i s : Int), ss = [.dat (.int g), .dat (tupI xs), .dat (.int i), .dat (.int s)] ∧ 0 ≤ i ∧ i < xs.length ∧ xs.length ≤ 1000 ∧ Q (.dat (tupI (pushedL g xs i.toNat s))) T
theorem h_pushed : ∀ (ss : List Sl) (T : List Ob) (Q : Sl → List Ob → Prop) (QX : Xn → List Ob → Prop), ss.length = 4 → S_pushed ss T Q QX → B_pushed (endsOf T.length Q QX) (startD 6 4 ss T) := by
  intro ss T Q QX hl h
  obtain ⟨g, xs, i, s, rfl, h0, h1, hz, h⟩ := h
  obtain ⟨A, x, r, rfl, hA⟩ := split_at (i := i.toNat) (xs := xs) (by omega)
  have hi : i = A.length := by omega
  subst hi
  rw [Int.toNat_natCast, pushedL_at] at h
  unfold B_pushed
  simp only [tupI]
  walk_at "dl"
  rw [atI_ints A r x _ rfl]
  walk_at "dl"
  rw [ixN_pos (by omega) (by simp; omega)]
  walk_at "dl"
  rw [Int.toNat_natCast, ints_set]
  refine ⟨by simp at hz ⊢; omega, ?_⟩
  refine loop_inv (fun ds ρ => ∃ P p rest v, ρ = ⟨T ++ [.lst ((P ++ p :: rest).map .int)], [some (.dat (.int g)), some (.dat (.tup ((A ++ x :: r).map .int))), some (.dat (.int A.length)), some (.dat (.int s)), some (.ob T.length), v]⟩ ∧
    ds = rangeD (P.length + 1) (P.length + 1 + rest.length) ∧ P ++ p :: clo g p rest = A ++ (x + s) :: clo g (x + s) r) ?_ ?_ _ _ ?_
  · rintro d ds ρ ⟨P, p, rest, v, rfl, e, f⟩ N hN
    cases rest with
    | nil =>
      rw [rangeD_nil (by simp)] at e
      cases e
    | cons y rest =>
      rw [rangeD_cons (by simp; omega)] at e
      cases e
      walk_at "dl"
      rw [atI_intsP P rest p y _ rfl]
      walk_at "dl"
      rw [show ((P.length : Int) + 1 - 1) = P.length by omega, atI_ints P (y :: rest) p _ rfl]
      walk_at "dl"
      rw [ixN_pos (by omega) (by simp; omega)]
      walk_at "dl"
      apply hN
      refine ⟨P ++ [p], (if p + g > y then p + g else y), rest, some (.dat (.int (P.length + 1))), ?_, ?_, ?_⟩
      · have e1 : ((P.length : Int) + 1).toNat = (P ++ [p]).length := by simp
        rw [e1, show P ++ p :: y :: rest = (P ++ [p]) ++ y :: rest by simp, ints_set]
      · congr 1
        · simp
        · simp
          omega
      · rw [← f]
        simp [clo]
  · rintro ρ ⟨P, p, rest, v, rfl, e, f⟩
    have hr : rest = [] := by
      cases rest with
      | nil => rfl
      | cons y rest =>
        rw [rangeD_cons (by simp; omega)] at e
        cases e
    subst hr
    walk_at "dl"
    rw [show (P ++ [p]) = A ++ (x + s) :: clo g (x + s) r by simpa [clo] using f]
    exact h
  · refine ⟨A, x + s, r, none, rfl, ?_, rfl⟩
    congr 1
    simp
    omega
end DL
set_option Elab.async false
set_option linter.all false
set_option maxRecDepth 100000
set_option maxHeartbeats 4000000
set_option autoImplicit false
/-! The program's defs at data level: courses. -/
namespace DL
open PySem PySem.Spec PyProof.Rows L2
local macro_rules | `(tactic| walk_at "dl") => `(tactic| (try simp only [sSeq, sSet, sRet, sRetN, sIf, sNil, sDrop, sFor, sTo, sPar2, sPar3, sNever, sSetIx, dVar, dC, dVarL, dDat, dVal, valK_dat, valK_ob, dBin, dUn, dNil, dCons, dats, dTup, dLst, dNew, dNewOf, dTest, dtAnd, dtOr, dtNot, dAnd, dOr, dNot, dIf, dChain, dCB, dSl, dNo, dSo, sApp, dIxO, dLenO, dMaxD, dGetP, dCall, dSeq, dRng1, dRng2, dZip, dEnum, gNm, gTp, gCs, gNl, dYes,
  startD, endsOf, retD, wipeS, gAdd, gSub, gMul, gMulA, gMulB, gDiv, gMod, gPow, gNeg, gLt, gLe, gGt, gGe, gEq, gNe, gIn, gIx, gSl, gIsi, tyD, isiD, gLen, gAbs, gInt, gMax2, gMin2, gTuple, gList, gIsN, isNon, gIsB, gNotB,
  List.getElem?_cons_zero, List.getElem?_cons_succ, List.getElem?_nil, List.set_cons_zero, List.set_cons_succ, List.map_cons, List.map_nil, List.cons_append, List.nil_append, List.length_cons, List.length_nil, List.replicate_succ, List.replicate_zero, Option.map_some, Nat.reduceSub, Nat.reduceAdd, Nat.reduceLeDiff,
  List.take_length, beq_self_eq_true, String.reduceBEq, Bool.or_true, Bool.true_or, Bool.or_false, Bool.false_or, Bool.and_true, Bool.and_false, Bool.true_and, Bool.false_and, Bool.or_self, Bool.and_self, decide_true, decide_false, dmem, List.any_cons, List.any_nil, okd_non, okd_bl, okd_int, okd_str, okds_nil, okds_cons, okd_60t, okd_59t, okd_58t, okd_60l, okd_59l, okd_58l, st_tk, st_tb, st_tf, st_kt, st_kb, st_kf, st_bt, st_bk, st_bf, st_ft, st_fk, st_fb, nat_num, Int.reduceBEq, Int.reduceBNe, Int.reduceEq, Int.reduceLT, Int.reduceLE, Int.reduceAdd, Int.reduceSub, Int.reduceMul, Int.reduceNeg, Int.reduceToNat, Int.reducePow, atI_0, atI_1, atI_2, set_last, get_last, take_last, deq_str, deq_int, deq_non, deq_bl, deq_tt, deq_ll, deqs_nn, deqs_cc, deqs_nc, deqs_cn, Nat.lt_irrefl, List.set_set, ixN_20, ixN_21, tupI, okds_ints, atI_map', List.length_map, cutL_map, eq_self, if_true, if_false, ite_true, ite_false, Bool.false_eq_true, decide_eq_true_eq, true_and, and_true, and_self, Bool.not_true, Bool.not_false, true_or, or_true, false_or, or_false, Option.some.injEq, reduceCtorEq]))
/-- a run -/
inductive Rn | to (p : Int) | bark (s : Int) | back (n s : Int) | front (n s : Int)
def Rn.d : Rn → D
  | .to p => .tup [.str "to", .int p]
  | .bark s => .tup [.str "bark", .int s]
  | .back n s => .tup [.str "back", .int n, .int s]
  | .front n s => .tup [.str "front", .int n, .int s]
def Rn.ok : Rn → Prop
  | .to p => 0 ≤ p ∧ p ≤ 1000000000000
  | .bark s => 1 ≤ s ∧ s ≤ 1000000000000
  | .back n s => (0 ≤ n ∧ n ≤ 3) ∧ 1 ≤ s ∧ s ≤ 1000000000000
  | .front n s => (0 ≤ n ∧ n ≤ 3) ∧ 1 ≤ s ∧ s ≤ 1000000000000
theorem isInt_int {i lo hi : Int} (h : lo ≤ i) (h2 : i ≤ hi) : isInt (.int i) lo hi = true := by simp [isInt, h, h2]
theorem Rn.run {r : Rn} (h : r.ok) : isRun r.d = true := by
  cases r with
  | to p => simp [Rn.d, DL.isRun, isInt_int h.1 h.2]
  | bark p => simp [Rn.d, DL.isRun, isInt_int h.1 h.2]
  | back n s => simp [Rn.d, DL.isRun, isInt_int h.1.1 h.1.2, isInt_int h.2.1 h.2.2]
  | front n s => simp [Rn.d, DL.isRun, isInt_int h.1.1 h.1.2, isInt_int h.2.1 h.2.2]
theorem Rn.okd (r : Rn) (n : Nat) : okd (n + 1) r.d = true := by
  cases r <;> simp [Rn.d, DL.okd, okds]
def drD (g : Int) (rs : List Rn) : D := .tup [.int g, .tup (rs.map Rn.d)]
structure DrOk (g : Int) (rs : List Rn) : Prop where
  g1 : 1 ≤ g
  g9 : g ≤ 9
  l8 : rs.length ≤ 8
  ok : ∀ r ∈ rs, r.ok
theorem okd_drD (g : Int) (rs : List Rn) (n : Nat) : okd (n + 3) (drD g rs) = true := by
  simp only [drD, okd, okds, Bool.and_true, Bool.true_and]
  rw [okds_iff]
  intro d hd
  obtain ⟨r, _, rfl⟩ := List.mem_map.mp hd
  exact r.okd n
theorem DrOk.fits {g : Int} {rs : List Rn} (h : DrOk g rs) : fitsB (drD g rs) = true := by
  simp only [drD, fitsB, isInt_int h.g1 h.g9, List.length_map, Bool.true_and, Bool.and_eq_true, decide_eq_true_eq]
  refine ⟨h.l8, ?_⟩
  rw [List.all_eq_true]
  intro d hd
  obtain ⟨r, hr, rfl⟩ := List.mem_map.mp hd
  exact Rn.run (h.ok r hr)
structure BgOk (g : Int) (xs : List Int) : Prop where
  l1 : 1 ≤ xs.length
  l40 : xs.length ≤ 40
  great : ∀ x ∈ xs, 0 ≤ x ∧ x ≤ 1000000000000000000000000000000
  sp : spaced g xs = true
theorem BgOk.begins {g : Int} {xs : List Int} (h : BgOk g xs) : beginsB g (tupI xs) = true := by
  simp only [tupI, beginsB, intsOf_map, List.length_map, Bool.and_eq_true, decide_eq_true_eq]
  refine ⟨⟨h.l1, h.l40⟩, ?_, h.sp⟩
  rw [List.all_eq_true]
  intro x hx
  have := h.great x hx
  simp [inGreat, this]
/-- what the program does with a run -/
def ranL (g : Int) (xs : List Int) : Rn → List Int
  | .to p => pushedL g xs 0 (if p - xs.headD 0 > 0 then p - xs.headD 0 else 0)
  | .bark s => xs.map (· + s)
  | .back n s => if n < xs.length then pushedL g xs n.toNat s else xs
  | .front n s => if 0 ≤ (xs.length : Int) - 1 - n then pushedL g xs ((xs.length : Int) - 1 - n).toNat s else xs
theorem ranL_len (g : Int) (xs : List Int) (r : Rn) : (ranL g xs r).length = xs.length := by
  cases r with
  | to p => simp [ranL, pushedL_len]
  | bark s => simp [ranL]
  | back n s => simp only [ranL]; split <;> simp [pushedL_len]
  | front n s => simp only [ranL]; split <;> simp [pushedL_len]
theorem gMax2_ii (i j : Int) (P : D → Prop) : gMax2 [.int i, .int j] P = P (.int (if j > i then j else i)) := rfl
theorem filterMap_some {α β : Type} (f : α → β) (l : List α) : l.filterMap (fun x => some (f x)) = l.map f := by simp
/-- slots: 0 gap, 1 places, 2 run, 3 sheep, 4 place -/
def B_ran : DS :=
  (sSeq (sIf (dTest (dBin gEq (dBin gIx (dVar 2) (dC (.int 0))) (dC (.str "to")))) (sRet (dDat (dVal (dCall 4 S_pushed (dCons (dDat (dVar 0)) (dCons (dDat (dVar 1)) (dCons (dDat (dC (.int 0))) (dCons (dDat (dCB gMax2 (dCons (dDat (dC (.int 0))) (dCons (dDat (dBin gSub (dBin gIx (dVar 2) (dC (.int 1))) (dBin gIx (dVar 1) (dC (.int 0))))) dNil)))) dNil)))))))) sNil)
  (sSeq (sIf (dTest (dBin gEq (dBin gIx (dVar 2) (dC (.int 0))) (dC (.str "bark")))) (sRet (dDat (dCB gTuple (dCons (dDat (dComp (dSeq (dVar 1)) (gNm 4) dYes (dBin gAdd (dVar 4) (dBin gIx (dVar 2) (dC (.int 1)))) [4])) dNil)))) sNil)
  (sSeq (sSet 3 (dDat (dIf (dTest (dBin gEq (dBin gIx (dVar 2) (dC (.int 0))) (dC (.str "back")))) (dBin gIx (dVar 2) (dC (.int 1))) (dBin gSub (dBin gSub (dCB gLen (dCons (dDat (dVar 1)) dNil)) (dC (.int 1))) (dBin gIx (dVar 2) (dC (.int 1)))))))
  (sSeq (sIf (dtNot (dTest (dChain gLe gLt (dC (.int 0)) (dVar 3) (dCB gLen (dCons (dDat (dVar 1)) dNil))))) (sRet (dDat (dVar 1))) sNil)
  (sRet (dDat (dVal (dCall 4 S_pushed (dCons (dDat (dVar 0)) (dCons (dDat (dVar 1)) (dCons (dDat (dVar 3)) (dCons (dDat (dBin gIx (dVar 2) (dC (.int 2)))) dNil))))))))))))
def S_ran : DF := fun ss T Q _ => ∃ (g : Int) (xs : List Int) (r : Rn), ss = [.dat (.int g), .dat (tupI xs), .dat r.d] ∧ 1 ≤ xs.length ∧ xs.length ≤ 1000 ∧ r.ok ∧ Q (.dat (tupI (ranL g xs r))) T
theorem h_ran : ∀ (ss : List Sl) (T : List Ob) (Q : Sl → List Ob → Prop) (QX : Xn → List Ob → Prop), ss.length = 3 → S_ran ss T Q QX → B_ran (endsOf T.length Q QX) (startD 5 3 ss T) := by
  intro ss T Q QX hl h
  obtain ⟨g, xs, r, rfl, h1, hz, ok, h⟩ := h
  unfold B_ran
  cases r with
  | to p =>
    simp only [Rn.d]
    walk_at "dl"
    obtain ⟨x, r, rfl⟩ : ∃ x r, xs = x :: r := by
      cases xs with
      | nil => simp at h1
      | cons x r => exact ⟨x, r, rfl⟩
    walk_at "dl"
    exact ⟨_, _, _, _, rfl, by omega, by simp, hz, by walk_at "dl"; exact h⟩
  | bark s =>
    simp only [Rn.d]
    walk_at "dl"
    refine dComp_pure (fun d => match d with | .int i => some (.int (i + s)) | _ => none) (xs.map .int) T [some (.dat (.int g)), some (.dat (tupI xs)), some (.dat (.tup [.str "bark", .int s])), none, none] [some (.dat (.int g)), some (.dat (tupI xs)), some (.dat (.tup [.str "bark", .int s])), none, none] ?_ rfl rfl rfl (by rw [List.length_map, sizeLine_eq]; omega) ?_ ?_
    · intro P hP
      walk_at "dl"
      exact hP
    · intro d hd acc R hR
      obtain ⟨x, _, rfl⟩ := List.mem_map.mp hd
      walk_at "dl"
      exact hR _ rfl
    · walk_at "dl"
      rw [List.filterMap_map, show ((fun d => match d with | D.int i => some (D.int (i + s)) | _ => none) ∘ D.int) = fun x => some (D.int (x + s)) from rfl, filterMap_some]
      have e : xs.map (fun x => D.int (x + s)) = (xs.map (· + s)).map D.int := by simp
      rw [e]
      exact h
  | back n s =>
    obtain ⟨⟨n0, n3⟩, s1, s2⟩ := ok
    simp only [Rn.d]
    walk_at "dl"
    rw [if_pos n0]
    simp only [ranL] at h
    by_cases q : n < xs.length
    · rw [if_pos q] at h
      rw [if_neg (by simpa using q)]
      exact ⟨_, _, _, _, rfl, n0, q, hz, by walk_at "dl"; exact h⟩
    · rw [if_neg q] at h
      rw [if_pos (by simpa using q)]
      exact h
  | front n s =>
    obtain ⟨⟨n0, n3⟩, s1, s2⟩ := ok
    simp only [Rn.d]
    walk_at "dl"
    simp only [ranL] at h
    by_cases q : 0 ≤ (xs.length : Int) - 1 - n
    · rw [if_pos q] at h
      rw [if_pos q, if_neg (by simp; omega)]
      exact ⟨_, _, _, _, rfl, q, by omega, hz, by walk_at "dl"; exact h⟩
    · rw [if_neg q] at h
      rw [if_neg q]
      exact h
/-- a course -/
def courseL (g : Int) : List Int → List Rn → List (List Int)
  | _, [] => []
  | xs, r :: rs => ranL g xs r :: courseL g (ranL g xs r) rs
theorem courseL_len (g : Int) : ∀ (rs : List Rn) (xs : List Int), (courseL g xs rs).length = rs.length
  | [], _ => rfl
  | r :: rs, xs => congrArg (· + 1) (courseL_len g rs _)
/-- slots: 0 drill, 1 beginning, 2 found, 3 run -/
def B_course_of : DS :=
  (sSeq (sSet 2 (dNew dNil))
  (sSeq (sFor (dSeq (dBin gIx (dVar 0) (dC (.int 1)))) (gNm 3) (sSeq (sSet 1 (dDat (dVal (dCall 3 S_ran (dCons (dDat (dBin gIx (dVar 0) (dC (.int 0)))) (dCons (dDat (dVar 1)) (dCons (dDat (dVar 3)) dNil)))))))
  (sApp 2 (dVar 1))))
  (sRet (dDat (dVar 2)))))
def S_course_of : DF := fun ss T Q _ => ∃ (g : Int) (xs : List Int) (rs : List Rn), ss = [.dat (drD g rs), .dat (tupI xs)] ∧ 1 ≤ xs.length ∧ xs.length ≤ 1000 ∧ rs.length ≤ 1000 ∧ (∀ r ∈ rs, r.ok) ∧ Q (.dat (.lst ((courseL g xs rs).map tupI))) T
theorem h_course_of : ∀ (ss : List Sl) (T : List Ob) (Q : Sl → List Ob → Prop) (QX : Xn → List Ob → Prop), ss.length = 2 → S_course_of ss T Q QX → B_course_of (endsOf T.length Q QX) (startD 4 2 ss T) := by
  intro ss T Q QX hl h
  obtain ⟨g, xs, rs, rfl, h1, hz, hr, ok, h⟩ := h
  unfold B_course_of
  simp only [drD]
  walk_at "dl"
  refine loop_inv (fun ds ρ => ∃ (done : List (List Int)) (ys : List Int) (rest : List Rn) (v : Option Sl), ρ = ⟨T ++ [.lst (done.map tupI)], [some (.dat (.tup [.int g, .tup (rs.map Rn.d)])), some (.dat (tupI ys)), some (.ob T.length), v]⟩ ∧ ds = rest.map Rn.d ∧ ys.length = xs.length ∧ (∀ r ∈ rest, r.ok) ∧ done ++ courseL g ys rest = courseL g xs rs) ?_ ?_ _ _ ?_
  · rintro d ds ρ ⟨done, ys, rest, v, rfl, e, hy, ho, hc⟩ N hN
    cases rest with
    | nil => cases e
    | cons r rest =>
      cases e
      walk_at "dl"
      refine ⟨g, ys, r, rfl, by omega, by omega, ho r (by simp), ?_⟩
      walk_at "dl"
      have hlen := congrArg List.length hc
      simp only [List.length_append, courseL_len, List.length_cons] at hlen
      refine ⟨by rw [sizeLine_eq]; omega, ?_⟩
      apply hN
      refine ⟨done ++ [ranL g ys r], ranL g ys r, rest, some (.dat r.d), by simp [tupI], rfl, by rw [ranL_len, hy], fun r hr => ho r (by simp [hr]), ?_⟩
      rw [← hc]
      simp [courseL]
  · rintro ρ ⟨done, ys, rest, v, rfl, e, hy, ho, hc⟩
    have hr : rest = [] := by
      cases rest with
      | nil => rfl
      | cons y rest => cases e
    subst hr
    walk_at "dl"
    rw [show done = courseL g xs rs by simpa [courseL] using hc]
    exact h
  · exact ⟨[], xs, rs, none, rfl, rfl, rfl, ok, rfl⟩
/-- slots: 0 drill, 1 beginning -/
def B_course : DS :=
  (sSeq (sDrop (dCall 1 S_need_drill (dCons (dDat (dVar 0)) dNil)))
  (sSeq (sDrop (dCall 2 S_need_beginning (dCons (dDat (dBin gIx (dVar 0) (dC (.int 0)))) (dCons (dDat (dVar 1)) dNil))))
  (sRet (dDat (dVal (dCall 2 S_course_of (dCons (dDat (dVar 0)) (dCons (dDat (dVar 1)) dNil))))))))
def S_course : DF := fun ss T Q _ => ∃ (g : Int) (xs : List Int) (rs : List Rn), ss = [.dat (drD g rs), .dat (tupI xs)] ∧ DrOk g rs ∧ BgOk g xs ∧ Q (.dat (.lst ((courseL g xs rs).map tupI))) T
theorem h_course : ∀ (ss : List Sl) (T : List Ob) (Q : Sl → List Ob → Prop) (QX : Xn → List Ob → Prop), ss.length = 2 → S_course ss T Q QX → B_course (endsOf T.length Q QX) (startD 2 2 ss T) := by
  intro ss T Q QX hl h
  obtain ⟨g, xs, rs, rfl, hd, hb, h⟩ := h
  unfold B_course
  simp only [drD]
  walk_at "dl"
  simp only [S_need_drill]
  refine ⟨okd_drD g rs 57, hd.fits, ?_⟩
  walk_at "dl"
  simp only [S_need_beginning]
  refine ⟨okd_tupI 59 xs, hb.begins, ?_⟩
  walk_at "dl"
  refine ⟨g, xs, rs, rfl, hb.l1, Nat.le_trans hb.l40 (by decide), Nat.le_trans hd.l8 (by decide), hd.ok, ?_⟩
  walk_at "dl"
  exact h
theorem course_last (g : Int) : ∀ (rs : List Rn) (xs : List Int), ∃ l, xs :: courseL g xs rs = l ++ [rs.foldl (ranL g) xs]
  | [], xs => ⟨[], rfl⟩
  | r :: rs, xs => by
    obtain ⟨l, e⟩ := course_last g rs (ranL g xs r)
    exact ⟨xs :: l, by simp only [courseL, List.foldl_cons, List.cons_append]; rw [e]⟩
/-- slots: 0 drill, 1 beginning -/
def B_ends : DS :=
  (sSeq (sDrop (dCall 1 S_need_drill (dCons (dDat (dVar 0)) dNil)))
  (sSeq (sDrop (dCall 2 S_need_beginning (dCons (dDat (dBin gIx (dVar 0) (dC (.int 0)))) (dCons (dDat (dVar 1)) dNil))))
  (sRet (dDat (dBin gIx (dBin gAdd (dLst (dCons (dDat (dVar 1)) dNil)) (dVal (dCall 2 S_course_of (dCons (dDat (dVar 0)) (dCons (dDat (dVar 1)) dNil))))) (dUn gNeg (dC (.int 1))))))))
def S_ends : DF := fun ss T Q _ => ∃ (g : Int) (xs : List Int) (rs : List Rn), ss = [.dat (drD g rs), .dat (tupI xs)] ∧ DrOk g rs ∧ BgOk g xs ∧ Q (.dat (tupI (rs.foldl (ranL g) xs))) T
theorem h_ends : ∀ (ss : List Sl) (T : List Ob) (Q : Sl → List Ob → Prop) (QX : Xn → List Ob → Prop), ss.length = 2 → S_ends ss T Q QX → B_ends (endsOf T.length Q QX) (startD 2 2 ss T) := by
  intro ss T Q QX hl h
  obtain ⟨g, xs, rs, rfl, hd, hb, h⟩ := h
  unfold B_ends
  simp only [drD]
  walk_at "dl"
  simp only [S_need_drill]
  refine ⟨okd_drD g rs 57, hd.fits, ?_⟩
  walk_at "dl"
  simp only [S_need_beginning]
  refine ⟨okd_tupI 59 xs, hb.begins, ?_⟩
  walk_at "dl"
  refine ⟨g, xs, rs, rfl, hb.l1, Nat.le_trans hb.l40 (by decide), Nat.le_trans hd.l8 (by decide), hd.ok, ?_⟩
  walk_at "dl"
  have hl8 := hd.l8
  refine ⟨by rw [courseL_len, sizeLine_eq]; omega, ?_⟩
  obtain ⟨l, e⟩ := course_last g rs xs
  rw [show D.tup (xs.map .int) :: (courseL g xs rs).map tupI = l.map tupI ++ [tupI (rs.foldl (ranL g) xs)] by rw [dat_tI, ← List.map_cons, e]; simp, atI_last]
  exact h
end DL
set_option Elab.async false
set_option linter.all false
set_option maxRecDepth 100000
set_option maxHeartbeats 4000000
set_option autoImplicit false
/-! The law's defs at data level: drawing. -/
namespace DL
open PySem PySem.Spec PyProof.Rows L2
local macro_rules | `(tactic| walk_at "dl") => `(tactic| (try simp only [sSeq, sSet, sRet, sRetN, sIf, sNil, sDrop, sFor, sTo, sPar2, sPar3, sNever, sSetIx, dVar, dC, dVarL, dDat, dVal, valK_dat, valK_ob, dBin, dUn, dNil, dCons, dats, dTup, dLst, dNew, dNewOf, dTest, dtAnd, dtOr, dtNot, dAnd, dOr, dNot, dIf, dChain, dCB, dSl, dNo, dSo, sApp, dIxO, dLenO, dMaxD, dGetP, dCall, dSeq, dRng1, dRng2, dZip, dEnum, gNm, gTp, gCs, gNl, dYes,
  startD, endsOf, retD, wipeS, gAdd, gSub, gMul, gMulA, gMulB, gDiv, gMod, gPow, gNeg, gLt, gLe, gGt, gGe, gEq, gNe, gIn, gIx, gSl, gIsi, tyD, isiD, gLen, gAbs, gInt, gMax2, gMin2, gTuple, gList, gIsN, isNon, gIsB, gNotB,
  List.getElem?_cons_zero, List.getElem?_cons_succ, List.getElem?_nil, List.set_cons_zero, List.set_cons_succ, List.map_cons, List.map_nil, List.cons_append, List.nil_append, List.length_cons, List.length_nil, List.replicate_succ, List.replicate_zero, Option.map_some, Nat.reduceSub, Nat.reduceAdd, Nat.reduceLeDiff,
  List.take_length, beq_self_eq_true, String.reduceBEq, Bool.or_true, Bool.true_or, Bool.or_false, Bool.false_or, Bool.and_true, Bool.and_false, Bool.true_and, Bool.false_and, Bool.or_self, Bool.and_self, decide_true, decide_false, dmem, List.any_cons, List.any_nil, okd_non, okd_bl, okd_int, okd_str, okds_nil, okds_cons, okd_60t, okd_59t, okd_58t, okd_60l, okd_59l, okd_58l, st_tk, st_tb, st_tf, st_kt, st_kb, st_kf, st_bt, st_bk, st_bf, st_ft, st_fk, st_fb, nat_num, Int.reduceBEq, Int.reduceBNe, Int.reduceEq, Int.reduceLT, Int.reduceLE, Int.reduceAdd, Int.reduceSub, Int.reduceMul, Int.reduceNeg, Int.reduceToNat, Int.reducePow, atI_0, atI_1, atI_2, set_last, get_last, take_last, deq_str, deq_int, deq_non, deq_bl, deq_tt, deq_ll, deqs_nn, deqs_cc, deqs_nc, deqs_cn, Nat.lt_irrefl, List.set_set, ixN_20, ixN_21, tupI, okds_ints, atI_map', List.length_map, cutL_map, eq_self, if_true, if_false, ite_true, ite_false, Bool.false_eq_true, decide_eq_true_eq, true_and, and_true, and_self, Bool.not_true, Bool.not_false, true_or, or_true, false_or, or_false, Option.some.injEq, reduceCtorEq]))
theorem log_lt {n k : Nat} (hk : 0 < k) (h : n < 2 ^ k) : n.log2 < k := by
  by_cases z : n = 0
  · subst z
    simpa using hk
  · exact (Nat.log2_lt z).mpr h
theorem cmulW {i j : Int} (hi : i.natAbs < 2 ^ 250) (hj : j.natAbs < 2 ^ 250) : CMulW i j := by
  have h1 := log_lt (by decide) hi
  have h2 := log_lt (by decide) hj
  unfold CMulW
  omega
theorem cdivW {i j : Int} (h : 0 < j) (hj : j.natAbs < 2 ^ 250) : CDivW i j := ⟨h, Nat.lt_trans (log_lt (by decide) hj) (by decide)⟩
def CartV (a b : Int) : Ob := .lst [.int a, .int b]
structure CartOk (a b : Int) : Prop where
  a0 : 0 ≤ a
  aM : a < 10 ^ 240
  b0 : 0 ≤ b
  bM : b < 4294967296
def Cart (T : List Ob) (k : Nat) : Prop := ∃ a b, T[k]? = some (CartV a b) ∧ CartOk a b
def CartTo (T T' : List Ob) (k : Nat) : Prop := ∃ a b, T' = T.set k (CartV a b) ∧ CartOk a b
theorem Cart.lt {T : List Ob} {k : Nat} (h : Cart T k) : k < T.length := by
  obtain ⟨a, b, e, _⟩ := h
  exact (List.getElem?_eq_some_iff.mp e).1
theorem CartTo.cart {T T' : List Ob} {k : Nat} (c : Cart T k) (h : CartTo T T' k) : Cart T' k := by
  obtain ⟨a, b, rfl, ok⟩ := h
  exact ⟨a, b, by rw [List.getElem?_set_self c.lt], ok⟩
theorem CartTo.trans {T T' T2 : List Ob} {k : Nat} (h : CartTo T T' k) (h2 : CartTo T' T2 k) : CartTo T T2 k := by
  obtain ⟨a, b, rfl, ok⟩ := h
  obtain ⟨a2, b2, rfl, ok2⟩ := h2
  exact ⟨a2, b2, by rw [List.set_set], ok2⟩
theorem CartTo.len {T T' : List Ob} {k : Nat} (h : CartTo T T' k) : T'.length = T.length := by
  obtain ⟨a, b, rfl, ok⟩ := h
  simp
theorem Cart.refl {T : List Ob} {k : Nat} (c : Cart T k) : CartTo T T k := by
  obtain ⟨a, b, e, ok⟩ := c
  refine ⟨a, b, ?_, ok⟩
  obtain ⟨h, e'⟩ := List.getElem?_eq_some_iff.mp e
  rw [← e', List.set_getElem_self]
theorem Cart.app {T : List Ob} {k : Nat} (c : Cart T k) (S : List Ob) : Cart (T ++ S) k := by
  obtain ⟨a, b, e, ok⟩ := c
  exact ⟨a, b, by rw [List.getElem?_append_left (List.getElem?_eq_some_iff.mp e).1, e], ok⟩
theorem CartTo.unapp {T T' S : List Ob} {k : Nat} (c : Cart T k) (h : CartTo (T ++ S) T' k) : ∃ T2, T' = T2 ++ S ∧ CartTo T T2 k := by
  obtain ⟨a, b, rfl, ok⟩ := h
  exact ⟨T.set k (CartV a b), by rw [List.set_append_left _ _ c.lt], a, b, rfl, ok⟩
/-- slots: 0 _law_script, 1 _law_k, 2 _law_cell -/
def B_l_cart_of : DS :=
  (sSeq (sSet 2 (dDat (dBin gAdd (dBin gMulB (dC (.int 32003)) (dVar 1)) (dC (.int 79)))))
  (sSeq (sIf (dTest (dBin gLt (dVar 1) (dCB gLen (dCons (dDat (dVar 0)) dNil)))) (sSet 2 (dDat (dBin gMod (dCB gAbs (dCons (dDat (dCB gInt (dCons (dDat (dBin gIx (dVar 0) (dVar 1))) dNil))) dNil)) (dBin gMulB (dBin gMulB (dBin gMulB (dBin gPow (dC (.int 10)) (dC (.int 60))) (dBin gPow (dC (.int 10)) (dC (.int 60)))) (dBin gPow (dC (.int 10)) (dC (.int 60)))) (dBin gPow (dC (.int 10)) (dC (.int 60))))))) (sIf (dTest (dBin gGt (dCB gLen (dCons (dDat (dVar 0)) dNil)) (dC (.int 0)))) (sSet 2 (dDat (dBin gAdd (dVar 2) (dBin gMod (dCB gAbs (dCons (dDat (dCB gInt (dCons (dDat (dBin gIx (dVar 0) (dC (.int 0)))) dNil))) dNil)) (dC (.int 1000357)))))) sNil))
  (sRet (dNew (dCons (dDat (dIf (dTest (dBin gGe (dVar 2) (dBin gPow (dC (.int 10)) (dC (.int 18))))) (dVar 2) (dC (.int 0)))) (dCons (dDat (dBin gAdd (dBin gMod (dCB gInt (dCons (dDat (dBin gAdd (dBin gAdd (dBin gMulB (dBin gMod (dVar 2) (dC (.int 2147482697))) (dC (.int 41))) (dBin gMulB (dC (.int 127)) (dVar 1))) (dC (.int 73)))) dNil)) (dC (.int 2147482697))) (dC (.int 1)))) dNil))))))
def S_l_cart_of : DF := fun ss T Q _ => ∃ (ns : List Int) (k : Int), ss = [.dat (.scr ns), .dat (.int k)] ∧ 0 ≤ k ∧ k ≤ 1000 ∧ ns.length ≤ 1000 ∧ ∀ a b, CartOk a b → Q (.ob T.length) (T ++ [CartV a b])
theorem cart_b (c k : Int) : 0 ≤ (c % 2147482697 * 41 + 127 * k + 73) % 2147482697 + 1 ∧ (c % 2147482697 * 41 + 127 * k + 73) % 2147482697 + 1 < 4294967296 := by omega
theorem h_l_cart_of : ∀ (ss : List Sl) (T : List Ob) (Q : Sl → List Ob → Prop) (QX : Xn → List Ob → Prop), ss.length = 2 → S_l_cart_of ss T Q QX → B_l_cart_of (endsOf T.length Q QX) (startD 3 2 ss T) := by
  intro ss T Q QX hl h
  obtain ⟨ns, k, rfl, k0, k1, hn, h⟩ := h
  unfold B_l_cart_of
  walk_at "dl"
  refine ⟨cmulW (by decide) (by omega), ?_⟩
  have fin : ∀ c : Int, 0 ≤ c → c < 10 ^ 240 → (CPow 10 18 ∧ (if (1000000000000000000 : Int) ≤ c then CMulW (c % 2147482697) 41 ∧ CMulW 127 k ∧ Q (.ob T.length) (T ++ [CartV c ((c % 2147482697 * 41 + 127 * k + 73) % 2147482697 + 1)]) else CMulW (c % 2147482697) 41 ∧ CMulW 127 k ∧ Q (.ob T.length) (T ++ [CartV 0 ((c % 2147482697 * 41 + 127 * k + 73) % 2147482697 + 1)]))) := by
    intro c c0 c1
    refine ⟨by unfold CPow; decide, ?_⟩
    have e1 : CMulW (c % 2147482697) 41 := cmulW (by omega) (by decide)
    have e2 : CMulW 127 k := cmulW (by decide) (by omega)
    split
    · exact ⟨e1, e2, h _ _ ⟨c0, c1, (cart_b c k).1, (cart_b c k).2⟩⟩
    · exact ⟨e1, e2, h _ _ ⟨by decide, by decide, (cart_b c k).1, (cart_b c k).2⟩⟩
  have p60 : CPow 10 60 := by unfold CPow; decide
  simp only [CartV] at fin
  by_cases q : k < ns.length
  · rw [if_pos q, atI_some k0 q]
    walk_at "dl"
    generalize ns[k.toNat] = n
    refine ⟨p60, p60, by unfold CMulW; decide +kernel, p60, by unfold CMulW; decide +kernel, p60, by unfold CMulW; decide +kernel, ?_⟩
    exact fin _ (Int.emod_nonneg _ (by decide)) (by simp only [Int.reducePow]; exact Int.emod_lt_of_pos _ (by decide))
  · rw [if_neg q]
    by_cases q0 : (0 : Int) < ns.length
    · rw [if_pos q0, atI_some (by omega) q0]
      walk_at "dl"
      refine fin _ (by split <;> omega) ?_
      simp only [Int.reducePow]
      split <;> omega
    · rw [if_neg q0]
      refine fin _ (by omega) ?_
      simp only [Int.reducePow]
      omega
/-- slots: 0 _law_cart, 1 _law_many, 2 _law_found, 3 _law_wide -/
def B_l_take : DS :=
  (sSeq (sIf (dTest (dBin gGt (dIxO 0 (dC (.int 0))) (dC (.int 0)))) (sSeq (sSet 2 (dDat (dBin gMod (dCB gInt (dCons (dDat (dIxO 0 (dC (.int 0)))) dNil)) (dVar 1))))
  (sSeq (sSetIx 0 (dC (.int 0)) (dBin gDiv (dIxO 0 (dC (.int 0))) (dVar 1)))
  (sRet (dDat (dVar 2))))) sNil)
  (sSeq (sTo (dTup (dCons (dDat (dC (.int 0))) (dCons (dDat (dC (.int 1))) dNil))) (gTp 2 (gCs (gNm 2) (gCs (gNm 3) gNl))))
  (sSeq (sWhile (dtOr (dTest (dBin gLt (dVar 3) (dVar 1))) (dTest (dBin gEq (dVar 3) (dC (.int 1))))) (sSeq (sSetIx 0 (dC (.int 1)) (dBin gMod (dCB gInt (dCons (dDat (dBin gAdd (dBin gMulB (dIxO 0 (dC (.int 1))) (dC (.int 16741))) (dC (.int 137)))) dNil)) (dC (.int 2147482697))))
  (sSeq (sSet 2 (dDat (dBin gAdd (dBin gMulB (dVar 2) (dC (.int 8192))) (dBin gMod (dCB gInt (dCons (dDat (dBin gDiv (dIxO 0 (dC (.int 1))) (dC (.int 65729)))) dNil)) (dC (.int 8192))))))
  (sSet 3 (dDat (dBin gMulB (dVar 3) (dC (.int 8192))))))))
  (sRet (dDat (dBin gMod (dCB gInt (dCons (dDat (dVar 2)) dNil)) (dVar 1)))))))
def S_l_take : DF := fun ss T Q _ => ∃ (k : Nat) (n : Int), ss = [.ob k, .dat (.int n)] ∧ Cart T k ∧ 0 < n ∧ n ≤ 10 ^ 60 ∧ ∀ r T', 0 ≤ r → r < n → CartTo T T' k → Q (.dat (.int r)) T'
theorem h_l_take : ∀ (ss : List Sl) (T : List Ob) (Q : Sl → List Ob → Prop) (QX : Xn → List Ob → Prop), ss.length = 2 → S_l_take ss T Q QX → B_l_take (endsOf T.length Q QX) (startD 4 2 ss T) := by
  intro ss T Q QX hl h
  obtain ⟨k, n, rfl, c, n0, n1, h⟩ := h
  simp only [Int.reducePow] at n1
  have hk := c.lt
  obtain ⟨a, b, e, ok⟩ := c
  unfold B_l_take
  walk_at "dl"
  have eT : T.take T.length = T := List.take_length
  have el : ∀ x : Ob, (T.set k x)[k]? = some x := fun x => List.getElem?_set_self hk
  have et : ∀ x : Ob, (T.set k x).take T.length = T.set k x := fun x => by rw [List.take_of_length_le (by simp)]
  simp only [e, CartV]
  walk_at "dl"
  by_cases q : 0 < a
  · rw [if_pos q]
    refine ⟨n0, cdivW n0 (by omega), ?_⟩
    rw [et]
    refine h _ _ (Int.emod_nonneg _ (by omega)) (Int.emod_lt_of_pos _ n0) ⟨a / n, b, rfl, ?_⟩
    refine ⟨Int.ediv_nonneg ok.a0 (by omega), ?_, ok.b0, ok.bM⟩
    exact Int.lt_of_le_of_lt (Int.ediv_le_self _ ok.a0) ok.aM
  · rw [if_neg q]
    refine ⟨fun m ρ => ∃ a b f w, ρ = ⟨T.set k (CartV a b), [some (.ob k), some (.dat (.int n)), some (.dat (.int f)), some (.dat (.int w))]⟩ ∧ CartOk a b ∧ 0 ≤ f ∧ f < w ∧ m = (n + 2 - w).toNat, ⟨_, a, b, 0, 1, ?_, ok, by omega, by omega, rfl⟩, ?_⟩
    · congr 1
      obtain ⟨h1, h2⟩ := List.getElem?_eq_some_iff.mp e
      rw [← h2, List.set_getElem_self]
    · rintro m ρ ⟨a, b, f, w, rfl, ok, f0, fw, rfl⟩
      walk_at "dl"
      simp only [el, CartV]
      walk_at "dl"
      have c1 : CMulW b 16741 := cmulW (by have := ok.b0; have := ok.bM; omega) (by decide)
      have d1 : CDivW ((b * 16741 + 137) % 2147482697) 65729 := cdivW (by decide) (by decide)
      have go : (w < n ∨ w = 1) → CMulW b 16741 ∧ CMulW f 8192 ∧ CDivW ((b * 16741 + 137) % 2147482697) 65729 ∧ CMulW w 8192 ∧ ∃ m', m' < (n + 2 - w).toNat ∧ ∃ a_1 b_1 f_1 w_1, (⟨T.set k (.lst [.int a, .int ((b * 16741 + 137) % 2147482697)]), [some (.ob k), some (.dat (.int n)), some (.dat (.int (f * 8192 + (b * 16741 + 137) % 2147482697 / 65729 % 8192))), some (.dat (.int (w * 8192)))]⟩ : Env) = ⟨T.set k (.lst [.int a_1, .int b_1]), [some (.ob k), some (.dat (.int n)), some (.dat (.int f_1)), some (.dat (.int w_1))]⟩ ∧ CartOk a_1 b_1 ∧ 0 ≤ f_1 ∧ f_1 < w_1 ∧ m' = (n + 2 - w_1).toNat := by
        intro hw
        refine ⟨c1, cmulW (by omega) (by decide), d1, cmulW (by omega) (by decide), _, ?_, _, _, _, _, rfl, ⟨ok.a0, ok.aM, by omega, by omega⟩, by omega, by omega, rfl⟩
        omega
      have done : 0 < n ∧ Q (.dat (.int (f % n))) (T.set k (.lst [.int a, .int b])) := ⟨n0, h _ _ (Int.emod_nonneg _ (by omega)) (Int.emod_lt_of_pos _ n0) ⟨a, b, rfl, ok⟩⟩
      by_cases q1 : w < n
      · rw [if_pos q1]
        have := go (.inl q1)
        exact this
      · rw [if_neg q1]
        by_cases q2 : w = 1
        · rw [if_pos (by simpa using q2)]
          exact go (.inr q2)
        · rw [if_neg (by simpa using q2), et]
          exact done
end DL
set_option Elab.async false
set_option linter.all false
set_option maxRecDepth 100000
set_option maxHeartbeats 4000000
set_option autoImplicit false
/-! The law's defs at data level: drills and rooms drawn. -/
namespace DL
open PySem PySem.Spec PyProof.Rows L2
local macro_rules | `(tactic| walk_at "dl") => `(tactic| (try simp only [sSeq, sSet, sRet, sRetN, sIf, sNil, sDrop, sFor, sTo, sPar2, sPar3, sNever, sSetIx, dVar, dC, dVarL, dDat, dVal, valK_dat, valK_ob, dBin, dUn, dNil, dCons, dats, dTup, dLst, dNew, dNewOf, dTest, dtAnd, dtOr, dtNot, dAnd, dOr, dNot, dIf, dChain, dCB, dSl, dNo, dSo, sApp, dIxO, dLenO, dMaxD, dGetP, dCall, dSeq, dRng1, dRng2, dZip, dEnum, gNm, gTp, gCs, gNl, dYes,
  startD, endsOf, retD, wipeS, gAdd, gSub, gMul, gMulA, gMulB, gDiv, gMod, gPow, gNeg, gLt, gLe, gGt, gGe, gEq, gNe, gIn, gIx, gSl, gIsi, tyD, isiD, gLen, gAbs, gInt, gMax2, gMin2, gTuple, gList, gIsN, isNon, gIsB, gNotB,
  List.getElem?_cons_zero, List.getElem?_cons_succ, List.getElem?_nil, List.set_cons_zero, List.set_cons_succ, List.map_cons, List.map_nil, List.cons_append, List.nil_append, List.length_cons, List.length_nil, List.replicate_succ, List.replicate_zero, Option.map_some, Nat.reduceSub, Nat.reduceAdd, Nat.reduceLeDiff,
  List.take_length, beq_self_eq_true, String.reduceBEq, Bool.or_true, Bool.true_or, Bool.or_false, Bool.false_or, Bool.and_true, Bool.and_false, Bool.true_and, Bool.false_and, Bool.or_self, Bool.and_self, decide_true, decide_false, dmem, List.any_cons, List.any_nil, okd_non, okd_bl, okd_int, okd_str, okds_nil, okds_cons, okd_60t, okd_59t, okd_58t, okd_60l, okd_59l, okd_58l, st_tk, st_tb, st_tf, st_kt, st_kb, st_kf, st_bt, st_bk, st_bf, st_ft, st_fk, st_fb, nat_num, Int.reduceBEq, Int.reduceBNe, Int.reduceEq, Int.reduceLT, Int.reduceLE, Int.reduceAdd, Int.reduceSub, Int.reduceMul, Int.reduceNeg, Int.reduceToNat, Int.reducePow, atI_0, atI_1, atI_2, set_last, get_last, take_last, deq_str, deq_int, deq_non, deq_bl, deq_tt, deq_ll, deqs_nn, deqs_cc, deqs_nc, deqs_cn, Nat.lt_irrefl, List.set_set, ixN_20, ixN_21, tupI, okds_ints, atI_map', List.length_map, cutL_map, eq_self, if_true, if_false, ite_true, ite_false, Bool.false_eq_true, decide_eq_true_eq, true_and, and_true, and_self, Bool.not_true, Bool.not_false, true_or, or_true, false_or, or_false, Option.some.injEq, reduceCtorEq]))
/-- slots: 0 _law_cart, 1 _law_things -/
def B_l_any : DS :=
  (sRet (dDat (dBin gIx (dVar 1) (dVal (dCall 2 S_l_take (dCons (dVarL 0) (dCons (dDat (dCB gLen (dCons (dDat (dVar 1)) dNil))) dNil)))))))
def S_l_any : DF := fun ss T Q _ => ∃ (k : Nat) (d : D) (ds : List D), ss = [.ob k, .dat d] ∧ (d = .lst ds ∨ d = .tup ds) ∧ Cart T k ∧ 0 < ds.length ∧ ds.length ≤ 1000 ∧ ∀ x T', x ∈ ds → CartTo T T' k → Q (.dat x) T'
theorem h_l_any : ∀ (ss : List Sl) (T : List Ob) (Q : Sl → List Ob → Prop) (QX : Xn → List Ob → Prop), ss.length = 2 → S_l_any ss T Q QX → B_l_any (endsOf T.length Q QX) (startD 2 2 ss T) := by
  intro ss T Q QX hl h
  obtain ⟨k, d, ds, rfl, hd, c, l0, l1, h⟩ := h
  unfold B_l_any
  rcases hd with rfl | rfl
  all_goals
    walk_at "dl"
    refine ⟨k, ds.length, rfl, c, by omega, by simp only [Int.reducePow]; omega, fun r T' r0 r1 ct => ?_⟩
    walk_at "dl"
    rw [atI_some r0 r1, take_len ct.len]
    exact h _ _ (List.getElem_mem _) ct
/-- slots: 0 _law_cart, 1 _law_wide, 2 _law_word, 3 _law_most -/
def B_l_deed : DS :=
  (sSeq (sPar2 2 3 (dDat (dVal (dCall 2 S_l_any (dCons (dVarL 0) (dCons (dDat (dLst (dCons (dDat (dC (.str "to"))) (dCons (dDat (dC (.str "back"))) (dCons (dDat (dC (.str "back"))) (dCons (dDat (dC (.str "front"))) (dCons (dDat (dC (.str "front"))) (dCons (dDat (dC (.str "bark"))) dNil)))))))) dNil))))) (dDat (dVal (dCall 2 S_l_any (dCons (dVarL 0) (dCons (dDat (dLst (dCons (dDat (dC (.int 3))) (dCons (dDat (dC (.int 3))) (dCons (dDat (dVar 1)) dNil))))) dNil))))))
  (sSeq (sIf (dTest (dBin gEq (dVar 2) (dC (.str "to")))) (sRet (dDat (dTup (dCons (dDat (dVar 2)) (dCons (dDat (dVal (dCall 2 S_l_take (dCons (dVarL 0) (dCons (dDat (dBin gAdd (dVar 3) (dC (.int 1)))) dNil))))) dNil))))) sNil)
  (sSeq (sIf (dTest (dBin gEq (dVar 2) (dC (.str "bark")))) (sRet (dDat (dTup (dCons (dDat (dVar 2)) (dCons (dDat (dBin gAdd (dC (.int 1)) (dVal (dCall 2 S_l_take (dCons (dVarL 0) (dCons (dDat (dVar 3)) dNil)))))) dNil))))) sNil)
  (sRet (dDat (dTup (dCons (dDat (dVar 2)) (dCons (dDat (dVal (dCall 2 S_l_any (dCons (dVarL 0) (dCons (dDat (dLst (dCons (dDat (dC (.int 0))) (dCons (dDat (dC (.int 0))) (dCons (dDat (dC (.int 1))) (dCons (dDat (dC (.int 1))) (dCons (dDat (dC (.int 2))) (dCons (dDat (dC (.int 3))) dNil)))))))) dNil))))) (dCons (dDat (dBin gAdd (dC (.int 1)) (dVal (dCall 2 S_l_take (dCons (dVarL 0) (dCons (dDat (dVar 3)) dNil)))))) dNil)))))))))
def S_l_deed : DF := fun ss T Q _ => ∃ (k : Nat) (w : Int), ss = [.ob k, .dat (.int w)] ∧ Cart T k ∧ 1 ≤ w ∧ w ≤ 1000000000000 ∧ ∀ (r : Rn) T', r.ok → CartTo T T' k → Q (.dat r.d) T'
theorem h_l_deed : ∀ (ss : List Sl) (T : List Ob) (Q : Sl → List Ob → Prop) (QX : Xn → List Ob → Prop), ss.length = 2 → S_l_deed ss T Q QX → B_l_deed (endsOf T.length Q QX) (startD 4 2 ss T) := by
  intro ss T Q QX hl h
  obtain ⟨k, w, rfl, c, w0, w1, h⟩ := h
  unfold B_l_deed
  walk_at "dl"
  refine ⟨k, _, _, rfl, .inl rfl, c, by decide, by decide, fun x T1 hx c1 => ?_⟩
  have k1 := c1.cart c
  walk_at "dl"
  refine ⟨k, _, _, rfl, .inl rfl, k1, by simp, by simp, fun y T2 hy c2 => ?_⟩
  have k2 := c2.cart k1
  obtain ⟨m, rfl, m1, m2⟩ : ∃ m : Int, y = .int m ∧ 1 ≤ m ∧ m ≤ 1000000000000 := by
    simp only [List.mem_cons, List.not_mem_nil, or_false] at hy
    rcases hy with rfl | rfl | rfl
    · exact ⟨3, rfl, by decide, by decide⟩
    · exact ⟨3, rfl, by decide, by decide⟩
    · exact ⟨w, rfl, w0, w1⟩
  have c12 := c1.trans c2
  simp only [List.mem_cons, List.not_mem_nil, or_false] at hx
  rcases hx with rfl | rfl | rfl | rfl | rfl | rfl
  all_goals walk_at "dl"
  · refine ⟨k, _, rfl, k2, by omega, by simp only [Int.reducePow]; omega, fun s T4 s0 s1 c4 => ?_⟩
    walk_at "dl"
    rw [take_len (c12.trans c4).len]
    exact h (.to s) T4 ⟨s0, by omega⟩ (c12.trans c4)
  · refine ⟨k, _, _, rfl, .inl rfl, k2, by decide, by decide, fun z T3 hz c3 => ?_⟩
    obtain ⟨n, rfl, n1, n3⟩ : ∃ n : Int, z = .int n ∧ 0 ≤ n ∧ n ≤ 3 := by
      simp only [List.mem_cons, List.not_mem_nil, or_false] at hz
      rcases hz with rfl | rfl | rfl | rfl | rfl | rfl
      all_goals exact ⟨_, rfl, by decide, by decide⟩
    walk_at "dl"
    refine ⟨k, m, rfl, c3.cart k2, by omega, by simp only [Int.reducePow]; omega, fun s T4 s0 s1 c4 => ?_⟩
    walk_at "dl"
    rw [take_len ((c12.trans c3).trans c4).len]
    exact h (.back n (1 + s)) T4 ⟨⟨n1, n3⟩, by omega, by omega⟩ ((c12.trans c3).trans c4)
  · refine ⟨k, _, _, rfl, .inl rfl, k2, by decide, by decide, fun z T3 hz c3 => ?_⟩
    obtain ⟨n, rfl, n1, n3⟩ : ∃ n : Int, z = .int n ∧ 0 ≤ n ∧ n ≤ 3 := by
      simp only [List.mem_cons, List.not_mem_nil, or_false] at hz
      rcases hz with rfl | rfl | rfl | rfl | rfl | rfl
      all_goals exact ⟨_, rfl, by decide, by decide⟩
    walk_at "dl"
    refine ⟨k, m, rfl, c3.cart k2, by omega, by simp only [Int.reducePow]; omega, fun s T4 s0 s1 c4 => ?_⟩
    walk_at "dl"
    rw [take_len ((c12.trans c3).trans c4).len]
    exact h (.back n (1 + s)) T4 ⟨⟨n1, n3⟩, by omega, by omega⟩ ((c12.trans c3).trans c4)
  · refine ⟨k, _, _, rfl, .inl rfl, k2, by decide, by decide, fun z T3 hz c3 => ?_⟩
    obtain ⟨n, rfl, n1, n3⟩ : ∃ n : Int, z = .int n ∧ 0 ≤ n ∧ n ≤ 3 := by
      simp only [List.mem_cons, List.not_mem_nil, or_false] at hz
      rcases hz with rfl | rfl | rfl | rfl | rfl | rfl
      all_goals exact ⟨_, rfl, by decide, by decide⟩
    walk_at "dl"
    refine ⟨k, m, rfl, c3.cart k2, by omega, by simp only [Int.reducePow]; omega, fun s T4 s0 s1 c4 => ?_⟩
    walk_at "dl"
    rw [take_len ((c12.trans c3).trans c4).len]
    exact h (.front n (1 + s)) T4 ⟨⟨n1, n3⟩, by omega, by omega⟩ ((c12.trans c3).trans c4)
  · refine ⟨k, _, _, rfl, .inl rfl, k2, by decide, by decide, fun z T3 hz c3 => ?_⟩
    obtain ⟨n, rfl, n1, n3⟩ : ∃ n : Int, z = .int n ∧ 0 ≤ n ∧ n ≤ 3 := by
      simp only [List.mem_cons, List.not_mem_nil, or_false] at hz
      rcases hz with rfl | rfl | rfl | rfl | rfl | rfl
      all_goals exact ⟨_, rfl, by decide, by decide⟩
    walk_at "dl"
    refine ⟨k, m, rfl, c3.cart k2, by omega, by simp only [Int.reducePow]; omega, fun s T4 s0 s1 c4 => ?_⟩
    walk_at "dl"
    rw [take_len ((c12.trans c3).trans c4).len]
    exact h (.front n (1 + s)) T4 ⟨⟨n1, n3⟩, by omega, by omega⟩ ((c12.trans c3).trans c4)
  · refine ⟨k, _, rfl, k2, by omega, by simp only [Int.reducePow]; omega, fun s T4 s0 s1 c4 => ?_⟩
    walk_at "dl"
    rw [take_len (c12.trans c4).len]
    exact h (.bark (1 + s)) T4 ⟨by omega, by omega⟩ (c12.trans c4)
/-- slots: 0 _law_cart, 1 _law_most, 2 _law_wide, 3 _law_turn -/
def B_l_deeds : DS :=
  (sRet (dDat (dCB gTuple (dCons (dDat (dComp (dRng1 (dCons (dDat (dVal (dCall 2 S_l_take (dCons (dVarL 0) (dCons (dDat (dBin gAdd (dVar 1) (dC (.int 1)))) dNil))))) dNil)) (gNm 3) dYes (dVal (dCall 2 S_l_deed (dCons (dVarL 0) (dCons (dDat (dVar 2)) dNil)))) [3])) dNil))))
def S_l_deeds : DF := fun ss T Q _ => ∃ (k : Nat) (m w : Int), ss = [.ob k, .dat (.int m), .dat (.int w)] ∧ Cart T k ∧ 0 ≤ m ∧ m ≤ 1000 ∧ 1 ≤ w ∧ w ≤ 1000000000000 ∧ ∀ (rs : List Rn) T', (rs.length : Int) ≤ m → (∀ r ∈ rs, r.ok) → CartTo T T' k → Q (.dat (.tup (rs.map Rn.d))) T'
theorem h_l_deeds : ∀ (ss : List Sl) (T : List Ob) (Q : Sl → List Ob → Prop) (QX : Xn → List Ob → Prop), ss.length = 3 → S_l_deeds ss T Q QX → B_l_deeds (endsOf T.length Q QX) (startD 4 3 ss T) := by
  intro ss T Q QX hl h
  obtain ⟨k, m, w, rfl, c, m0, m1, w0, w1, h⟩ := h
  unfold B_l_deeds
  walk_at "dl"
  rw [dComp_eq]
  walk_at "dl"
  refine ⟨k, _, rfl, c, by omega, by simp only [Int.reducePow]; omega, fun r T1 r0 r1 c1 => ?_⟩
  walk_at "dl"
  have k1 := c1.cart c
  have hk := k1.lt
  refine ⟨by omega, ?_⟩
  have hrl : (rangeD 0 r).length = r.toNat := by rw [rangeD_len]; simp
  refine compK_any (fun ds acc T' => CartTo T T' k ∧ ∃ rs : List Rn, acc = rs.map Rn.d ∧ (∀ r ∈ rs, r.ok) ∧ ds.length + rs.length = r.toNat) [some (.ob k), some (.dat (.int m)), some (.dat (.int w)), none] rfl rfl ?_ ?_ ⟨c1, [], rfl, by simp, by simp [hrl]⟩ ?_ ?_
  · simp [lowS, hk]
  · rw [hrl, sizeLine_eq]
    omega
  · rintro d ds acc T' hl hz ⟨c2, rs, rfl, ok, e⟩ R hR
    walk_at "dl"
    have k2 := c2.cart c
    refine ⟨k, w, rfl, k2.app _, w0, w1, fun x T'' xok c3 => ?_⟩
    obtain ⟨T3, rfl, c4⟩ := c3.unapp k2
    walk_at "dl"
    refine hR (some x.d) T3 _ (c4.len.trans hl) ⟨c2.trans c4, rs ++ [x], by simp, ?_, ?_⟩ rfl
    · intro r hr
      rcases List.mem_append.mp hr with hr | hr
      · exact ok r hr
      · rw [List.mem_singleton.mp hr]
        exact xok
    · simp at e ⊢
      omega
  · rintro acc T' hl ⟨c2, rs, rfl, ok, e⟩
    walk_at "dl"
    rw [take_len c2.len]
    refine h rs T' ?_ ok c2
    simp at e
    omega
/-- slots: 0 _law_cart, 1 _law_most -/
def B_l_work : DS :=
  (sRet (dDat (dTup (dCons (dDat (dBin gAdd (dC (.int 1)) (dVal (dCall 2 S_l_take (dCons (dVarL 0) (dCons (dDat (dC (.int 4))) dNil)))))) (dCons (dDat (dVal (dCall 3 S_l_deeds (dCons (dVarL 0) (dCons (dDat (dVar 1)) (dCons (dDat (dVal (dCall 2 S_l_any (dCons (dVarL 0) (dCons (dDat (dLst (dCons (dDat (dC (.int 6))) (dCons (dDat (dC (.int 12))) (dCons (dDat (dBin gPow (dC (.int 10)) (dC (.int 12)))) dNil))))) dNil))))) dNil)))))) dNil)))))
def S_l_work : DF := fun ss T Q _ => ∃ (k : Nat) (m : Int), ss = [.ob k, .dat (.int m)] ∧ Cart T k ∧ 0 ≤ m ∧ m ≤ 1000 ∧ ∀ (g : Int) (rs : List Rn) T', 1 ≤ g → g ≤ 4 → (rs.length : Int) ≤ m → (∀ r ∈ rs, r.ok) → CartTo T T' k → Q (.dat (drD g rs)) T'
theorem h_l_work : ∀ (ss : List Sl) (T : List Ob) (Q : Sl → List Ob → Prop) (QX : Xn → List Ob → Prop), ss.length = 2 → S_l_work ss T Q QX → B_l_work (endsOf T.length Q QX) (startD 2 2 ss T) := by
  intro ss T Q QX hl h
  obtain ⟨k, m, rfl, c, m0, m1, h⟩ := h
  unfold B_l_work
  walk_at "dl"
  refine ⟨k, _, rfl, c, by omega, by simp only [Int.reducePow]; omega, fun r T1 r0 r1 c1 => ?_⟩
  walk_at "dl"
  have k1 := c1.cart c
  refine ⟨by unfold CPow; decide, k, _, _, rfl, .inl rfl, k1, by simp, by simp, fun x T2 hx c2 => ?_⟩
  have k2 := c2.cart k1
  obtain ⟨w, rfl, w0, w1⟩ : ∃ n : Int, x = .int n ∧ 1 ≤ n ∧ n ≤ 1000000000000 := by
    simp only [List.mem_cons, List.not_mem_nil, or_false] at hx
    rcases hx with rfl | rfl | rfl
    all_goals exact ⟨_, rfl, by decide, by decide⟩
  walk_at "dl"
  refine ⟨k, m, w, rfl, k2, m0, m1, w0, w1, fun rs T3 hr ok c3 => ?_⟩
  walk_at "dl"
  rw [take_len ((c1.trans c2).trans c3).len]
  exact h (1 + r) rs T3 (by omega) (by omega) hr ok ((c1.trans c2).trans c3)
/-- the places of rooms -/
def atL (g : Int) : Nat → List Int → List Int
  | _, [] => []
  | i, x :: r => (x + (i : Int) * g) :: atL g (i + 1) r
theorem atL_len (g : Int) : ∀ (xs : List Int) (i : Nat), (atL g i xs).length = xs.length
  | [], _ => rfl
  | _ :: r, i => congrArg (· + 1) (atL_len g r (i + 1))
def atD (g : Int) (d : D) : Option D := match d with
  | .tup [.int i, .int x] => some (.int (x + i * g))
  | _ => none
theorem atD_enum (g : Int) : ∀ (xs : List Int) (i : Nat), (enumD i (xs.map .int)).filterMap (atD g) = (atL g i xs).map .int
  | [], _ => rfl
  | x :: r, i => by
    show (D.tup [.int i, .int x] :: enumD (i + 1) (r.map .int)).filterMap (atD g) = _
    rw [List.filterMap_cons, atD_enum g r (i + 1)]
    rfl
theorem enum_mem : ∀ (xs : List Int) (n : Nat) (d : D), d ∈ enumD n (xs.map .int) → ∃ (i : Nat) (x : Int), d = .tup [.int i, .int x] ∧ i < n + xs.length
  | [], _, d, h => by simp [enumD] at h
  | x :: xs, n, d, h => by
    rcases List.mem_cons.mp h with rfl | h
    · exact ⟨n, x, rfl, by simp⟩
    · obtain ⟨i, y, e, l⟩ := enum_mem xs (n + 1) d h
      exact ⟨i, y, e, by simp at l ⊢; omega⟩
/-- slots: 0 _law_gap, 1 _law_rooms_here, 2 _law_at_here, 3 _law_room -/
def B_l_at : DS :=
  (sRet (dDat (dCB gTuple (dCons (dDat (dComp (dEnum (dCons (dDat (dVar 1)) dNil)) (gTp 2 (gCs (gNm 2) (gCs (gNm 3) gNl))) dYes (dBin gAdd (dVar 3) (dBin gMulB (dVar 2) (dVar 0))) [2, 3])) dNil))))
def S_l_at : DF := fun ss T Q _ => ∃ (g : Int) (xs : List Int), ss = [.dat (.int g), .dat (tupI xs)] ∧ g.natAbs < 2 ^ 200 ∧ xs.length ≤ 1000 ∧ Q (.dat (tupI (atL g 0 xs))) T
theorem h_l_at : ∀ (ss : List Sl) (T : List Ob) (Q : Sl → List Ob → Prop) (QX : Xn → List Ob → Prop), ss.length = 2 → S_l_at ss T Q QX → B_l_at (endsOf T.length Q QX) (startD 4 2 ss T) := by
  intro ss T Q QX hl h
  obtain ⟨g, xs, rfl, hg, hx, h⟩ := h
  unfold B_l_at
  walk_at "dl"
  rw [dComp_eq]
  walk_at "dl"
  refine compK_pure (atD g) [some (.dat (.int g)), some (.dat (tupI xs)), none, none] rfl rfl rfl (by rw [enumD_len, List.length_map, sizeLine_eq]; omega) ?_ ?_
  · intro d hd acc R hR
    obtain ⟨i, x, rfl, hi⟩ := enum_mem _ _ _ hd
    walk_at "dl"
    exact ⟨cmulW (by omega) (by omega), hR _ rfl⟩
  · walk_at "dl"
    rw [atD_enum]
    exact h
end DL
set_option Elab.async false
set_option linter.all false
set_option maxRecDepth 100000
set_option maxHeartbeats 4000000
set_option autoImplicit false
/-! The law's defs at data level: rooms, closing up, driving; what driving keeps. -/
namespace DL
open PySem PySem.Spec PyProof.Rows L2
local macro_rules | `(tactic| walk_at "dl") => `(tactic| (try simp only [sSeq, sSet, sRet, sRetN, sIf, sNil, sDrop, sFor, sTo, sPar2, sPar3, sNever, sSetIx, dVar, dC, dVarL, dDat, dVal, valK_dat, valK_ob, dBin, dUn, dNil, dCons, dats, dTup, dLst, dNew, dNewOf, dTest, dtAnd, dtOr, dtNot, dAnd, dOr, dNot, dIf, dChain, dCB, dSl, dNo, dSo, sApp, dIxO, dLenO, dMaxD, dGetP, dCall, dSeq, dRng1, dRng2, dZip, dEnum, gNm, gTp, gCs, gNl, dYes,
  startD, endsOf, retD, wipeS, gAdd, gSub, gMul, gMulA, gMulB, gDiv, gMod, gPow, gNeg, gLt, gLe, gGt, gGe, gEq, gNe, gIn, gIx, gSl, gIsi, tyD, isiD, gLen, gAbs, gInt, gMax2, gMin2, gTuple, gList, gIsN, isNon, gIsB, gNotB,
  List.getElem?_cons_zero, List.getElem?_cons_succ, List.getElem?_nil, List.set_cons_zero, List.set_cons_succ, List.map_cons, List.map_nil, List.cons_append, List.nil_append, List.length_cons, List.length_nil, List.replicate_succ, List.replicate_zero, Option.map_some, Nat.reduceSub, Nat.reduceAdd, Nat.reduceLeDiff,
  List.take_length, beq_self_eq_true, String.reduceBEq, Bool.or_true, Bool.true_or, Bool.or_false, Bool.false_or, Bool.and_true, Bool.and_false, Bool.true_and, Bool.false_and, Bool.or_self, Bool.and_self, decide_true, decide_false, dmem, List.any_cons, List.any_nil, okd_non, okd_bl, okd_int, okd_str, okds_nil, okds_cons, okd_60t, okd_59t, okd_58t, okd_60l, okd_59l, okd_58l, st_tk, st_tb, st_tf, st_kt, st_kb, st_kf, st_bt, st_bk, st_bf, st_ft, st_fk, st_fb, nat_num, Int.reduceBEq, Int.reduceBNe, Int.reduceEq, Int.reduceLT, Int.reduceLE, Int.reduceAdd, Int.reduceSub, Int.reduceMul, Int.reduceNeg, Int.reduceToNat, Int.reducePow, atI_0, atI_1, atI_2, set_last, get_last, take_last, deq_str, deq_int, deq_non, deq_bl, deq_tt, deq_ll, deqs_nn, deqs_cc, deqs_nc, deqs_cn, Nat.lt_irrefl, List.set_set, ixN_20, ixN_21, tupI, okds_ints, atI_map', List.length_map, cutL_map, eq_self, if_true, if_false, ite_true, ite_false, Bool.false_eq_true, decide_eq_true_eq, true_and, and_true, and_self, Bool.not_true, Bool.not_false, true_or, or_true, false_or, or_false, Option.some.injEq, reduceCtorEq]))
theorem spaced_snoc (g : Int) : ∀ (A : List Int) (v w : Int), spaced g (A ++ [v, w]) = (spaced g (A ++ [v]) && decide (v + g ≤ w))
  | [], v, w => by simp [spaced]
  | [a], v, w => by simp [spaced]
  | a :: b :: A, v, w => by
    have ih := spaced_snoc g (b :: A) v w
    simp only [List.cons_append] at ih
    simp only [List.cons_append, spaced, ih, Bool.and_assoc]
theorem spaced_init (g : Int) : ∀ (A B : List Int), spaced g (A ++ B) = true → spaced g A = true
  | [], _, _ => rfl
  | [a], _, _ => rfl
  | a :: b :: A, B, h => by
    simp only [List.cons_append, spaced, Bool.and_eq_true] at h ⊢
    exact ⟨h.1, spaced_init g (b :: A) B (by simpa using h.2)⟩
theorem spaced_tail (g : Int) : ∀ (A B : List Int), spaced g (A ++ B) = true → spaced g B = true
  | [], _, h => h
  | [a], [], _ => rfl
  | [a], b :: B, h => by
    simp only [List.cons_append, List.nil_append, spaced, Bool.and_eq_true] at h
    exact h.2
  | a :: b :: A, B, h => by
    simp only [List.cons_append, spaced, Bool.and_eq_true] at h
    exact spaced_tail g (b :: A) B (by simpa using h.2)
theorem spaced_join (g : Int) : ∀ (A : List Int) (x : Int) (B : List Int), spaced g (A ++ [x]) = true → spaced g (x :: B) = true → spaced g (A ++ x :: B) = true
  | [], x, B, _, h => h
  | [a], x, B, h1, h => by
    simp only [List.cons_append, List.nil_append, spaced, Bool.and_eq_true] at h1 ⊢
    exact ⟨h1.1, h⟩
  | a :: b :: A, x, B, h1, h => by
    simp only [List.cons_append, spaced, Bool.and_eq_true] at h1 ⊢
    exact ⟨h1.1, by simpa using spaced_join g (b :: A) x B (by simpa using h1.2) h⟩
theorem spaced_more (g : Int) : ∀ (A : List Int) (x y : Int), spaced g (A ++ [x]) = true → x ≤ y → spaced g (A ++ [y]) = true
  | [], _, _, _, _ => rfl
  | [a], x, y, h, l => by
    simp only [List.cons_append, List.nil_append, spaced, Bool.and_eq_true, decide_eq_true_eq] at h ⊢
    exact ⟨by omega, trivial⟩
  | a :: b :: A, x, y, h, l => by
    simp only [List.cons_append, spaced, Bool.and_eq_true] at h ⊢
    exact ⟨h.1, by simpa using spaced_more g (b :: A) x y (by simpa using h.2) l⟩
theorem clo_spaced (g : Int) : ∀ (r : List Int) (p : Int), spaced g (p :: clo g p r) = true
  | [], _ => rfl
  | x :: r, p => by
    simp only [clo, spaced, Bool.and_eq_true, decide_eq_true_eq]
    exact ⟨by split <;> omega, clo_spaced g r _⟩
theorem clo_id (g : Int) : ∀ (r : List Int) (p : Int), spaced g (p :: r) = true → clo g p r = r
  | [], _, _ => rfl
  | x :: r, p, h => by
    simp only [spaced, Bool.and_eq_true, decide_eq_true_eq] at h
    have e : (if p + g > x then p + g else x) = x := by split <;> omega
    simp only [clo, e, clo_id g r x h.2]
def closedL (g : Int) : List Int → List Int
  | [] => []
  | x :: r => x :: clo g x r
theorem closed_id {g : Int} : ∀ {xs : List Int}, spaced g xs = true → closedL g xs = xs
  | [], _ => rfl
  | x :: r, h => by simp only [closedL, clo_id g r x h]
theorem closed_len (g : Int) : ∀ xs : List Int, (closedL g xs).length = xs.length
  | [] => rfl
  | x :: r => by simp [closedL, clo_len]
theorem clo_app (g : Int) : ∀ (A : List Int) (p x y : Int) (r : List Int), spaced g (p :: A ++ [x]) = true → x ≤ y → clo g p (A ++ y :: r) = A ++ y :: clo g y r
  | [], p, x, y, r, h, l => by
    simp only [List.cons_append, List.nil_append, spaced, Bool.and_eq_true, decide_eq_true_eq] at h
    have e : (if p + g > y then p + g else y) = y := by split <;> omega
    simp only [List.nil_append, clo, e]
  | a :: A, p, x, y, r, h, l => by
    simp only [List.cons_append, spaced, Bool.and_eq_true, decide_eq_true_eq] at h
    have e : (if p + g > a then p + g else a) = a := by split <;> omega
    simp only [List.cons_append, clo, e, clo_app g A a x y r (by simpa using h.2) l]
theorem closed_app {g : Int} {A : List Int} {x y : Int} {r : List Int} (h : spaced g (A ++ [x]) = true) (l : x ≤ y) : closedL g (A ++ y :: r) = A ++ y :: clo g y r := by
  cases A with
  | nil => rfl
  | cons a A => simp only [List.cons_append, closedL, clo_app g A a x y r (by simpa using h) l]
theorem spaced_map (g s : Int) : ∀ xs : List Int, spaced g (xs.map (· + s)) = spaced g xs
  | [] => rfl
  | [x] => rfl
  | x :: y :: r => by
    have ih := spaced_map g s (y :: r)
    simp only [List.map_cons] at ih
    simp only [List.map_cons, spaced, ih]
    congr 1
    rw [Bool.eq_iff_iff]
    simp
    omega
theorem pushed_spaced {g s : Int} {xs : List Int} (i : Nat) (h : spaced g xs = true) (hs : 0 ≤ s) : spaced g (pushedL g xs i s) = true := by
  by_cases q : i < xs.length
  · obtain ⟨A, x, r, rfl, rfl⟩ := split_at q
    rw [pushedL_at]
    have h1 : spaced g (A ++ [x]) = true := spaced_init g (A ++ [x]) r (by simpa using h)
    exact spaced_join g A _ _ (spaced_more g A x _ h1 (by omega)) (clo_spaced g r _)
  · unfold pushedL
    rw [List.drop_eq_nil_of_le (by omega), List.take_of_length_le (by omega)]
    simpa using h
theorem ran_spaced {g : Int} {xs : List Int} {r : Rn} (h : spaced g xs = true) (ok : r.ok) : spaced g (ranL g xs r) = true := by
  cases r with
  | to p =>
    simp only [ranL]
    refine pushed_spaced 0 h ?_
    split <;> omega
  | bark s => simp only [ranL, spaced_map, h]
  | back n s =>
    simp only [ranL]
    split
    · exact pushed_spaced _ h (by have := ok.2.1; omega)
    · exact h
  | front n s =>
    simp only [ranL]
    split
    · exact pushed_spaced _ h (by have := ok.2.1; omega)
    · exact h
/-- place by place not less -/
def leL : List Int → List Int → Prop
  | [], [] => True
  | x :: r, y :: s => x ≤ y ∧ leL r s
  | _, _ => False
theorem leL_refl : ∀ xs : List Int, leL xs xs
  | [] => trivial
  | x :: r => ⟨Int.le_refl x, leL_refl r⟩
theorem leL_app : ∀ (A : List Int) {B C : List Int}, leL B C → leL (A ++ B) (A ++ C)
  | [], _, _, h => h
  | a :: A, _, _, h => ⟨Int.le_refl a, leL_app A h⟩
theorem leL_clo (g : Int) : ∀ (r : List Int) (p : Int), leL r (clo g p r)
  | [], _ => trivial
  | x :: r, p => ⟨by split <;> omega, leL_clo g r _⟩
theorem leL_pushed {g s : Int} {xs : List Int} (i : Nat) (hs : 0 ≤ s) : leL xs (pushedL g xs i s) := by
  by_cases q : i < xs.length
  · obtain ⟨A, x, r, rfl, rfl⟩ := split_at q
    rw [pushedL_at]
    exact leL_app A ⟨by omega, leL_clo g r _⟩
  · unfold pushedL
    rw [List.drop_eq_nil_of_le (by omega), List.take_of_length_le (by omega), List.append_nil]
    exact leL_refl xs
theorem leL_map {s : Int} (hs : 0 ≤ s) : ∀ xs : List Int, leL xs (xs.map (· + s))
  | [] => trivial
  | x :: r => ⟨by show x ≤ x + s; omega, leL_map hs r⟩
theorem leL_ran {g : Int} {xs : List Int} {r : Rn} (ok : r.ok) : leL xs (ranL g xs r) := by
  cases r with
  | to p =>
    simp only [ranL]
    refine leL_pushed 0 ?_
    split <;> omega
  | bark s => exact leL_map (by have := ok.1; omega) xs
  | back n s =>
    simp only [ranL]
    split
    · exact leL_pushed _ (by have := ok.2.1; omega)
    · exact leL_refl xs
  | front n s =>
    simp only [ranL]
    split
    · exact leL_pushed _ (by have := ok.2.1; omega)
    · exact leL_refl xs
theorem leL_at : ∀ {xs ys : List Int} (i : Nat), leL xs ys → ∀ {a b : Int}, xs[i]? = some a → ys[i]? = some b → a ≤ b
  | [], [], _, _, _, _, h, _ => by simp at h
  | x :: r, y :: s, 0, h, a, b, h1, h2 => by
    have e1 := Option.some.inj h1
    have e2 := Option.some.inj h2
    rw [← e1, ← e2]
    exact h.1
  | x :: r, y :: s, i + 1, h, a, b, h1, h2 => leL_at (xs := r) (ys := s) i h.2 h1 h2
theorem leL_len : ∀ {xs ys : List Int}, leL xs ys → xs.length = ys.length
  | [], [], _ => rfl
  | x :: r, y :: s, h => congrArg (· + 1) (leL_len h.2)
/-- slots: 0 _law_gap, 1 _law_places, 2 _law_found, 3 _law_place -/
def B_l_closed : DS :=
  (sSeq (sSet 2 (dDat (dTup dNil)))
  (sSeq (sFor (dSeq (dVar 1)) (gNm 3) (sSeq (sIf (dtAnd (dTest (dBin gNe (dVar 2) (dTup dNil))) (dTest (dBin gLt (dVar 3) (dBin gAdd (dBin gIx (dVar 2) (dUn gNeg (dC (.int 1)))) (dVar 0))))) (sSet 3 (dDat (dBin gAdd (dBin gIx (dVar 2) (dUn gNeg (dC (.int 1)))) (dVar 0)))) sNil)
  (sSet 2 (dDat (dBin gAdd (dVar 2) (dTup (dCons (dDat (dVar 3)) dNil)))))))
  (sRet (dDat (dVar 2)))))
def S_l_closed : DF := fun ss T Q _ => ∃ (g : Int) (xs : List Int), ss = [.dat (.int g), .dat (tupI xs)] ∧ xs.length ≤ 1000 ∧ Q (.dat (tupI (closedL g xs))) T
theorem h_l_closed : ∀ (ss : List Sl) (T : List Ob) (Q : Sl → List Ob → Prop) (QX : Xn → List Ob → Prop), ss.length = 2 → S_l_closed ss T Q QX → B_l_closed (endsOf T.length Q QX) (startD 4 2 ss T) := by
  intro ss T Q QX hl h
  obtain ⟨g, xs, rfl, hx, h⟩ := h
  unfold B_l_closed
  walk_at "dl"
  refine loop_inv (fun ds ρ => ∃ (done rest : List Int) (v : Option Sl), ρ = ⟨T, [some (.dat (.int g)), some (.dat (.tup (xs.map .int))), some (.dat (.tup (done.map .int))), v]⟩ ∧ ds = rest.map .int ∧ ((done = [] ∧ rest = xs) ∨ ∃ P p, done = P ++ [p] ∧ P ++ p :: clo g p rest = closedL g xs)) ?_ ?_ _ _ ?_
  · rintro d ds ρ ⟨done, rest, v, rfl, e, hc⟩ N hN
    cases rest with
    | nil => cases e
    | cons x rest =>
      cases e
      rcases hc with ⟨rfl, hc⟩ | ⟨P, p, rfl, hc⟩
      · walk_at "dl"
        refine ⟨by decide, hN _ ⟨[x], rest, some (.dat (.int x)), rfl, rfl, .inr ⟨[], x, rfl, ?_⟩⟩⟩
        rw [← hc]
        rfl
      · have hn : deqs (List.map D.int (P ++ [p])) [] = false := by
          rw [deqs_nil_iff]
          simp
        have hlen := congrArg List.length hc
        simp only [List.length_append, List.length_cons, clo_len, closed_len] at hlen
        walk_at "dl"
        rw [hn]
        walk_at "dl"
        rw [atI_last]
        walk_at "dl"
        by_cases q : x < p + g
        · rw [if_pos q]
          refine ⟨by rw [List.length_append, sizeLine_eq]; simp; omega, hN _ ⟨(P ++ [p]) ++ [p + g], rest, some (.dat (.int (p + g))), by simp, rfl, .inr ⟨P ++ [p], p + g, rfl, ?_⟩⟩⟩
          rw [← hc]
          simp only [clo, if_pos (show p + g > x by omega)]
          simp
        · rw [if_neg q]
          refine ⟨by rw [List.length_append, sizeLine_eq]; simp; omega, hN _ ⟨(P ++ [p]) ++ [x], rest, some (.dat (.int x)), by simp, rfl, .inr ⟨P ++ [p], x, rfl, ?_⟩⟩⟩
          rw [← hc]
          simp only [clo, if_neg (show ¬ (p + g > x) by omega)]
          simp
  · rintro ρ ⟨done, rest, v, rfl, e, hc⟩
    have hr : rest = [] := by
      cases rest with
      | nil => rfl
      | cons y rest => cases e
    subst hr
    walk_at "dl"
    rcases hc with ⟨rfl, hc⟩ | ⟨P, p, rfl, hc⟩
    · rw [← hc] at h
      exact h
    · rw [← hc] at h
      exact h
  · exact ⟨[], xs, none, rfl, rfl, .inl ⟨rfl, rfl⟩⟩
end DL
set_option Elab.async false
set_option linter.all false
set_option maxRecDepth 100000
set_option maxHeartbeats 4000000
set_option autoImplicit false
/-! The law's defs at data level: driving, rooms. -/
namespace DL
open PySem PySem.Spec PyProof.Rows L2
local macro_rules | `(tactic| walk_at "dl") => `(tactic| (try simp only [sSeq, sSet, sRet, sRetN, sIf, sNil, sDrop, sFor, sTo, sPar2, sPar3, sNever, sSetIx, dVar, dC, dVarL, dDat, dVal, valK_dat, valK_ob, dBin, dUn, dNil, dCons, dats, dTup, dLst, dNew, dNewOf, dTest, dtAnd, dtOr, dtNot, dAnd, dOr, dNot, dIf, dChain, dCB, dSl, dNo, dSo, sApp, dIxO, dLenO, dMaxD, dGetP, dCall, dSeq, dRng1, dRng2, dZip, dEnum, gNm, gTp, gCs, gNl, dYes,
  startD, endsOf, retD, wipeS, gAdd, gSub, gMul, gMulA, gMulB, gDiv, gMod, gPow, gNeg, gLt, gLe, gGt, gGe, gEq, gNe, gIn, gIx, gSl, gIsi, tyD, isiD, gLen, gAbs, gInt, gMax2, gMin2, gTuple, gList, gIsN, isNon, gIsB, gNotB,
  List.getElem?_cons_zero, List.getElem?_cons_succ, List.getElem?_nil, List.set_cons_zero, List.set_cons_succ, List.map_cons, List.map_nil, List.cons_append, List.nil_append, List.length_cons, List.length_nil, List.replicate_succ, List.replicate_zero, Option.map_some, Nat.reduceSub, Nat.reduceAdd, Nat.reduceLeDiff,
  List.take_length, beq_self_eq_true, String.reduceBEq, Bool.or_true, Bool.true_or, Bool.or_false, Bool.false_or, Bool.and_true, Bool.and_false, Bool.true_and, Bool.false_and, Bool.or_self, Bool.and_self, decide_true, decide_false, dmem, List.any_cons, List.any_nil, okd_non, okd_bl, okd_int, okd_str, okds_nil, okds_cons, okd_60t, okd_59t, okd_58t, okd_60l, okd_59l, okd_58l, st_tk, st_tb, st_tf, st_kt, st_kb, st_kf, st_bt, st_bk, st_bf, st_ft, st_fk, st_fb, nat_num, Int.reduceBEq, Int.reduceBNe, Int.reduceEq, Int.reduceLT, Int.reduceLE, Int.reduceAdd, Int.reduceSub, Int.reduceMul, Int.reduceNeg, Int.reduceToNat, Int.reducePow, atI_0, atI_1, atI_2, set_last, get_last, take_last, deq_str, deq_int, deq_non, deq_bl, deq_tt, deq_ll, deqs_nn, deqs_cc, deqs_nc, deqs_cn, Nat.lt_irrefl, List.set_set, ixN_20, ixN_21, tupI, okds_ints, atI_map', List.length_map, cutL_map, eq_self, if_true, if_false, ite_true, ite_false, Bool.false_eq_true, decide_eq_true_eq, true_and, and_true, and_self, Bool.not_true, Bool.not_false, true_or, or_true, false_or, or_false, Option.some.injEq, reduceCtorEq]))
theorem closed_pushed {g s x : Int} {A r : List Int} (h : spaced g (A ++ x :: r) = true) (hs : 0 ≤ s) : closedL g (A ++ (x + s) :: r) = pushedL g (A ++ x :: r) A.length s := by
  rw [pushedL_at]
  exact closed_app (spaced_init g (A ++ [x]) r (by simpa using h)) (by omega)
theorem take_at (A r : List Int) (x : Int) : (A ++ x :: r).take A.length = A := by simp
theorem drop_at (A r : List Int) (x : Int) : (A ++ x :: r).drop (A.length + 1) = r := by
  rw [show A ++ x :: r = (A ++ [x]) ++ r by simp, show A.length + 1 = (A ++ [x]).length by simp, List.drop_left]
theorem ranL_to (g x p : Int) (r : List Int) : ranL g (x :: r) (.to p) = if p - x > 0 then pushedL g (x :: r) 0 (p - x) else pushedL g (x :: r) 0 0 := by
  show pushedL g (x :: r) 0 (if p - x > 0 then p - x else 0) = _
  split <;> rfl
/-- slots: 0 _law_gap, 1 _law_places, 2 _law_run, 3 _law_sheep, 4 _law_there, 5 _law_place -/
def B_l_ran : DS :=
  (sSeq (sIf (dTest (dBin gEq (dBin gIx (dVar 2) (dC (.int 0))) (dC (.str "bark")))) (sRet (dDat (dCB gTuple (dCons (dDat (dComp (dSeq (dVar 1)) (gNm 5) dYes (dBin gAdd (dVar 5) (dBin gIx (dVar 2) (dC (.int 1)))) [5])) dNil)))) sNil)
  (sSeq (sPar2 3 4 (dDat (dC (.int 0))) (dDat (dBin gIx (dVar 2) (dC (.int 1)))))
  (sSeq (sIf (dTest (dBin gNe (dBin gIx (dVar 2) (dC (.int 0))) (dC (.str "to")))) (sSeq (sSet 3 (dDat (dIf (dTest (dBin gEq (dBin gIx (dVar 2) (dC (.int 0))) (dC (.str "back")))) (dBin gIx (dVar 2) (dC (.int 1))) (dBin gSub (dBin gSub (dCB gLen (dCons (dDat (dVar 1)) dNil)) (dC (.int 1))) (dBin gIx (dVar 2) (dC (.int 1)))))))
  (sSet 4 (dDat (dIf (dTest (dChain gLe gLt (dC (.int 0)) (dVar 3) (dCB gLen (dCons (dDat (dVar 1)) dNil)))) (dBin gAdd (dBin gIx (dVar 1) (dVar 3)) (dBin gIx (dVar 2) (dC (.int 2)))) (dC (.int 0)))))) sNil)
  (sSeq (sIf (dtOr (dtNot (dTest (dChain gLe gLt (dC (.int 0)) (dVar 3) (dCB gLen (dCons (dDat (dVar 1)) dNil))))) (dTest (dBin gLe (dVar 4) (dBin gIx (dVar 1) (dVar 3))))) (sRet (dDat (dVar 1))) sNil)
  (sRet (dDat (dVal (dCall 2 S_l_closed (dCons (dDat (dVar 0)) (dCons (dDat (dBin gAdd (dBin gAdd (dSl (dVar 1) dNo (dSo (dVar 3))) (dTup (dCons (dDat (dVar 4)) dNil))) (dSl (dVar 1) (dSo (dBin gAdd (dVar 3) (dC (.int 1)))) dNo))) dNil))))))))))
def S_l_ran : DF := fun ss T Q _ => ∃ (g : Int) (xs : List Int) (r : Rn), ss = [.dat (.int g), .dat (tupI xs), .dat r.d] ∧ 1 ≤ xs.length ∧ xs.length ≤ 1000 ∧ r.ok ∧ spaced g xs = true ∧ Q (.dat (tupI (ranL g xs r))) T
theorem l_ran_fin {g s : Int} {xs : List Int} {i : Int} {T : List Ob} {Q : Sl → List Ob → Prop} (h0 : 0 ≤ i) (h1 : i < xs.length) (hz : xs.length ≤ 1000) (sp : spaced g xs = true) (hs : 1 ≤ s) (h : Q (.dat (tupI (pushedL g xs i.toNat s))) T) :
    ∃ x, atI xs i = some x ∧ ¬ (x + s ≤ x) ∧ (cutL xs none (some i)).length + 1 ≤ sizeLine ∧ (cutL xs none (some i)).length + 1 + (cutL xs (some (i + 1)) none).length ≤ sizeLine ∧
      ∃ ys : List Int, (List.map D.int (cutL xs none (some i)) ++ [D.int (x + s)] ++ List.map D.int (cutL xs (some (i + 1)) none)) = ys.map .int ∧ ys.length ≤ 1000 ∧ closedL g ys = pushedL g xs i.toNat s := by
  obtain ⟨A, x, r, rfl, hA⟩ := split_at (i := i.toNat) (xs := xs) (by omega)
  have hi : i = A.length := by omega
  subst hi
  have e1 : cutL (A ++ x :: r) none (some (A.length : Int)) = A := by
    rw [cut_to _ h0 (by omega), Int.toNat_natCast, take_at]
  have e2 : cutL (A ++ x :: r) (some ((A.length : Int) + 1)) none = r := by
    rw [cut_from _ (by omega), show ((A.length : Int) + 1).toNat = A.length + 1 by omega, drop_at]
  rw [e1, e2, sizeLine_eq]
  simp only [List.length_append, List.length_cons] at hz
  refine ⟨x, atI_ints A r x _ rfl, by omega, by omega, by omega, A ++ (x + s) :: r, by simp, by simp; omega, ?_⟩
  rw [Int.toNat_natCast]
  exact closed_pushed sp (by omega)
theorem h_l_ran : ∀ (ss : List Sl) (T : List Ob) (Q : Sl → List Ob → Prop) (QX : Xn → List Ob → Prop), ss.length = 3 → S_l_ran ss T Q QX → B_l_ran (endsOf T.length Q QX) (startD 6 3 ss T) := by
  intro ss T Q QX hl h
  obtain ⟨g, xs, r, rfl, h1, hz, ok, sp, h⟩ := h
  unfold B_l_ran
  cases r with
  | to p =>
    simp only [Rn.d]
    obtain ⟨x, r, rfl⟩ : ∃ x r, xs = x :: r := by
      cases xs with
      | nil => simp at h1
      | cons x r => exact ⟨x, r, rfl⟩
    walk_at "dl"
    have hlen : (0 : Int) < (r.length + 1 : Nat) := by omega
    rw [if_neg (by simpa using hlen)]
    by_cases q : p ≤ x
    · rw [if_pos q]
      rw [ranL_to, if_neg (by omega)] at h
      rw [show pushedL g (x :: r) 0 0 = x :: r by
        have := pushedL_at g 0 x [] r
        simp only [List.nil_append, List.length_nil] at this
        rw [this, Int.add_zero, clo_id g r x sp]] at h
      exact h
    · rw [if_neg q]
      rw [ranL_to, if_pos (by omega)] at h
      rw [show pushedL g (x :: r) 0 (p - x) = p :: clo g p r by
        have := pushedL_at g (p - x) x [] r
        simp only [List.nil_append, List.length_nil] at this
        rw [this, show x + (p - x) = p by omega]] at h
      rw [cut_to _ (by omega) (by simp; omega), cut_from _ (by omega)]
      simp only [List.length_cons] at hz
      refine ⟨by simp [sizeLine_eq], by simp [sizeLine_eq]; omega, g, p :: r, by simp [tupI], by simp; omega, ?_⟩
      walk_at "dl"
      exact h
  | bark s =>
    simp only [Rn.d]
    walk_at "dl"
    rw [dComp_eq]
    walk_at "dl"
    refine compK_pure (fun d => match d with | .int i => some (.int (i + s)) | _ => none) [some (.dat (.int g)), some (.dat (tupI xs)), some (.dat (.tup [.str "bark", .int s])), none, none, none] rfl rfl rfl (by rw [List.length_map, sizeLine_eq]; omega) ?_ ?_
    · intro d hd acc R hR
      obtain ⟨x, _, rfl⟩ := List.mem_map.mp hd
      walk_at "dl"
      exact hR _ rfl
    · walk_at "dl"
      rw [List.filterMap_map, show ((fun d => match d with | D.int i => some (D.int (i + s)) | _ => none) ∘ D.int) = fun x => some (D.int (x + s)) from rfl, filterMap_some]
      have e : xs.map (fun x => D.int (x + s)) = (xs.map (· + s)).map D.int := by simp
      rw [e]
      exact h
  | back n s =>
    obtain ⟨⟨n0, n3⟩, s1, s2⟩ := ok
    simp only [Rn.d]
    walk_at "dl"
    rw [if_pos n0]
    simp only [ranL] at h
    by_cases q : n < xs.length
    · rw [if_pos q] at h
      obtain ⟨x, e1, l0, l1, l2, ys, e2, l3, e3⟩ := l_ran_fin n0 q hz sp s1 h
      rw [if_pos q, e1]
      walk_at "dl"
      rw [if_pos n0, if_neg (by simpa using q), if_neg l0]
      refine ⟨l1, by rw [List.length_append, List.length_map]; exact l2, ?_⟩
      rw [e2]
      refine ⟨g, ys, rfl, l3, ?_⟩
      walk_at "dl"
      rw [e3]
      exact h
    · rw [if_neg q] at h
      rw [if_neg q]
      rw [if_pos n0, if_pos (by simpa using q)]
      exact h
  | front n s =>
    obtain ⟨⟨n0, n3⟩, s1, s2⟩ := ok
    simp only [Rn.d]
    walk_at "dl"
    simp only [ranL] at h
    by_cases q : 0 ≤ (xs.length : Int) - 1 - n
    · rw [if_pos q] at h
      have q2 : (xs.length : Int) - 1 - n < xs.length := by omega
      obtain ⟨x, e1, l0, l1, l2, ys, e2, l3, e3⟩ := l_ran_fin q q2 hz sp s1 h
      rw [if_pos q, if_pos q2, e1]
      walk_at "dl"
      rw [if_pos q, if_neg (by simpa using q2), if_neg l0]
      refine ⟨l1, by rw [List.length_append, List.length_map]; exact l2, ?_⟩
      rw [e2]
      refine ⟨g, ys, rfl, l3, ?_⟩
      walk_at "dl"
      rw [e3]
      exact h
    · rw [if_neg q] at h
      rw [if_neg q, if_neg q]
      exact h
/-- rooms that are drawn -/
structure RoomsOk (w : Int) (xs : List Int) : Prop where
  sp : spaced 0 xs = true
  r : ∀ x ∈ xs, 0 ≤ x ∧ x ≤ w * xs.length
/-- slots: 0 _law_cart, 1 _law_many, 2 _law_wide, 3 _law_turn, 4 _law_found, 5 _law_room -/
def B_l_rooms : DS :=
  (sSeq (sPar2 4 5 (dDat (dTup dNil)) (dDat (dVal (dCall 2 S_l_take (dCons (dVarL 0) (dCons (dDat (dBin gAdd (dVar 2) (dC (.int 1)))) dNil))))))
  (sSeq (sFor (dRng1 (dCons (dDat (dVar 1)) dNil)) (gNm 3) (sSeq (sSet 4 (dDat (dBin gAdd (dVar 4) (dTup (dCons (dDat (dVar 5)) dNil)))))
  (sSet 5 (dDat (dBin gAdd (dVar 5) (dVal (dCall 2 S_l_any (dCons (dVarL 0) (dCons (dDat (dLst (dCons (dDat (dC (.int 0))) (dCons (dDat (dC (.int 0))) (dCons (dDat (dVal (dCall 2 S_l_take (dCons (dVarL 0) (dCons (dDat (dBin gAdd (dVar 2) (dC (.int 1)))) dNil))))) dNil))))) dNil)))))))))
  (sRet (dDat (dVar 4)))))
def S_l_rooms : DF := fun ss T Q _ => ∃ (k : Nat) (m w : Int), ss = [.ob k, .dat (.int m), .dat (.int w)] ∧ Cart T k ∧ 0 ≤ m ∧ m ≤ 1000 ∧ 0 ≤ w ∧ w ≤ 10 ^ 50 ∧ ∀ (xs : List Int) T', (xs.length : Int) = m → RoomsOk w xs → CartTo T T' k → Q (.dat (tupI xs)) T'
theorem h_l_rooms : ∀ (ss : List Sl) (T : List Ob) (Q : Sl → List Ob → Prop) (QX : Xn → List Ob → Prop), ss.length = 3 → S_l_rooms ss T Q QX → B_l_rooms (endsOf T.length Q QX) (startD 6 3 ss T) := by
  intro ss T Q QX hl h
  obtain ⟨k, m, w, rfl, c, m0, m1, w0, w1, h⟩ := h
  simp only [Int.reducePow] at w1
  unfold B_l_rooms
  walk_at "dl"
  refine ⟨k, _, rfl, c, by omega, by simp only [Int.reducePow]; omega, fun v T1 v0 v1 c1 => ?_⟩
  walk_at "dl"
  refine ⟨by omega, ?_⟩
  refine loop_inv (fun ds ρ => ∃ (xs : List Int) (v : Int) (T' : List Ob) (u : Option Sl), ρ = ⟨T', [some (.ob k), some (.dat (.int m)), some (.dat (.int w)), u, some (.dat (.tup (xs.map .int))), some (.dat (.int v))]⟩ ∧ CartTo T T' k ∧ (ds.length : Int) + xs.length = m ∧ spaced 0 (xs ++ [v]) = true ∧ 0 ≤ v ∧ v ≤ w * (xs.length + 1) ∧ ∀ x ∈ xs, 0 ≤ x ∧ x ≤ w * m) ?_ ?_ _ _ ?_
  · rintro d ds ρ ⟨xs, v, T', u, rfl, c2, hm, sp, v0, v1, hx⟩ N hN
    have k2 := c2.cart c
    simp only [List.length_cons] at hm
    walk_at "dl"
    refine ⟨by rw [sizeLine_eq]; omega, k, _, rfl, k2, by omega, by simp only [Int.reducePow]; omega, fun t T3 t0 t1 c3 => ?_⟩
    walk_at "dl"
    refine ⟨k, _, _, rfl, .inl rfl, c3.cart k2, by simp, by simp, fun y T4 hy c4 => ?_⟩
    obtain ⟨z, rfl, z0, z1⟩ : ∃ z : Int, y = .int z ∧ 0 ≤ z ∧ z ≤ w := by
      simp only [List.mem_cons, List.not_mem_nil, or_false] at hy
      rcases hy with rfl | rfl | rfl
      · exact ⟨0, rfl, by omega, w0⟩
      · exact ⟨0, rfl, by omega, w0⟩
      · exact ⟨t, rfl, t0, by omega⟩
    walk_at "dl"
    refine hN _ ⟨xs ++ [v], v + z, T4, some (.dat d), by simp, (c2.trans c3).trans c4, by simp; omega, ?_, by omega, ?_, ?_⟩
    · rw [List.append_assoc, show [v] ++ [v + z] = [v, v + z] from rfl, spaced_snoc, sp]
      simp
      omega
    · rw [List.length_append, List.length_singleton]
      have : w * (((xs.length + 1 : Nat) : Int) + 1) = w * (xs.length + 1) + w := by
        push_cast
        rw [Int.mul_add, Int.mul_one]
      rw [this]
      omega
    · intro x hx2
      rcases List.mem_append.mp hx2 with hx2 | hx2
      · exact hx x hx2
      · rw [List.mem_singleton.mp hx2]
        refine ⟨v0, Int.le_trans v1 (Int.mul_le_mul_of_nonneg_left (by omega) w0)⟩
  · rintro ρ ⟨xs, v, T', u, rfl, c2, hm, sp, v0, v1, hx⟩
    walk_at "dl"
    rw [take_len c2.len]
    simp only [List.length_nil] at hm
    refine h xs T' (by omega) ⟨spaced_init 0 xs [v] sp, fun x hx2 => ?_⟩ c2
    have := hx x hx2
    rw [← hm] at this
    simpa using this
  · refine ⟨[], v, T1, none, rfl, c1, ?_, rfl, v0, ?_, by simp⟩
    · rw [rangeD_len]
      simp
      omega
    · simp
      omega
theorem deqs_refl {ds : List D} (n : Nat) (h : okds n ds = true) : deqs ds ds = true := eqvPs_refl n ds h
theorem okds_tups (n : Nat) (l : List (List Int)) : okds (n + 1) (l.map tupI) = true := by
  rw [okds_iff]
  intro d hd
  obtain ⟨x, _, rfl⟩ := List.mem_map.mp hd
  exact okd_tupI n x
theorem range_mem {lo hi : Int} {d : D} (h : d ∈ rangeD lo hi) : ∃ i : Int, d = .int i ∧ lo ≤ i ∧ i < hi := by
  obtain ⟨k, hk, rfl⟩ := List.mem_map.mp h
  rw [List.mem_range] at hk
  exact ⟨_, rfl, by omega, by omega⟩
theorem BgOk.at {g w : Int} {xs : List Int} (h : RoomsOk w xs) (g1 : 1 ≤ g) (g9 : g ≤ 9) (l1 : 1 ≤ xs.length) (l40 : xs.length ≤ 40) (hw : w ≤ 10 ^ 28) (w0 : 0 ≤ w) : BgOk g (atL g 0 xs) := by
  have key : ∀ (xs : List Int) (i : Nat), spaced 0 xs = true → spaced g (atL g i xs) = true := by
    intro xs
    induction xs with
    | nil => exact fun _ _ => rfl
    | cons x r ih =>
      intro i sp
      cases r with
      | nil => rfl
      | cons y r =>
        simp only [spaced, Bool.and_eq_true, decide_eq_true_eq] at sp
        simp only [atL, spaced, Bool.and_eq_true, decide_eq_true_eq]
        refine ⟨?_, by simpa [atL] using ih (i + 1) sp.2⟩
        push_cast
        rw [Int.add_mul, Int.one_mul]
        omega
  have bd : ∀ (xs : List Int) (i : Nat), (i : Int) + xs.length ≤ 40 → (∀ x ∈ xs, 0 ≤ x ∧ x ≤ 10 ^ 28 * 40) → ∀ y ∈ atL g i xs, 0 ≤ y ∧ y ≤ 1000000000000000000000000000000 := by
    intro xs
    induction xs with
    | nil => intro i _ _ y hy; simp [atL] at hy
    | cons x r ih =>
      intro i hi hx y hy
      simp only [List.length_cons] at hi
      rcases List.mem_cons.mp hy with rfl | hy
      · have h1 := hx x (by simp)
        simp only [Int.reducePow, Int.reduceMul] at h1
        have h2 : (i : Int) * g ≤ 40 * 9 := Int.mul_le_mul (by omega) g9 (by omega) (by omega)
        have h3 : 0 ≤ (i : Int) * g := Int.mul_nonneg (by omega) (by omega)
        omega
      · exact ih (i + 1) (by omega) (fun x h => hx x (by simp [h])) y hy
  refine ⟨by rw [atL_len]; exact l1, by rw [atL_len]; exact l40, bd xs 0 (by omega) fun x hx => ?_, key xs 0 h.sp⟩
  have := h.r x hx
  refine ⟨this.1, Int.le_trans this.2 (Int.mul_le_mul hw (by omega) (by omega) (by decide))⟩
end DL
set_option Elab.async false
set_option linter.all false
set_option maxRecDepth 100000
set_option maxHeartbeats 4000000
set_option autoImplicit false
/-! Law k01 at data level. -/
namespace DL
open PySem PySem.Spec PyProof.Rows L2
local macro_rules | `(tactic| walk_at "dl") => `(tactic| (try simp only [sSeq, sSet, sRet, sRetN, sIf, sNil, sDrop, sFor, sTo, sPar2, sPar3, sNever, sSetIx, dVar, dC, dVarL, dDat, dVal, valK_dat, valK_ob, dBin, dUn, dNil, dCons, dats, dTup, dLst, dNew, dNewOf, dTest, dtAnd, dtOr, dtNot, dAnd, dOr, dNot, dIf, dChain, dCB, dSl, dNo, dSo, sApp, dIxO, dLenO, dMaxD, dGetP, dCall, dSeq, dRng1, dRng2, dZip, dEnum, gNm, gTp, gCs, gNl, dYes,
  startD, endsOf, retD, wipeS, gAdd, gSub, gMul, gMulA, gMulB, gDiv, gMod, gPow, gNeg, gLt, gLe, gGt, gGe, gEq, gNe, gIn, gIx, gSl, gIsi, tyD, isiD, gLen, gAbs, gInt, gMax2, gMin2, gTuple, gList, gIsN, isNon, gIsB, gNotB,
  List.getElem?_cons_zero, List.getElem?_cons_succ, List.getElem?_nil, List.set_cons_zero, List.set_cons_succ, List.map_cons, List.map_nil, List.cons_append, List.nil_append, List.length_cons, List.length_nil, List.replicate_succ, List.replicate_zero, Option.map_some, Nat.reduceSub, Nat.reduceAdd, Nat.reduceLeDiff,
  List.take_length, beq_self_eq_true, String.reduceBEq, Bool.or_true, Bool.true_or, Bool.or_false, Bool.false_or, Bool.and_true, Bool.and_false, Bool.true_and, Bool.false_and, Bool.or_self, Bool.and_self, decide_true, decide_false, dmem, List.any_cons, List.any_nil, okd_non, okd_bl, okd_int, okd_str, okds_nil, okds_cons, okd_60t, okd_59t, okd_58t, okd_60l, okd_59l, okd_58l, st_tk, st_tb, st_tf, st_kt, st_kb, st_kf, st_bt, st_bk, st_bf, st_ft, st_fk, st_fb, nat_num, Int.reduceBEq, Int.reduceBNe, Int.reduceEq, Int.reduceLT, Int.reduceLE, Int.reduceAdd, Int.reduceSub, Int.reduceMul, Int.reduceNeg, Int.reduceToNat, Int.reducePow, atI_0, atI_1, atI_2, set_last, get_last, take_last, deq_str, deq_int, deq_non, deq_bl, deq_tt, deq_ll, deqs_nn, deqs_cc, deqs_nc, deqs_cn, Nat.lt_irrefl, List.set_set, ixN_20, ixN_21, tupI, okds_ints, atI_map', List.length_map, cutL_map, eq_self, if_true, if_false, ite_true, ite_false, Bool.false_eq_true, decide_eq_true_eq, true_and, and_true, and_self, Bool.not_true, Bool.not_false, true_or, or_true, false_or, or_false, Option.some.injEq, reduceCtorEq]))
/-- slots: 0 value -/
def B_is_drill : DS :=
  (sRet (dDat (dVal (dCall 1 S_fits (dCons (dDat (dVar 0)) dNil)))))
def S_is_drill : DF := fun ss T Q _ => ∃ d : D, ss = [.dat d] ∧ okd 60 d = true ∧ Q (.dat (.bl (fitsB d))) T
theorem h_is_drill : ∀ (ss : List Sl) (T : List Ob) (Q : Sl → List Ob → Prop) (QX : Xn → List Ob → Prop), ss.length = 1 → S_is_drill ss T Q QX → B_is_drill (endsOf T.length Q QX) (startD 1 1 ss T) := by
  intro ss T Q QX hl h
  obtain ⟨d, rfl, ok, h⟩ := h
  unfold B_is_drill
  walk_at "dl"
  simp only [S_fits]
  refine ⟨ok, ?_⟩
  walk_at "dl"
  exact h
/-- slots: 0 value -/
def B_is_run : DS :=
  (sRet (dDat (dVal (dCall 1 S_is_a_run (dCons (dDat (dVar 0)) dNil)))))
def S_is_run : DF := fun ss T Q _ => ∃ d : D, ss = [.dat d] ∧ okd 60 d = true ∧ Q (.dat (.bl (isRun d))) T
theorem h_is_run : ∀ (ss : List Sl) (T : List Ob) (Q : Sl → List Ob → Prop) (QX : Xn → List Ob → Prop), ss.length = 1 → S_is_run ss T Q QX → B_is_run (endsOf T.length Q QX) (startD 1 1 ss T) := by
  intro ss T Q QX hl h
  obtain ⟨d, rfl, ok, h⟩ := h
  unfold B_is_run
  walk_at "dl"
  simp only [S_is_a_run]
  refine ⟨ok, ?_⟩
  walk_at "dl"
  exact h
/-- slots: 0 drill, 1 value -/
def B_is_beginning : DS :=
  (sSeq (sDrop (dCall 1 S_need_drill (dCons (dDat (dVar 0)) dNil)))
  (sRet (dDat (dVal (dCall 2 S_begins (dCons (dDat (dBin gIx (dVar 0) (dC (.int 0)))) (dCons (dDat (dVar 1)) dNil)))))))
def S_is_beginning : DF := fun ss T Q _ => ∃ (g : Int) (rs : List Rn) (d : D), ss = [.dat (drD g rs), .dat d] ∧ DrOk g rs ∧ okd 60 d = true ∧ Q (.dat (.bl (beginsB g d))) T
theorem h_is_beginning : ∀ (ss : List Sl) (T : List Ob) (Q : Sl → List Ob → Prop) (QX : Xn → List Ob → Prop), ss.length = 2 → S_is_beginning ss T Q QX → B_is_beginning (endsOf T.length Q QX) (startD 2 2 ss T) := by
  intro ss T Q QX hl h
  obtain ⟨g, rs, d, rfl, hd, ok, h⟩ := h
  unfold B_is_beginning
  simp only [drD]
  walk_at "dl"
  simp only [S_need_drill]
  refine ⟨okd_drD g rs 57, hd.fits, ?_⟩
  walk_at "dl"
  simp only [S_begins]
  refine ⟨ok, ?_⟩
  walk_at "dl"
  exact h
/-- slots: 0 _law_value, 1 _law_low, 2 _law_high -/
def B_l_int : DS :=
  (sRet (dDat (dAnd (dCB gIsi (dCons (dDat (dVar 0)) (dCons (dDat (dC (.raw (.ty "int")))) dNil))) (dAnd (dNot (dCB gIsi (dCons (dDat (dVar 0)) (dCons (dDat (dC (.raw (.ty "bool")))) dNil)))) (dChain gLe gLe (dVar 1) (dVar 0) (dVar 2))))))
def S_l_int : DF := fun ss T Q _ => match ss with
  | [.dat d, .dat (.int lo), .dat (.int hi)] => okd 60 d = true ∧ Q (.dat (.bl (isInt d lo hi))) T
  | _ => False
theorem h_l_int : ∀ (ss : List Sl) (T : List Ob) (Q : Sl → List Ob → Prop) (QX : Xn → List Ob → Prop), ss.length = 3 → S_l_int ss T Q QX → B_l_int (endsOf T.length Q QX) (startD 3 3 ss T) := by
  intro ss T Q QX hl h
  unfold S_l_int at h
  split at h
  · rename_i d lo hi
    obtain ⟨ok, h⟩ := h
    unfold B_l_int
    cases d with
    | raw v => simp [okd] at ok
    | int i =>
      walk_at "dl"
      unfold isInt at h
      split
      · rename_i q
        simpa [q] using h
      · rename_i q
        simpa [q] using h
    | scr ns => simp [okd] at ok
    | _ =>
      walk_at "dl"
      exact h
  · exact h.elim
/-- slots: 0 _law_value, 1 _law_least -/
def B_l_is_run : DS :=
  (sSeq (sIf (dtOr (dtNot (dTest (dCB gIsi (dCons (dDat (dVar 0)) (dCons (dDat (dC (.raw (.ty "tuple")))) dNil))))) (dtOr (dTest (dBin (gIn true) (dCB gLen (dCons (dDat (dVar 0)) dNil)) (dLst (dCons (dDat (dC (.int 2))) (dCons (dDat (dC (.int 3))) dNil))))) (dtNot (dTest (dCB gIsi (dCons (dDat (dBin gIx (dVar 0) (dC (.int 0)))) (dCons (dDat (dC (.raw (.ty "str")))) dNil))))))) (sRet (dDat (dC (.bl false)))) sNil)
  (sSeq (sIf (dTest (dBin gEq (dCB gLen (dCons (dDat (dVar 0)) dNil)) (dC (.int 2)))) (sSeq (sSet 1 (dDat (dGetP "to" "bark" 0 1 (dBin gIx (dVar 0) (dC (.int 0))) (dC .non))))
  (sRet (dDat (dAnd (dBin (gIsN true) (dVar 1) (dC .non)) (dVal (dCall 3 S_l_int (dCons (dDat (dBin gIx (dVar 0) (dC (.int 1)))) (dCons (dDat (dVar 1)) (dCons (dDat (dBin gPow (dC (.int 10)) (dC (.int 12)))) dNil))))))))) sNil)
  (sSeq (sIf (dtOr (dTest (dBin (gIn true) (dBin gIx (dVar 0) (dC (.int 0))) (dLst (dCons (dDat (dC (.str "back"))) (dCons (dDat (dC (.str "front"))) dNil))))) (dtNot (dTest (dVal (dCall 3 S_l_int (dCons (dDat (dBin gIx (dVar 0) (dC (.int 1)))) (dCons (dDat (dC (.int 0))) (dCons (dDat (dC (.int 3))) dNil)))))))) (sRet (dDat (dC (.bl false)))) sNil)
  (sRet (dDat (dVal (dCall 3 S_l_int (dCons (dDat (dBin gIx (dVar 0) (dC (.int 2)))) (dCons (dDat (dC (.int 1))) (dCons (dDat (dBin gPow (dC (.int 10)) (dC (.int 12)))) dNil))))))))))
def S_l_is_run : DF := fun ss T Q _ => ∃ d : D, ss = [.dat d] ∧ okd 60 d = true ∧ Q (.dat (.bl (isRun d))) T
theorem h_l_is_run : ∀ (ss : List Sl) (T : List Ob) (Q : Sl → List Ob → Prop) (QX : Xn → List Ob → Prop), ss.length = 1 → S_l_is_run ss T Q QX → B_l_is_run (endsOf T.length Q QX) (startD 2 1 ss T) := by
  intro ss T Q QX hl h
  obtain ⟨d, rfl, ok, h⟩ := h
  have p12 : CPow 10 12 := by unfold CPow; decide
  unfold B_l_is_run
  cases d with
  | raw v => simp [okd] at ok
  | scr ns => simp [okd] at ok
  | tup xs =>
    rcases xs with _ | ⟨x, _ | ⟨a, _ | ⟨b, _ | ⟨c, r⟩⟩⟩⟩
    · walk_at "dl"
      exact h
    · walk_at "dl"
      cases x <;> exact h
    · have okx := okd_item ok (d := x) (by simp)
      have oka := okd_item ok (d := a) (by simp)
      cases x with
      | raw v => simp [okd] at okx
      | scr v => simp [okd] at okx
      | str w =>
        walk_at "dl"
        by_cases w1 : w = "to"
        · subst w1
          walk_at "dl"
          refine ⟨p12, ?_⟩
          simp only [S_l_int]
          refine ⟨oka, ?_⟩
          walk_at "dl"
          simpa [isRun, st_tk] using h
        · by_cases w2 : w = "bark"
          · subst w2
            rw [if_neg (by decide), if_pos rfl]
            walk_at "dl"
            refine ⟨p12, ?_⟩
            simp only [S_l_int]
            refine ⟨oka, ?_⟩
            walk_at "dl"
            simpa [isRun, st_kt] using h
          · rw [if_neg w1, if_neg w2]
            walk_at "dl"
            have v1 : (w == ("to" : Str)) = false := by simpa using w1
            have v2 : (w == ("bark" : Str)) = false := by simpa using w2
            simpa [isRun, v1, v2] using h
      | _ =>
        walk_at "dl"
        exact h
    · have okx := okd_item ok (d := x) (by simp)
      have oka := okd_item ok (d := a) (by simp)
      have okb := okd_item ok (d := b) (by simp)
      cases x with
      | raw v => simp [okd] at okx
      | scr v => simp [okd] at okx
      | str w =>
        walk_at "dl"
        by_cases w3 : w = "back" ∨ w = "front"
        · have v3 : ((("back" : Str) == w) || (("front" : Str) == w)) = true := by
            rcases w3 with rfl | rfl <;> simp
          have v3' : ((w == ("back" : Str)) || (w == ("front" : Str))) = true := by
            rcases w3 with rfl | rfl <;> simp
          rw [v3]
          walk_at "dl"
          simp only [S_l_int]
          refine ⟨oka, ?_⟩
          simp only [isRun, v3', Bool.true_and] at h
          walk_at "dl"
          cases q : isInt a 0 3 with
          | true =>
            rw [q] at h
            simp only [Bool.true_and] at h
            walk_at "dl"
            refine ⟨p12, ?_⟩
            simp only [S_l_int]
            refine ⟨okb, ?_⟩
            walk_at "dl"
            exact h
          | false =>
            rw [q] at h
            walk_at "dl"
            exact h
        · have v3 : ((("back" : Str) == w) || (("front" : Str) == w)) = false := by
            simp only [not_or] at w3
            simp [Ne.symm w3.1, Ne.symm w3.2]
          rw [v3]
          walk_at "dl"
          simp only [not_or] at w3
          have v4 : (w == ("back" : Str)) = false := by simpa using w3.1
          have v5 : (w == ("front" : Str)) = false := by simpa using w3.2
          simpa [isRun, v4, v5] using h
      | _ =>
        walk_at "dl"
        exact h
    · walk_at "dl"
      have e2 : ((2 : Int) == ((r.length + 1 + 1 + 1 + 1 : Nat) : Int)) = false := by simp; omega
      have e3 : ((3 : Int) == ((r.length + 1 + 1 + 1 + 1 : Nat) : Int)) = false := by simp; omega
      simp only [e2, e3]
      walk_at "dl"
      cases x <;> exact h
  | _ =>
    walk_at "dl"
    exact h
/-- slots: 0 _law_value, 1 _law_run -/
def B_l_is_drill : DS :=
  (sSeq (sIf (dtOr (dtNot (dTest (dCB gIsi (dCons (dDat (dVar 0)) (dCons (dDat (dC (.raw (.ty "tuple")))) dNil))))) (dtOr (dTest (dBin gNe (dCB gLen (dCons (dDat (dVar 0)) dNil)) (dC (.int 2)))) (dtNot (dTest (dVal (dCall 3 S_l_int (dCons (dDat (dBin gIx (dVar 0) (dC (.int 0)))) (dCons (dDat (dC (.int 1))) (dCons (dDat (dC (.int 9))) dNil))))))))) (sRet (dDat (dC (.bl false)))) sNil)
  (sSeq (sIf (dtOr (dtNot (dTest (dCB gIsi (dCons (dDat (dBin gIx (dVar 0) (dC (.int 1)))) (dCons (dDat (dC (.raw (.ty "tuple")))) dNil))))) (dTest (dBin gGt (dCB gLen (dCons (dDat (dBin gIx (dVar 0) (dC (.int 1)))) dNil)) (dC (.int 8))))) (sRet (dDat (dC (.bl false)))) sNil)
  (sRet (dDat (dBin gEq (dComp (dSeq (dBin gIx (dVar 0) (dC (.int 1)))) (gNm 1) (dtNot (dTest (dVal (dCall 1 S_l_is_run (dCons (dDat (dVar 1)) dNil))))) (dVar 1) [1]) (dLst dNil))))))
def S_l_is_drill : DF := fun ss T Q _ => ∃ d : D, ss = [.dat d] ∧ okd 60 d = true ∧ Q (.dat (.bl (fitsB d))) T
theorem h_l_is_drill : ∀ (ss : List Sl) (T : List Ob) (Q : Sl → List Ob → Prop) (QX : Xn → List Ob → Prop), ss.length = 1 → S_l_is_drill ss T Q QX → B_l_is_drill (endsOf T.length Q QX) (startD 2 1 ss T) := by
  intro ss T Q QX hl h
  obtain ⟨d, rfl, ok, h⟩ := h
  · skip
    unfold B_l_is_drill
    cases d with
    | raw v => simp [okd] at ok
    | scr ns => simp [okd] at ok
    | tup xs =>
      rcases xs with _ | ⟨g, _ | ⟨x, _ | ⟨y, r⟩⟩⟩
      · walk_at "dl"
        exact h
      · walk_at "dl"
        exact h
      · have okg := okd_item ok (d := g) (by simp)
        have okx := okd_item ok (d := x) (by simp)
        walk_at "dl"
        simp only [S_l_int]
        walk_at "dl"
        refine ⟨okg, ?_⟩
        cases qg : isInt g 1 9 with
        | false =>
          walk_at "dl"
          cases x <;> simpa [fitsB, qg] using h
        | true =>
          walk_at "dl"
          cases x with
          | raw v => simp [okd] at okx
          | scr ns => simp [okd] at okx
          | tup rs =>
            walk_at "dl"
            by_cases q8 : (8 : Int) < rs.length
            · rw [if_pos q8]
              have e : ¬ (rs.length ≤ 8) := by omega
              simpa [fitsB, e] using h
            · rw [if_neg q8]
              have e : rs.length ≤ 8 := by omega
              refine dComp_pure (fun d => if !isRun d then some d else none) rs T [some (.dat (.tup [g, .tup rs])), none] [some (.dat (.tup [g, .tup rs])), none] ?_ rfl rfl rfl (by rw [sizeLine_eq]; omega) ?_ ?_
              · intro P hP
                walk_at "dl"
                exact hP
              · intro d hd acc R hR
                have okd' := okd_item (n := 59) (ds := rs) okx hd
                walk_at "dl"
                refine ⟨d, rfl, okd', ?_⟩
                cases q : isRun d with
                | true =>
                  walk_at "dl"
                  have := hR [some (.dat (.tup [g, .tup rs])), some (.dat d)] rfl
                  simpa [q] using this
                | false =>
                  walk_at "dl"
                  have := hR [some (.dat (.tup [g, .tup rs])), some (.dat d)] rfl
                  simpa [q] using this
              · walk_at "dl"
                rw [deqs_nil_iff]
                have e2 : (List.filterMap (fun d => if !isRun d then some d else none) rs).isEmpty = rs.all isRun := by
                  rw [Bool.eq_iff_iff, List.isEmpty_iff]
                  exact filt_none isRun rs
                rw [e2]
                refine ⟨?_, ?_⟩
                · rw [okds_iff]
                  intro d hd
                  obtain ⟨x, hx, ex⟩ := List.mem_filterMap.mp hd
                  have okx' : okds 59 rs = true := okx
                  have := (okds_iff 59 rs).mp okx' x hx
                  split at ex
                  · cases ex
                    exact this
                  · cases ex
                · simpa [fitsB, qg, e] using h
          | _ =>
            walk_at "dl"
            exact h
      · walk_at "dl"
        have e : (((r.length + 1 + 1 + 1 : Nat) : Int) == 2) = false := by simp; omega
        simp only [e]
        walk_at "dl"
        cases x <;> exact h
    | _ =>
      walk_at "dl"
      exact h
theorem deqs_ints : ∀ (xs ys : List Int), deqs (xs.map .int) (ys.map .int) = decide (xs = ys)
  | [], [] => by simp [deqs_nn]
  | [], y :: ys => by simp [deqs_nc]
  | x :: xs, [] => by simp [deqs_cn]
  | x :: xs, y :: ys => by
    simp only [List.map_cons, deqs_cc, deq_int, deqs_ints xs ys]
    rw [Bool.eq_iff_iff]
    simp
theorem clo_iff (g : Int) : ∀ (r : List Int) (p : Int), r = clo g p r ↔ spaced g (p :: r) = true
  | [], p => by simp [clo, spaced]
  | x :: r, p => by
    constructor
    · intro h
      have h1 := (List.cons.inj h).1
      have h2 := (List.cons.inj h).2
      rw [← h1] at h2
      simp only [spaced, Bool.and_eq_true, decide_eq_true_eq]
      exact ⟨by split at h1 <;> omega, (clo_iff g r x).mp h2⟩
    · intro h
      exact (clo_id g (x :: r) p h).symm
theorem deqs_closed (g : Int) (xs : List Int) : deqs (xs.map D.int) ((closedL g xs).map D.int) = spaced g xs := by
  rw [deqs_ints, Bool.eq_iff_iff, decide_eq_true_eq]
  cases xs with
  | nil => simp [closedL, spaced]
  | cons x r =>
    simp only [closedL, List.cons.injEq, true_and]
    exact clo_iff g r x
/-- slots: 0 _law_gap, 1 _law_value, 2 _law_place -/
def B_l_is_beginning : DS :=
  (sSeq (sIf (dtOr (dtNot (dTest (dCB gIsi (dCons (dDat (dVar 1)) (dCons (dDat (dC (.raw (.ty "tuple")))) dNil))))) (dtNot (dTest (dChain gLe gLe (dC (.int 1)) (dCB gLen (dCons (dDat (dVar 1)) dNil)) (dC (.int 40)))))) (sRet (dDat (dC (.bl false)))) sNil)
  (sSeq (sIf (dTest (dBin gNe (dComp (dSeq (dVar 1)) (gNm 2) (dtNot (dTest (dVal (dCall 3 S_l_int (dCons (dDat (dVar 2)) (dCons (dDat (dC (.int 0))) (dCons (dDat (dBin gPow (dC (.int 10)) (dC (.int 30)))) dNil))))))) (dVar 2) [2]) (dLst dNil))) (sRet (dDat (dC (.bl false)))) sNil)
  (sRet (dDat (dBin gEq (dVar 1) (dVal (dCall 2 S_l_closed (dCons (dDat (dVar 0)) (dCons (dDat (dVar 1)) dNil)))))))))
def S_l_is_beginning : DF := fun ss T Q _ => ∃ (g : Int) (d : D), ss = [.dat (.int g), .dat d] ∧ okd 60 d = true ∧ Q (.dat (.bl (beginsB g d))) T
theorem h_l_is_beginning : ∀ (ss : List Sl) (T : List Ob) (Q : Sl → List Ob → Prop) (QX : Xn → List Ob → Prop), ss.length = 2 → S_l_is_beginning ss T Q QX → B_l_is_beginning (endsOf T.length Q QX) (startD 3 2 ss T) := by
  intro ss T Q QX hl h
  obtain ⟨g, d, rfl, ok, h⟩ := h
  · skip
    unfold B_l_is_beginning
    cases d with
    | raw v => simp [okd] at ok
    | scr ns => simp [okd] at ok
    | tup ds =>
      walk_at "dl"
      by_cases q1 : (1 : Int) ≤ ds.length
      rotate_left
      · rw [if_neg q1]
        have e : ds.length = 0 := by omega
        simpa [beginsB, e] using h
      rw [if_pos q1]
      by_cases q2 : (ds.length : Int) ≤ 40
      rotate_left
      · rw [if_pos (by simpa using q2)]
        have e : ¬ (ds.length ≤ 40) := by omega
        simpa [beginsB, e] using h
      rw [if_neg (by simpa using q2)]
      have e1 : decide (1 ≤ ds.length) = true := by simp; omega
      have e2 : decide (ds.length ≤ 40) = true := by simp; omega
      refine dComp_pure (fun d => if !isInt d 0 1000000000000000000000000000000 then some d else none) ds T [some (.dat (.int g)), some (.dat (.tup ds)), none] [some (.dat (.int g)), some (.dat (.tup ds)), none] ?_ rfl rfl rfl (by rw [sizeLine_eq]; omega) ?_ ?_
      · intro P hP
        walk_at "dl"
        exact hP
      · intro d hd acc R hR
        have okd' := okd_item (n := 59) (ds := ds) ok hd
        walk_at "dl"
        refine ⟨by unfold CPow; decide, ?_⟩
        simp only [S_l_int]
        refine ⟨okd', ?_⟩
        have := hR [some (.dat (.int g)), some (.dat (.tup ds)), some (.dat d)] rfl
        cases q : isInt d 0 1000000000000000000000000000000 with
        | true =>
          walk_at "dl"
          simpa [q] using this
        | false =>
          walk_at "dl"
          simpa [q] using this
      · walk_at "dl"
        rw [deqs_nil_iff]
        have e3 : (List.filterMap (fun d => if !isInt d 0 1000000000000000000000000000000 then some d else none) ds).isEmpty = ds.all (fun d => isInt d 0 1000000000000000000000000000000) := by
          rw [Bool.eq_iff_iff, List.isEmpty_iff]
          exact filt_none (fun d => isInt d 0 1000000000000000000000000000000) ds
        rw [e3]
        refine ⟨?_, ?_⟩
        · rw [okds_iff]
          intro d hd
          obtain ⟨x, hx, ex⟩ := List.mem_filterMap.mp hd
          have okx' : okds 59 ds = true := ok
          have := (okds_iff 59 ds).mp okx' x hx
          split at ex
          · cases ex
            exact this
          · cases ex
        · cases q : ds.all (fun d => isInt d 0 1000000000000000000000000000000) with
          | false =>
            walk_at "dl"
            cases qi : intsOf ds with
            | none => simpa [beginsB, qi] using h
            | some xs => simpa [beginsB, qi, great_not q qi] using h
          | true =>
            walk_at "dl"
            obtain ⟨xs, rfl, ha⟩ := great_ints ds q
            have hlen : xs.length ≤ 40 := by simpa using e2
            refine ⟨g, xs, rfl, by omega, ?_⟩
            walk_at "dl"
            rw [deqs_closed]
            have e1' : decide (1 ≤ xs.length) = true := by simpa using e1
            have e2' : decide (xs.length ≤ 40) = true := by simpa using e2
            simpa only [beginsB, e1', e2', intsOf_map, ha, List.length_map, Bool.true_and] using h
    | _ =>
      walk_at "dl"
      exact h
/-- not deeper than d, no part longer than n -/
def szd (n : Nat) : Nat → D → Bool
  | _, .raw _ => false
  | _, .scr _ => false
  | 0, .tup _ => false
  | 0, .lst _ => false
  | d + 1, .tup xs => decide (xs.length ≤ n) && xs.all (szd n d)
  | d + 1, .lst xs => decide (xs.length ≤ n) && xs.all (szd n d)
  | _, .non => true
  | _, .bl _ => true
  | _, .int _ => true
  | _, .str _ => true
theorem szd_ok (n : Nat) : ∀ (d : Nat) (v : D), szd n d v = true → okd d v = true
  | d, .raw _, h => by simp [szd] at h
  | d, .scr _, h => by simp [szd] at h
  | 0, .tup _, h => by simp [szd] at h
  | 0, .lst _, h => by simp [szd] at h
  | d + 1, .tup xs, h => by
    simp only [szd, Bool.and_eq_true, List.all_eq_true] at h
    simp only [okd]
    rw [okds_iff]
    exact fun x hx => szd_ok n d x (h.2 x hx)
  | d + 1, .lst xs, h => by
    simp only [szd, Bool.and_eq_true, List.all_eq_true] at h
    simp only [okd]
    rw [okds_iff]
    exact fun x hx => szd_ok n d x (h.2 x hx)
  | d, .non, _ => by simp [okd]
  | d, .bl _, _ => by simp [okd]
  | d, .int _, _ => by simp [okd]
  | d, .str _, _ => by simp [okd]
theorem szd_up {n m : Nat} (hn : n ≤ m) : ∀ (d e : Nat) (v : D), d ≤ e → szd n d v = true → szd m e v = true
  | d, e, .raw _, _, h => by simp [szd] at h
  | d, e, .scr _, _, h => by simp [szd] at h
  | 0, e, .tup _, _, h => by simp [szd] at h
  | 0, e, .lst _, _, h => by simp [szd] at h
  | d + 1, 0, _, hde, _ => by omega
  | d + 1, e + 1, .tup xs, hde, h => by
    simp only [szd, Bool.and_eq_true, List.all_eq_true, decide_eq_true_eq] at h ⊢
    exact ⟨by omega, fun x hx => szd_up hn d e x (by omega) (h.2 x hx)⟩
  | d + 1, e + 1, .lst xs, hde, h => by
    simp only [szd, Bool.and_eq_true, List.all_eq_true, decide_eq_true_eq] at h ⊢
    exact ⟨by omega, fun x hx => szd_up hn d e x (by omega) (h.2 x hx)⟩
  | d, e, .non, _, _ => by simp [szd]
  | d, e, .bl _, _, _ => by simp [szd]
  | d, e, .int _, _, _ => by simp [szd]
  | d, e, .str _, _, _ => by simp [szd]
/-- slots: 0 _law_cart, 1 _law_value, 2 _law_way, 3 _law_some, 4 _law_at_here -/
def B_l_bent (F : DF) : DS :=
  (sSeq (sSet 2 (dDat (dVal (dCall 2 S_l_take (dCons (dVarL 0) (dCons (dDat (dC (.int 6))) dNil))))))
  (sSeq (sIf (dtAnd (dTest (dCB gIsi (dCons (dDat (dVar 1)) (dCons (dDat (dC (.raw (.ty "tuple")))) dNil)))) (dtAnd (dTest (dBin gNe (dVar 1) (dTup dNil))) (dTest (dBin gGt (dVar 2) (dC (.int 0)))))) (sSeq (sSet 4 (dDat (dVal (dCall 2 S_l_take (dCons (dVarL 0) (dCons (dDat (dCB gLen (dCons (dDat (dVar 1)) dNil))) dNil))))))
  (sSeq (sIf (dTest (dBin gEq (dVar 2) (dC (.int 1)))) (sRet (dDat (dBin gAdd (dSl (dVar 1) dNo (dSo (dVar 4))) (dSl (dVar 1) (dSo (dBin gAdd (dVar 4) (dC (.int 1)))) dNo)))) sNil)
  (sSeq (sIf (dTest (dBin gEq (dVar 2) (dC (.int 2)))) (sRet (dDat (dBin gAdd (dSl (dVar 1) dNo (dSo (dBin gAdd (dVar 4) (dC (.int 1))))) (dSl (dVar 1) (dSo (dVar 4)) dNo)))) sNil)
  (sRet (dDat (dBin gAdd (dBin gAdd (dSl (dVar 1) dNo (dSo (dVar 4))) (dTup (dCons (dDat (dVal (dCall 2 F (dCons (dVarL 0) (dCons (dDat (dBin gIx (dVar 1) (dVar 4))) dNil))))) dNil))) (dSl (dVar 1) (dSo (dBin gAdd (dVar 4) (dC (.int 1)))) dNo))))))) sNil)
  (sSeq (sSet 3 (dDat (dLst (dCons (dDat (dC .non)) (dCons (dDat (dC (.bl true))) (dCons (dDat (dC (.bl false))) (dCons (dDat (dC (.int 0))) (dCons (dDat (dC (.int 1))) (dCons (dDat (dC (.int 3))) (dCons (dDat (dC (.int 4))) (dCons (dDat (dUn gNeg (dC (.int 1)))) (dCons (dDat (dC (.int 10))) (dCons (dDat (dBin gPow (dC (.int 10)) (dC (.int 12)))) (dCons (dDat (dBin gAdd (dBin gPow (dC (.int 10)) (dC (.int 12))) (dC (.int 1)))) (dCons (dDat (dBin gPow (dC (.int 10)) (dC (.int 30)))) (dCons (dDat (dBin gAdd (dBin gPow (dC (.int 10)) (dC (.int 30))) (dC (.int 1)))) dNil))))))))))))))))
  (sRet (dDat (dVal (dCall 2 S_l_any (dCons (dVarL 0) (dCons (dDat (dBin gAdd (dVar 3) (dLst (dCons (dDat (dC (.str "to"))) (dCons (dDat (dC (.str "back"))) (dCons (dDat (dC (.str "front"))) (dCons (dDat (dC (.str "bark"))) (dCons (dDat (dC (.str "Bark"))) (dCons (dDat (dC (.str ""))) (dCons (dDat (dTup dNil)) (dCons (dDat (dLst dNil)) (dCons (dDat (dTup (dCons (dDat (dC (.str "to"))) (dCons (dDat (dC (.int 1))) dNil)))) (dCons (dDat (dTup (dCons (dDat (dC (.int 1))) (dCons (dDat (dC (.int 2))) dNil)))) dNil))))))))))))) dNil)))))))))
def S_l_bent : Nat → DF
  | 0 => fun _ _ _ _ => False
  | d + 1 => fun ss T Q _ => ∃ (k : Nat) (v : D) (n e : Nat), ss = [.ob k, .dat v] ∧ Cart T k ∧ szd n e v = true ∧ 2 ≤ n ∧ n ≤ 500 ∧ e ≤ d ∧ d ≤ 50 ∧ ∀ v' T', szd (n + 1) (e + 1) v' = true → CartTo T T' k → Q (.dat v') T'
theorem szd_tup {n d : Nat} {xs : List D} (h1 : xs.length ≤ n) (h2 : ∀ x ∈ xs, szd n d x = true) : szd n (d + 1) (.tup xs) = true := by
  simp only [szd, Bool.and_eq_true, List.all_eq_true, decide_eq_true_eq]
  exact ⟨h1, h2⟩
theorem leaf_szd {n : Nat} (h : 2 ≤ n) (d : Nat) : ∀ x ∈ [D.non, .bl true, .bl false, .int 0, .int 1, .int 3, .int 4, .int (-1), .int 10, .int 1000000000000, .int 1000000000001, .int 1000000000000000000000000000000, .int 1000000000000000000000000000001, .str "to", .str "back", .str "front", .str "bark", .str "Bark", .str "", .tup [], .lst [], .tup [.str "to", .int 1], .tup [.int 1, .int 2]], szd (n + 1) (d + 1) x = true := by
  intro x hx
  have h3 : 2 ≤ n + 1 := by omega
  simp only [List.mem_cons, List.not_mem_nil, or_false] at hx
  rcases hx with rfl | rfl | rfl | rfl | rfl | rfl | rfl | rfl | rfl | rfl | rfl | rfl | rfl | rfl | rfl | rfl | rfl | rfl | rfl | rfl | rfl | rfl | rfl
  all_goals simp [szd]
  all_goals omega
theorem h_l_bent (d : Nat) : ∀ (ss : List Sl) (T : List Ob) (Q : Sl → List Ob → Prop) (QX : Xn → List Ob → Prop), ss.length = 2 → S_l_bent (d + 1) ss T Q QX → B_l_bent (S_l_bent d) (endsOf T.length Q QX) (startD 5 2 ss T) := by
  intro ss T Q QX hl h
  obtain ⟨k, v, n, e, rfl, c, hv, n2, n500, ed, d50, h⟩ := h
  have p12 : CPow 10 12 := by unfold CPow; decide
  have p30 : CPow 10 30 := by unfold CPow; decide
  have ok := szd_ok n e v hv
  unfold B_l_bent
  walk_at "dl"
  refine ⟨k, 6, rfl, c, by decide, by decide, fun way T1 w0 w6 c1 => ?_⟩
  have k1 := c1.cart c
  walk_at "dl"
  cases v with
  | raw v => simp [okd] at ok
  | scr v => simp [okd] at ok
  | tup xs =>
    obtain ⟨e, rfl⟩ : ∃ f, e = f + 1 := by
      cases e with
      | zero => simp [szd] at hv
      | succ e => exact ⟨e, rfl⟩
    obtain ⟨d, rfl⟩ : ∃ f, d = f + 1 := ⟨d - 1, by omega⟩
    have hv' := hv
    simp only [szd, Bool.and_eq_true, List.all_eq_true, decide_eq_true_eq] at hv'
    walk_at "dl"
    rw [deqs_nil_iff]
    have okx : okds 59 xs = true := by
      rw [okds_iff]
      exact fun x hx => okd_le (szd_ok n e x (hv'.2 x hx)) (by omega)
    refine ⟨okx, ?_⟩
    cases he : xs.isEmpty with
    | true =>
      walk_at "dl"
      refine ⟨p12, p12, p30, p30, by simp [sizeLine_eq], k, _, _, rfl, .inl rfl, k1, by simp, by simp, fun x T2 hx c2 => ?_⟩
      walk_at "dl"
      rw [take_len (c1.trans c2).len]
      exact h x T2 (leaf_szd n2 _ x hx) (c1.trans c2)
    | false =>
      walk_at "dl"
      have hne : 1 ≤ xs.length := by
        cases xs with
        | nil => simp at he
        | cons x r => simp
      by_cases w1 : 0 < way
      · rw [if_pos w1]
        refine ⟨k, xs.length, rfl, k1, by omega, by simp only [Int.reducePow]; omega, fun i T2 i0 i1 c2 => ?_⟩
        have k2 := c2.cart k1
        have c12 := c1.trans c2
        walk_at "dl"
        rw [cut_to _ i0 (by omega), cut_from _ (by omega), cut_to _ (by omega) (by omega), cut_from _ i0]
        by_cases w2 : way = 1
        · rw [if_pos (by simpa using w2), take_len c12.len]
          refine ⟨by simp [sizeLine_eq]; omega, h _ T2 (szd_up (Nat.le_succ n) (e + 1) _ _ (by omega) (szd_tup (by simp; omega) fun x hx => ?_)) c12⟩
          rcases List.mem_append.mp hx with hx | hx
          · exact hv'.2 x (List.mem_of_mem_take hx)
          · exact hv'.2 x (List.mem_of_mem_drop hx)
        · rw [if_neg (by simpa using w2)]
          by_cases w3 : way = 2
          · rw [if_pos (by simpa using w3), take_len c12.len]
            refine ⟨by simp [sizeLine_eq]; omega, h _ T2 (szd_up (Nat.le_refl _) (e + 1) _ _ (by omega) (szd_tup (by simp; omega) fun x hx => ?_)) c12⟩
            rcases List.mem_append.mp hx with hx | hx
            · exact szd_up (Nat.le_succ n) e e x (Nat.le_refl e) (hv'.2 x (List.mem_of_mem_take hx))
            · exact szd_up (Nat.le_succ n) e e x (Nat.le_refl e) (hv'.2 x (List.mem_of_mem_drop hx))
          · rw [if_neg (by simpa using w3), atI_some i0 i1]
            walk_at "dl"
            refine ⟨k, xs[i.toNat], n, e, rfl, k2, hv'.2 _ (List.getElem_mem _), n2, n500, by omega, by omega, fun v' T3 hv3 c3 => ?_⟩
            walk_at "dl"
            rw [take_len (c12.trans c3).len]
            simp only [cut_to xs i0 (show i ≤ xs.length by omega), cut_from xs (show 0 ≤ i + 1 by omega)]
            refine ⟨by simp [sizeLine_eq]; omega, by simp [sizeLine_eq]; omega, h _ T3 (szd_tup (by simp; omega) fun x hx => ?_) (c12.trans c3)⟩
            rcases List.mem_append.mp hx with hx | hx
            · rcases List.mem_append.mp hx with hx | hx
              · exact szd_up (Nat.le_succ n) e (e + 1) x (Nat.le_succ e) (hv'.2 x (List.mem_of_mem_take hx))
              · rw [List.mem_singleton.mp hx]
                exact hv3
            · exact szd_up (Nat.le_succ n) e (e + 1) x (Nat.le_succ e) (hv'.2 x (List.mem_of_mem_drop hx))
      · rw [if_neg w1]
        refine ⟨p12, p12, p30, p30, by simp [sizeLine_eq], k, _, _, rfl, .inl rfl, k1, by simp, by simp, fun x T2 hx c2 => ?_⟩
        walk_at "dl"
        rw [take_len (c1.trans c2).len]
        exact h x T2 (leaf_szd n2 _ x hx) (c1.trans c2)
  | _ =>
    walk_at "dl"
    refine ⟨p12, p12, p30, p30, by simp [sizeLine_eq], k, _, _, rfl, .inl rfl, k1, by simp, by simp, fun x T2 hx c2 => ?_⟩
    walk_at "dl"
    rw [take_len (c1.trans c2).len]
    exact h x T2 (leaf_szd n2 _ x hx) (c1.trans c2)
/-- a slot that may hold data -/
def dsl (y : Option D) : Option Sl := y.map .dat
theorem low_nil (n : Nat) : lowS n [] = true := rfl
theorem low_dsl (n : Nat) (y : Option D) (r : List (Option Sl)) : lowS n (dsl y :: r) = lowS n r := by
  cases y <;> rfl
theorem low_dat (n : Nat) (d : D) (r : List (Option Sl)) : lowS n (some (.dat d) :: r) = lowS n r := rfl
theorem low_none (n : Nat) (r : List (Option Sl)) : lowS n (none :: r) = lowS n r := rfl
theorem low_ob {n k : Nat} (h : k < n) (r : List (Option Sl)) : lowS n (some (.ob k) :: r) = lowS n r := by
  show (decide (k < n) && lowS n r) = lowS n r
  simp [h]
theorem low_any {n : Nat} {x : Option Sl} (h : lowS n [x] = true) (r : List (Option Sl)) : lowS n (x :: r) = lowS n r := by
  cases x with
  | none => rfl
  | some x =>
    cases x with
    | dat d => rfl
    | ob k =>
      have h2 : (decide (k < n) && lowS n []) = true := h
      rw [low_nil, Bool.and_true, decide_eq_true_eq] at h2
      exact low_ob h2 r
theorem rangeD_map (n : Nat) : rangeD 0 n = (List.range n).map fun (k : Nat) => D.int k := by
  unfold rangeD
  rw [show ((n : Int) - 0).toNat = n by omega]
  apply List.map_congr_left
  intro k _
  simp
theorem szd_rn (r : Rn) {n d : Nat} (hn : 3 ≤ n) : szd n (d + 1) r.d = true := by
  cases r <;> simp [Rn.d, szd] <;> omega
theorem szd_dr {g : Int} {rs : List Rn} {n d : Nat} (hn : 3 ≤ n) (hr : rs.length ≤ n) : szd n (d + 3) (drD g rs) = true := by
  unfold drD
  refine szd_tup (by simp; omega) fun x hx => ?_
  simp only [List.mem_cons, List.not_mem_nil, or_false] at hx
  rcases hx with rfl | rfl
  · simp [szd]
  · refine szd_tup (by simpa using hr) fun x hx => ?_
    obtain ⟨r, _, rfl⟩ := List.mem_map.mp hx
    exact szd_rn r hn
theorem szd_ints {xs : List Int} {n d : Nat} (h : xs.length ≤ n) : szd n (d + 1) (tupI xs) = true := by
  refine szd_tup (by simpa using h) fun x hx => ?_
  obtain ⟨r, _, rfl⟩ := List.mem_map.mp hx
  simp [szd]
theorem okd_drL (g : Int) (rs : List Rn) : okd 60 (.lst [.int g, .tup (rs.map Rn.d)]) = true := by
  have := okd_drD g rs 57
  simp only [drD, okd] at this ⊢
  exact this
/-- slots: 0 _law_script, 1 _law_k, 2 _law_runs, 3 _law_works, 4 _law_some, 5 _law_cart, 6 _law_work_here, 7 _law_places, 8 _law_turn, 9 _law_one, 10 _law_two, 11 _law_three, 12 _law_told, 13 _law_run, 14 _law_word -/
def B_law : DS :=
  (sSeq (sFor (dRng1 (dCons (dDat (dBin gAdd (dC (.int 1)) (dCB gMin2 (dCons (dDat (dCB gLen (dCons (dDat (dVar 0)) dNil))) (dCons (dDat (dC (.int 10))) dNil))))) dNil)) (gNm 1) (sSeq (sSet 5 (dCall 2 S_l_cart_of (dCons (dDat (dVar 0)) (dCons (dDat (dVar 1)) dNil))))
  (sSeq (sSet 6 (dDat (dVal (dCall 2 S_l_work (dCons (dVarL 5) (dCons (dDat (dC (.int 8))) dNil))))))
  (sSeq (sSet 7 (dDat (dVal (dCall 2 S_l_at (dCons (dDat (dBin gIx (dVar 6) (dC (.int 0)))) (dCons (dDat (dVal (dCall 3 S_l_rooms (dCons (dVarL 5) (dCons (dDat (dBin gAdd (dC (.int 1)) (dVal (dCall 2 S_l_take (dCons (dVarL 5) (dCons (dDat (dC (.int 12))) dNil)))))) (dCons (dDat (dC (.int 5))) dNil)))))) dNil))))))
  (sSeq (sIf (dtOr (dTest (dBin gNotB (dVal (dCall 1 S_is_drill (dCons (dDat (dCB gList (dCons (dDat (dVar 6)) dNil))) dNil))) (dC (.bl false)))) (dTest (dBin gNotB (dVal (dCall 2 S_is_beginning (dCons (dDat (dVar 6)) (dCons (dDat (dCB gList (dCons (dDat (dVar 7)) dNil))) dNil)))) (dC (.bl false))))) (sRet (dDat (dC (.bl false)))) sNil)
  (sSeq (sPar3 9 10 11 (dDat (dVar 6)) (dDat (dVar 7)) (dDat (dVal (dCall 2 S_l_deed (dCons (dVarL 5) (dCons (dDat (dC (.int 9))) dNil))))))
  (sFor (dRng1 (dCons (dDat (dC (.int 14))) dNil)) (gNm 8) (sSeq (sSet 12 (dDat (dLst (dCons (dDat (dVal (dCall 1 S_is_drill (dCons (dDat (dVar 9)) dNil)))) (dCons (dDat (dVal (dCall 2 S_is_beginning (dCons (dDat (dVar 6)) (dCons (dDat (dVar 10)) dNil))))) (dCons (dDat (dVal (dCall 1 S_is_run (dCons (dDat (dVar 11)) dNil)))) dNil))))))
  (sSeq (sIf (dTest (dBin gNe (dComp (dSeq (dVar 12)) (gNm 14) (dtNot (dTest (dCB gIsi (dCons (dDat (dVar 14)) (dCons (dDat (dC (.raw (.ty "bool")))) dNil))))) (dVar 14) [14]) (dLst dNil))) (sRet (dDat (dC (.bl false)))) sNil)
  (sSeq (sIf (dTest (dBin gNe (dVar 12) (dLst (dCons (dDat (dVal (dCall 1 S_l_is_drill (dCons (dDat (dVar 9)) dNil)))) (dCons (dDat (dVal (dCall 2 S_l_is_beginning (dCons (dDat (dBin gIx (dVar 6) (dC (.int 0)))) (dCons (dDat (dVar 10)) dNil))))) (dCons (dDat (dVal (dCall 1 S_l_is_run (dCons (dDat (dVar 11)) dNil)))) dNil)))))) (sRet (dDat (dC (.bl false)))) sNil)
  (sSeq (sSet 9 (dDat (dVal (dCall 2 (S_l_bent 20) (dCons (dVarL 5) (dCons (dDat (dIf (dTest (dBin gEq (dBin gMod (dVar 8) (dC (.int 3))) (dC (.int 0)))) (dVar 6) (dVar 9))) dNil))))))
  (sSeq (sSet 10 (dDat (dVal (dCall 2 (S_l_bent 20) (dCons (dVarL 5) (dCons (dDat (dIf (dTest (dBin gEq (dBin gMod (dVar 8) (dC (.int 3))) (dC (.int 0)))) (dVar 7) (dVar 10))) dNil))))))
  (sSet 11 (dDat (dVal (dCall 2 (S_l_bent 20) (dCons (dVarL 5) (dCons (dDat (dIf (dTest (dBin gEq (dBin gMod (dVar 8) (dC (.int 3))) (dC (.int 0)))) (dVal (dCall 2 S_l_deed (dCons (dVarL 5) (dCons (dDat (dC (.int 9))) dNil)))) (dVar 11))) dNil))))))))))))))))))
  (sSeq (sSet 2 (dDat (dLst (dCons (dDat (dTup (dCons (dDat (dC (.str "to"))) (dCons (dDat (dC (.int 0))) dNil)))) (dCons (dDat (dTup (dCons (dDat (dC (.str "to"))) (dCons (dDat (dBin gPow (dC (.int 10)) (dC (.int 12)))) dNil)))) (dCons (dDat (dTup (dCons (dDat (dC (.str "bark"))) (dCons (dDat (dC (.int 1))) dNil)))) (dCons (dDat (dTup (dCons (dDat (dC (.str "back"))) (dCons (dDat (dC (.int 3))) (dCons (dDat (dC (.int 1))) dNil))))) (dCons (dDat (dTup (dCons (dDat (dC (.str "front"))) (dCons (dDat (dC (.int 0))) (dCons (dDat (dBin gPow (dC (.int 10)) (dC (.int 12)))) dNil))))) (dCons (dDat (dTup (dCons (dDat (dC (.str "to"))) (dCons (dDat (dUn gNeg (dC (.int 1)))) dNil)))) (dCons (dDat (dTup (dCons (dDat (dC (.str "bark"))) (dCons (dDat (dC (.int 0))) dNil)))) dNil))))))))))
  (sSeq (sSet 2 (dDat (dBin gAdd (dVar 2) (dLst (dCons (dDat (dTup (dCons (dDat (dC (.str "back"))) (dCons (dDat (dC (.int 4))) (dCons (dDat (dC (.int 1))) dNil))))) (dCons (dDat (dTup (dCons (dDat (dC (.str "front"))) (dCons (dDat (dUn gNeg (dC (.int 1)))) (dCons (dDat (dC (.int 1))) dNil))))) (dCons (dDat (dTup (dCons (dDat (dC (.str "back"))) (dCons (dDat (dC (.int 0))) (dCons (dDat (dC (.int 0))) dNil))))) (dCons (dDat (dTup (dCons (dDat (dC (.str "to"))) (dCons (dDat (dC (.int 1))) (dCons (dDat (dC (.int 1))) dNil))))) (dCons (dDat (dTup (dCons (dDat (dC (.str "bark"))) dNil))) (dCons (dDat (dTup (dCons (dDat (dC (.str "back"))) (dCons (dDat (dC (.int 1))) dNil)))) (dCons (dDat (dTup dNil)) (dCons (dDat (dC (.str "to"))) dNil))))))))))))
  (sSeq (sIf (dTest (dBin gNe (dComp (dSeq (dVar 2)) (gNm 13) dYes (dVal (dCall 1 S_is_run (dCons (dDat (dVar 13)) dNil))) [13]) (dBin gAdd (dBin gMulB (dLst (dCons (dDat (dC (.bl true))) dNil)) (dC (.int 5))) (dBin gMulB (dLst (dCons (dDat (dC (.bl false))) dNil)) (dC (.int 10)))))) (sRet (dDat (dC (.bl false)))) sNil)
  (sSeq (sSet 3 (dDat (dLst (dCons (dDat (dTup (dCons (dDat (dC (.int 9))) (dCons (dDat (dTup dNil)) dNil)))) (dCons (dDat (dTup (dCons (dDat (dC (.int 1))) (dCons (dDat (dBin gMulB (dTup (dCons (dDat (dTup (dCons (dDat (dC (.str "to"))) (dCons (dDat (dC (.int 1))) dNil)))) dNil)) (dC (.int 8)))) dNil)))) (dCons (dDat (dTup (dCons (dDat (dC (.int 0))) (dCons (dDat (dTup dNil)) dNil)))) (dCons (dDat (dTup (dCons (dDat (dC (.int 10))) (dCons (dDat (dTup dNil)) dNil)))) (dCons (dDat (dTup (dCons (dDat (dC (.int 1))) (dCons (dDat (dBin gMulB (dTup (dCons (dDat (dTup (dCons (dDat (dC (.str "to"))) (dCons (dDat (dC (.int 1))) dNil)))) dNil)) (dC (.int 9)))) dNil)))) (dCons (dDat (dTup (dCons (dDat (dC (.int 1))) (dCons (dDat (dLst (dCons (dDat (dTup (dCons (dDat (dC (.str "to"))) (dCons (dDat (dC (.int 1))) dNil)))) dNil))) dNil)))) (dCons (dDat (dTup (dCons (dDat (dC (.int 1))) (dCons (dDat (dTup (dCons (dDat (dC (.str "to"))) (dCons (dDat (dC (.int 1))) dNil)))) dNil)))) dNil))))))))))
  (sSeq (sIf (dTest (dBin gNe (dComp (dSeq (dVar 3)) (gNm 6) dYes (dVal (dCall 1 S_is_drill (dCons (dDat (dVar 6)) dNil))) [6]) (dBin gAdd (dLst (dCons (dDat (dC (.bl true))) (dCons (dDat (dC (.bl true))) dNil))) (dBin gMulB (dLst (dCons (dDat (dC (.bl false))) dNil)) (dC (.int 5)))))) (sRet (dDat (dC (.bl false)))) sNil)
  (sSeq (sSet 4 (dDat (dLst (dCons (dDat (dTup (dCons (dDat (dC (.int 0))) dNil))) (dCons (dDat (dTup (dCons (dDat (dBin gPow (dC (.int 10)) (dC (.int 30)))) dNil))) (dCons (dDat (dTup (dCons (dDat (dC (.int 0))) (dCons (dDat (dC (.int 3))) dNil)))) (dCons (dDat (dVal (dCall 2 S_l_at (dCons (dDat (dC (.int 3))) (dCons (dDat (dBin gMulB (dTup (dCons (dDat (dC (.int 0))) dNil)) (dC (.int 40)))) dNil))))) (dCons (dDat (dTup (dCons (dDat (dC (.int 0))) (dCons (dDat (dC (.int 2))) dNil)))) (dCons (dDat (dTup dNil)) (dCons (dDat (dVal (dCall 2 S_l_at (dCons (dDat (dC (.int 3))) (dCons (dDat (dBin gMulB (dTup (dCons (dDat (dC (.int 0))) dNil)) (dC (.int 41)))) dNil))))) (dCons (dDat (dTup (dCons (dDat (dUn gNeg (dC (.int 1)))) dNil))) (dCons (dDat (dTup (dCons (dDat (dC (.int 3))) (dCons (dDat (dC (.int 0))) dNil)))) dNil))))))))))))
  (sRet (dDat (dBin gEq (dComp (dSeq (dVar 4)) (gNm 9) dYes (dVal (dCall 2 S_is_beginning (dCons (dDat (dTup (dCons (dDat (dC (.int 3))) (dCons (dDat (dTup dNil)) dNil)))) (dCons (dDat (dVar 9)) dNil)))) [9]) (dBin gAdd (dBin gMulB (dLst (dCons (dDat (dC (.bl true))) dNil)) (dC (.int 4))) (dBin gMulB (dLst (dCons (dDat (dC (.bl false))) dNil)) (dC (.int 5))))))))))))))
def S_law : DF := fun ss T Q _ => ∃ ns : List Int, ss = [.dat (.scr ns)] ∧ ns.length ≤ 63 ∧ ∀ T', Q (.dat (.bl true)) T'
theorem h_law : ∀ (ss : List Sl) (T : List Ob) (Q : Sl → List Ob → Prop) (QX : Xn → List Ob → Prop), ss.length = 1 → S_law ss T Q QX → B_law (endsOf T.length Q QX) (startD 15 1 ss T) := by
  intro ss T Q QX hl h
  obtain ⟨ns, rfl, hn, h⟩ := h
  unfold B_law
  walk_at "dl"
  refine ⟨by split <;> omega, ?_⟩
  refine loop_inv (fun ds ρ => (∀ d ∈ ds, ∃ i : Int, d = .int i ∧ 0 ≤ i ∧ i < 11) ∧ ∃ (T' : List Ob) (x5 : Option Sl) (x1 x6 x7 x8 x9 x10 x11 x12 : Option D), lowS T'.length [x5] = true ∧ ρ = ⟨T', [some (.dat (.scr ns)), dsl x1, none, none, none, x5, dsl x6, dsl x7, dsl x8, dsl x9, dsl x10, dsl x11, dsl x12, none, none]⟩) ?_ ?_ _ _ ?_
  · rintro d ds ρ ⟨hd, T', x5, x1, x6, x7, x8, x9, x10, x11, x12, lx, rfl⟩ N hN
    obtain ⟨i, rfl, i0, i9⟩ := hd d (by simp)
    walk_at "dl"
    refine ⟨ns, i, rfl, i0, by omega, by omega, fun a b ok => ?_⟩
    have k0 : Cart (T' ++ [CartV a b]) T'.length := ⟨a, b, get_last _ _, ok⟩
    generalize T'.length = k at k0
    generalize T' ++ [CartV a b] = T0 at k0
    walk_at "dl"
    refine ⟨k, 8, rfl, k0, by decide, by decide, fun g rs T1 g1 g4 hr rok c1 => ?_⟩
    have k1 := c1.cart k0
    have dr : DrOk g rs := ⟨g1, by omega, by omega, rok⟩
    simp only [drD]
    walk_at "dl"
    refine ⟨k, 12, rfl, k1, by decide, by decide, fun m T2 m0 m1 c2 => ?_⟩
    have k2 := c2.cart k1
    walk_at "dl"
    refine ⟨k, 1 + m, 5, rfl, k2, by omega, by omega, by decide, by decide, fun xs T3 hxl rok3 c3 => ?_⟩
    have k3 := c3.cart k2
    walk_at "dl"
    refine ⟨g, xs, rfl, by omega, by omega, ?_⟩
    have hpl : (atL g 0 xs).length ≤ 12 := by rw [atL_len]; omega
    generalize atL g 0 xs = ps at hpl
    walk_at "dl"
    refine ⟨_, rfl, okd_drL g rs, ?_⟩
    rw [show fitsB (.lst [.int g, .tup (rs.map Rn.d)]) = false from rfl]
    walk_at "dl"
    refine ⟨g, rs, _, rfl, dr, okd_up 59 _ (by simp only [okd]; exact okds_ints 58 ps), ?_⟩
    rw [show beginsB g (.lst (ps.map .int)) = false from rfl]
    walk_at "dl"
    refine ⟨k, 9, rfl, k3, by decide, by decide, fun r T4 okr c4 => ?_⟩
    have k4 := c4.cart k3
    walk_at "dl"
    refine loop_inv (fun ds ρ => ∃ (t c : Nat) (T5 : List Ob) (v9 v10 v11 : D) (x8 x12 : Option D), ds = (List.range' t c).map (fun (k : Nat) => D.int k) ∧ t + c = 14 ∧ Cart T5 k ∧ szd (45 + t) (4 + t) v9 = true ∧ szd (45 + t) (4 + t) v10 = true ∧ szd (45 + t) (4 + t) v11 = true ∧
      ρ = ⟨T5, [some (.dat (.scr ns)), some (.dat (.int i)), none, none, none, some (.ob k), some (.dat (drD g rs)), some (.dat (tupI ps)), dsl x8, some (.dat v9), some (.dat v10), some (.dat v11), dsl x12, none, none]⟩) ?_ ?_ _ _ ?_
    · rintro d ds' ρ ⟨t, c, T5, v9, v10, v11, x8, x12, e, htc, k5, z9, z10, z11, rfl⟩ N2 hN2
      cases c with
      | zero => cases e
      | succ c =>
        rw [List.range'_succ] at e
        cases e
        have o9 := okd_le (szd_ok _ _ _ z9) (show 4 + t ≤ 60 by omega)
        have o10 := okd_le (szd_ok _ _ _ z10) (show 4 + t ≤ 60 by omega)
        have o11 := okd_le (szd_ok _ _ _ z11) (show 4 + t ≤ 60 by omega)
        walk_at "dl"
        refine ⟨v9, rfl, o9, ?_⟩
        walk_at "dl"
        refine ⟨g, rs, v10, rfl, dr, o10, ?_⟩
        walk_at "dl"
        refine ⟨v11, rfl, o11, ?_⟩
        walk_at "dl"
        rw [dComp_eq]
        walk_at "dl"
        refine compK_pure (fun _ => none) [some (.dat (.scr ns)), some (.dat (.int i)), none, none, none, some (.ob k), some (.dat (drD g rs)), some (.dat (tupI ps)), some (.dat (.int t)), some (.dat v9), some (.dat v10), some (.dat v11), some (.dat (.lst [.bl (fitsB v9), .bl (beginsB g v10), .bl (isRun v11)])), none, none] rfl rfl ?_ (by simp [sizeLine_eq]) ?_ ?_
        · simp only [low_nil, low_dsl, low_dat, low_none, low_ob k5.lt]
        · intro d hd acc R hR
          simp only [List.mem_cons, List.not_mem_nil, or_false] at hd
          rcases hd with rfl | rfl | rfl
          all_goals
            walk_at "dl"
            exact hR _ rfl
        simp only [List.filterMap_cons, List.filterMap_nil]
        walk_at "dl"
        refine ⟨v9, rfl, o9, ?_⟩
        simp only [drD]
        walk_at "dl"
        refine ⟨g, v10, rfl, o10, ?_⟩
        walk_at "dl"
        refine ⟨v11, rfl, o11, ?_⟩
        walk_at "dl"
        have zdr : szd (45 + t) (4 + t) (drD g rs) = true := szd_up (by omega) 3 _ _ (by omega) (szd_dr (n := 45) (d := 0) (by omega) (by omega))
        have zpl : szd (45 + t) (4 + t) (tupI ps) = true := szd_up (by omega) 1 _ _ (by omega) (szd_ints (n := 45) (d := 0) (by omega))
        by_cases q : ((t : Int) % 3 == 0) = true
        · rw [if_pos q]
          refine ⟨k, drD g rs, 45 + t, 4 + t, rfl, k5, zdr, by omega, by omega, (show 4 + t ≤ 19 by omega), (show 19 ≤ 50 by decide), fun u9 T6 y9 c6 => ?_⟩
          have k6 := c6.cart k5
          walk_at "dl"
          rw [if_pos q]
          refine ⟨k, tupI ps, 45 + t, 4 + t, rfl, k6, zpl, by omega, by omega, (show 4 + t ≤ 19 by omega), (show 19 ≤ 50 by decide), fun u10 T7 y10 c7 => ?_⟩
          have k7 := c7.cart k6
          walk_at "dl"
          rw [if_pos q]
          refine ⟨k, 9, rfl, k7, by decide, by decide, fun r2 T8 ok2 c8 => ?_⟩
          have k8 := c8.cart k7
          walk_at "dl"
          refine ⟨k, r2.d, 45 + t, 4 + t, rfl, k8, szd_up (by omega) 1 _ _ (by omega) (szd_rn r2 (n := 45) (d := 0) (by omega)), by omega, by omega, (show 4 + t ≤ 19 by omega), (show 19 ≤ 50 by decide), fun u11 T9 y11 c9 => ?_⟩
          walk_at "dl"
          exact hN2 _ ⟨t + 1, c, T9, u9, u10, u11, some _, some _, rfl, by omega, c9.cart k8, y9, y10, y11, rfl⟩
        · rw [if_neg q]
          refine ⟨k, v9, 45 + t, 4 + t, rfl, k5, z9, by omega, by omega, (show 4 + t ≤ 19 by omega), (show 19 ≤ 50 by decide), fun u9 T6 y9 c6 => ?_⟩
          have k6 := c6.cart k5
          walk_at "dl"
          rw [if_neg q]
          refine ⟨k, v10, 45 + t, 4 + t, rfl, k6, z10, by omega, by omega, (show 4 + t ≤ 19 by omega), (show 19 ≤ 50 by decide), fun u10 T7 y10 c7 => ?_⟩
          have k7 := c7.cart k6
          walk_at "dl"
          rw [if_neg q]
          refine ⟨k, v11, 45 + t, 4 + t, rfl, k7, z11, by omega, by omega, (show 4 + t ≤ 19 by omega), (show 19 ≤ 50 by decide), fun u11 T9 y11 c9 => ?_⟩
          walk_at "dl"
          exact hN2 _ ⟨t + 1, c, T9, u9, u10, u11, some _, some _, rfl, by omega, c9.cart k7, y9, y10, y11, rfl⟩
    · rintro ρ ⟨t, c, T5, v9, v10, v11, x8, x12, e, htc, k5, z9, z10, z11, rfl⟩
      exact hN _ ⟨fun d h => hd d (by simp [h]), T5, some (.ob k), some _, some _, some _, x8, some _, some _, some _, x12, by rw [low_ob k5.lt]; rfl, rfl⟩
    · refine ⟨0, 14, T4, drD g rs, tupI ps, r.d, x8, x12, ?_, rfl, k4, szd_up (by omega) 3 _ _ (by omega) (szd_dr (n := 45) (d := 0) (by omega) (by omega)), szd_up (by omega) 1 _ _ (by omega) (szd_ints (n := 45) (d := 0) (by omega)), szd_up (by omega) 1 _ _ (by omega) (szd_rn r (n := 45) (d := 0) (by omega)), rfl⟩
      rw [show (14 : Int) = ((14 : Nat) : Int) by rfl, rangeD_map]
      rfl
  · rintro ρ ⟨hd, T', x5, x1, x6, x7, x8, x9, x10, x11, x12, lx, rfl⟩
    walk_at "dl"
    refine ⟨by unfold CPow; decide, by unfold CPow; decide, by simp [sizeLine_eq], ?_⟩
    rw [dComp_eq]
    walk_at "dl"
    refine compK_pure (fun d => some (.bl (isRun d))) _ rfl rfl ?_ (by simp [sizeLine_eq]) ?_ ?_
    · walk_at "dl"
      simp only [low_nil, low_dsl, low_dat, low_none, low_any lx]
    · intro d hd acc R hR
      have okk : okds 60 [D.tup [.str "to", .int 0], .tup [.str "to", .int 1000000000000], .tup [.str "bark", .int 1], .tup [.str "back", .int 3, .int 1], .tup [.str "front", .int 0, .int 1000000000000], .tup [.str "to", .int (-1)], .tup [.str "bark", .int 0], .tup [.str "back", .int 4, .int 1], .tup [.str "front", .int (-1), .int 1], .tup [.str "back", .int 0, .int 0], .tup [.str "to", .int 1, .int 1], .tup [.str "bark"], .tup [.str "back", .int 1], .tup [], .str "to"] = true := by simp [okd, okds]
      have okd' := (okds_iff 60 _).mp okk d hd
      walk_at "dl"
      refine ⟨d, rfl, okd', ?_⟩
      walk_at "dl"
      exact hR _ rfl
    rw [filterMap_some]
    rw [show ([D.tup [.str "to", .int 0], .tup [.str "to", .int 1000000000000], .tup [.str "bark", .int 1], .tup [.str "back", .int 3, .int 1], .tup [.str "front", .int 0, .int 1000000000000], .tup [.str "to", .int (-1)], .tup [.str "bark", .int 0], .tup [.str "back", .int 4, .int 1], .tup [.str "front", .int (-1), .int 1], .tup [.str "back", .int 0, .int 0], .tup [.str "to", .int 1, .int 1], .tup [.str "bark"], .tup [.str "back", .int 1], .tup [], .str "to"] : List D).map (fun d => D.bl (isRun d)) = [.bl true, .bl true, .bl true, .bl true, .bl true, .bl false, .bl false, .bl false, .bl false, .bl false, .bl false, .bl false, .bl false, .bl false, .bl false] from rfl]
    walk_at "dl"
    simp only [List.flatten_cons, List.flatten_nil]
    walk_at "dl"
    refine ⟨by simp [sizeLine_eq], ?_⟩
    rw [dComp_eq]
    walk_at "dl"
    refine compK_pure (fun d => some (.bl (fitsB d))) _ rfl rfl ?_ (by simp [sizeLine_eq]) ?_ ?_
    · walk_at "dl"
      simp only [low_nil, low_dsl, low_dat, low_none, low_any lx]
    · intro d hd acc R hR
      have okk : okds 60 [D.tup [.int 9, .tup []], .tup [.int 1, .tup [.tup [.str "to", .int 1], .tup [.str "to", .int 1], .tup [.str "to", .int 1], .tup [.str "to", .int 1], .tup [.str "to", .int 1], .tup [.str "to", .int 1], .tup [.str "to", .int 1], .tup [.str "to", .int 1]]], .tup [.int 0, .tup []], .tup [.int 10, .tup []], .tup [.int 1, .tup [.tup [.str "to", .int 1], .tup [.str "to", .int 1], .tup [.str "to", .int 1], .tup [.str "to", .int 1], .tup [.str "to", .int 1], .tup [.str "to", .int 1], .tup [.str "to", .int 1], .tup [.str "to", .int 1], .tup [.str "to", .int 1]]], .tup [.int 1, .lst [.tup [.str "to", .int 1]]], .tup [.int 1, .tup [.str "to", .int 1]]] = true := by simp [okd, okds]
      have okd' := (okds_iff 60 _).mp okk d hd
      walk_at "dl"
      refine ⟨d, rfl, okd', ?_⟩
      walk_at "dl"
      exact hR _ rfl
    rw [filterMap_some]
    rw [show ([D.tup [.int 9, .tup []], .tup [.int 1, .tup [.tup [.str "to", .int 1], .tup [.str "to", .int 1], .tup [.str "to", .int 1], .tup [.str "to", .int 1], .tup [.str "to", .int 1], .tup [.str "to", .int 1], .tup [.str "to", .int 1], .tup [.str "to", .int 1]]], .tup [.int 0, .tup []], .tup [.int 10, .tup []], .tup [.int 1, .tup [.tup [.str "to", .int 1], .tup [.str "to", .int 1], .tup [.str "to", .int 1], .tup [.str "to", .int 1], .tup [.str "to", .int 1], .tup [.str "to", .int 1], .tup [.str "to", .int 1], .tup [.str "to", .int 1], .tup [.str "to", .int 1]]], .tup [.int 1, .lst [.tup [.str "to", .int 1]]], .tup [.int 1, .tup [.str "to", .int 1]]] : List D).map (fun d => D.bl (fitsB d)) = [.bl true, .bl true, .bl false, .bl false, .bl false, .bl false, .bl false] from rfl]
    walk_at "dl"
    try simp only [List.flatten_cons, List.flatten_nil]
    walk_at "dl"
    refine ⟨by simp [sizeLine_eq], by unfold CPow; decide, 3, List.replicate 40 0, rfl, by decide, by decide, ?_⟩
    rw [show atL 3 0 (List.replicate 40 0) = [0, 3, 6, 9, 12, 15, 18, 21, 24, 27, 30, 33, 36, 39, 42, 45, 48, 51, 54, 57, 60, 63, 66, 69, 72, 75, 78, 81, 84, 87, 90, 93, 96, 99, 102, 105, 108, 111, 114, 117] from rfl]
    walk_at "dl"
    refine ⟨3, List.replicate 41 0, rfl, by decide, by decide, ?_⟩
    rw [show atL 3 0 (List.replicate 41 0) = [0, 3, 6, 9, 12, 15, 18, 21, 24, 27, 30, 33, 36, 39, 42, 45, 48, 51, 54, 57, 60, 63, 66, 69, 72, 75, 78, 81, 84, 87, 90, 93, 96, 99, 102, 105, 108, 111, 114, 117, 120] from rfl]
    walk_at "dl"
    rw [dComp_eq]
    walk_at "dl"
    refine compK_pure (fun d => some (.bl (beginsB 3 d))) _ rfl rfl ?_ (by simp [sizeLine_eq]) ?_ ?_
    · walk_at "dl"
      simp only [low_nil, low_dsl, low_dat, low_none, low_any lx]
    · intro d hd acc R hR
      have okk : okds 60 [D.tup [.int 0], .tup [.int 1000000000000000000000000000000], .tup [.int 0, .int 3], .tup [.int 0, .int 3, .int 6, .int 9, .int 12, .int 15, .int 18, .int 21, .int 24, .int 27, .int 30, .int 33, .int 36, .int 39, .int 42, .int 45, .int 48, .int 51, .int 54, .int 57, .int 60, .int 63, .int 66, .int 69, .int 72, .int 75, .int 78, .int 81, .int 84, .int 87, .int 90, .int 93, .int 96, .int 99, .int 102, .int 105, .int 108, .int 111, .int 114, .int 117], .tup [.int 0, .int 2], .tup [], .tup [.int 0, .int 3, .int 6, .int 9, .int 12, .int 15, .int 18, .int 21, .int 24, .int 27, .int 30, .int 33, .int 36, .int 39, .int 42, .int 45, .int 48, .int 51, .int 54, .int 57, .int 60, .int 63, .int 66, .int 69, .int 72, .int 75, .int 78, .int 81, .int 84, .int 87, .int 90, .int 93, .int 96, .int 99, .int 102, .int 105, .int 108, .int 111, .int 114, .int 117, .int 120], .tup [.int (-1)], .tup [.int 3, .int 0]] = true := by simp [okd, okds]
      have okd' := (okds_iff 60 _).mp okk d hd
      walk_at "dl"
      refine ⟨3, [], d, rfl, ⟨by decide, by decide, by decide, by simp⟩, okd', ?_⟩
      walk_at "dl"
      exact hR _ rfl
    rw [filterMap_some]
    rw [show ([D.tup [.int 0], .tup [.int 1000000000000000000000000000000], .tup [.int 0, .int 3], .tup [.int 0, .int 3, .int 6, .int 9, .int 12, .int 15, .int 18, .int 21, .int 24, .int 27, .int 30, .int 33, .int 36, .int 39, .int 42, .int 45, .int 48, .int 51, .int 54, .int 57, .int 60, .int 63, .int 66, .int 69, .int 72, .int 75, .int 78, .int 81, .int 84, .int 87, .int 90, .int 93, .int 96, .int 99, .int 102, .int 105, .int 108, .int 111, .int 114, .int 117], .tup [.int 0, .int 2], .tup [], .tup [.int 0, .int 3, .int 6, .int 9, .int 12, .int 15, .int 18, .int 21, .int 24, .int 27, .int 30, .int 33, .int 36, .int 39, .int 42, .int 45, .int 48, .int 51, .int 54, .int 57, .int 60, .int 63, .int 66, .int 69, .int 72, .int 75, .int 78, .int 81, .int 84, .int 87, .int 90, .int 93, .int 96, .int 99, .int 102, .int 105, .int 108, .int 111, .int 114, .int 117, .int 120], .tup [.int (-1)], .tup [.int 3, .int 0]] : List D).map (fun d => D.bl (beginsB 3 d)) = [.bl true, .bl true, .bl true, .bl true, .bl false, .bl false, .bl false, .bl false, .bl false] from rfl]
    walk_at "dl"
    try simp only [List.flatten_cons, List.flatten_nil]
    walk_at "dl"
    exact ⟨by simp [sizeLine_eq], h _⟩
  · refine ⟨fun d hd => ?_, T, none, none, none, none, none, none, none, none, none, rfl, rfl⟩
    obtain ⟨i, rfl, i0, i1⟩ := range_mem hd
    refine ⟨i, rfl, i0, ?_⟩
    split at i1 <;> omega
end DL
set_option Elab.async false
set_option linter.all false
set_option maxRecDepth 100000
set_option maxHeartbeats 4000000
set_option autoImplicit false
/-! The program's text keeps what the data level promises. -/
namespace DL
open PySem PySem.Spec PyProof.Rows L2
def topS (i : Nat) : Stmt := PySem.Challenge.pw_dogruns_k01_drills_runs_and_beginnings.main.body.getD i (.Pass ⟨0, 0, 0, 0⟩)
abbrev s_l_cart_of : Stmt := topS 19
theorem sc_l_cart_of : FnScope ["_law_script", "_law_k", "_law_cell"] ["_law_script", "_law_k"] (defScope s_l_cart_of) := ⟨rfl, rfl, rfl, by decide +kernel, rfl, by decide +kernel, by decide +kernel⟩
abbrev s_l_take : Stmt := topS 20
theorem sc_l_take : FnScope ["_law_cart", "_law_many", "_law_found", "_law_wide"] ["_law_cart", "_law_many"] (defScope s_l_take) := ⟨rfl, rfl, rfl, by decide +kernel, rfl, by decide +kernel, by decide +kernel⟩
abbrev s_l_any : Stmt := topS 21
theorem sc_l_any : FnScope ["_law_cart", "_law_things"] ["_law_cart", "_law_things"] (defScope s_l_any) := ⟨rfl, rfl, rfl, by decide +kernel, rfl, by decide +kernel, by decide +kernel⟩
abbrev s_l_deed : Stmt := topS 22
theorem sc_l_deed : FnScope ["_law_cart", "_law_wide", "_law_word", "_law_most"] ["_law_cart", "_law_wide"] (defScope s_l_deed) := ⟨rfl, rfl, rfl, by decide +kernel, rfl, by decide +kernel, by decide +kernel⟩
abbrev s_l_deeds : Stmt := topS 23
theorem sc_l_deeds : FnScope ["_law_cart", "_law_most", "_law_wide", "_law_turn"] ["_law_cart", "_law_most", "_law_wide"] (defScope s_l_deeds) := ⟨rfl, rfl, rfl, by decide +kernel, rfl, by decide +kernel, by decide +kernel⟩
abbrev s_l_work : Stmt := topS 24
theorem sc_l_work : FnScope ["_law_cart", "_law_most"] ["_law_cart", "_law_most"] (defScope s_l_work) := ⟨rfl, rfl, rfl, by decide +kernel, rfl, by decide +kernel, by decide +kernel⟩
abbrev s_l_at : Stmt := topS 25
theorem sc_l_at : FnScope ["_law_gap", "_law_rooms_here", "_law_at_here", "_law_room"] ["_law_gap", "_law_rooms_here"] (defScope s_l_at) := ⟨rfl, rfl, rfl, by decide +kernel, rfl, by decide +kernel, by decide +kernel⟩
abbrev s_l_rooms : Stmt := topS 26
theorem sc_l_rooms : FnScope ["_law_cart", "_law_many", "_law_wide", "_law_turn", "_law_found", "_law_room"] ["_law_cart", "_law_many", "_law_wide"] (defScope s_l_rooms) := ⟨rfl, rfl, rfl, by decide +kernel, rfl, by decide +kernel, by decide +kernel⟩
abbrev s_l_bent : Stmt := topS 32
theorem sc_l_bent : FnScope ["_law_cart", "_law_value", "_law_way", "_law_some", "_law_at_here"] ["_law_cart", "_law_value"] (defScope s_l_bent) := ⟨rfl, rfl, rfl, by decide +kernel, rfl, by decide +kernel, by decide +kernel⟩
abbrev s_is_int : Stmt := topS 10
theorem sc_is_int : FnScope ["value", "low", "high"] ["value", "low", "high"] (defScope s_is_int) := ⟨rfl, rfl, rfl, by decide +kernel, rfl, by decide +kernel, by decide +kernel⟩
abbrev s_is_a_run : Stmt := topS 11
theorem sc_is_a_run : FnScope ["value"] ["value"] (defScope s_is_a_run) := ⟨rfl, rfl, rfl, by decide +kernel, rfl, by decide +kernel, by decide +kernel⟩
abbrev s_is_run : Stmt := topS 16
theorem sc_is_run : FnScope ["value"] ["value"] (defScope s_is_run) := ⟨rfl, rfl, rfl, by decide +kernel, rfl, by decide +kernel, by decide +kernel⟩
abbrev s_fits : Stmt := topS 12
theorem sc_fits : FnScope ["value", "run"] ["value"] (defScope s_fits) := ⟨rfl, rfl, rfl, by decide +kernel, rfl, by decide +kernel, by decide +kernel⟩
abbrev s_is_drill : Stmt := topS 15
theorem sc_is_drill : FnScope ["value"] ["value"] (defScope s_is_drill) := ⟨rfl, rfl, rfl, by decide +kernel, rfl, by decide +kernel, by decide +kernel⟩
abbrev s_need_drill : Stmt := topS 14
theorem sc_need_drill : FnScope ["value"] ["value"] (defScope s_need_drill) := ⟨rfl, rfl, rfl, by decide +kernel, rfl, by decide +kernel, by decide +kernel⟩
abbrev s_begins : Stmt := topS 13
theorem sc_begins : FnScope ["gap", "value", "place", "one", "other"] ["gap", "value"] (defScope s_begins) := ⟨rfl, rfl, rfl, by decide +kernel, rfl, by decide +kernel, by decide +kernel⟩
abbrev s_is_beginning : Stmt := topS 17
theorem sc_is_beginning : FnScope ["drill", "value"] ["drill", "value"] (defScope s_is_beginning) := ⟨rfl, rfl, rfl, by decide +kernel, rfl, by decide +kernel, by decide +kernel⟩
abbrev s_l_int : Stmt := topS 28
theorem sc_l_int : FnScope ["_law_value", "_law_low", "_law_high"] ["_law_value", "_law_low", "_law_high"] (defScope s_l_int) := ⟨rfl, rfl, rfl, by decide +kernel, rfl, by decide +kernel, by decide +kernel⟩
abbrev s_l_is_run : Stmt := topS 29
theorem sc_l_is_run : FnScope ["_law_value", "_law_least"] ["_law_value"] (defScope s_l_is_run) := ⟨rfl, rfl, rfl, by decide +kernel, rfl, by decide +kernel, by decide +kernel⟩
abbrev s_l_is_drill : Stmt := topS 30
theorem sc_l_is_drill : FnScope ["_law_value", "_law_run"] ["_law_value"] (defScope s_l_is_drill) := ⟨rfl, rfl, rfl, by decide +kernel, rfl, by decide +kernel, by decide +kernel⟩
abbrev s_l_closed : Stmt := topS 27
theorem sc_l_closed : FnScope ["_law_gap", "_law_places", "_law_found", "_law_place"] ["_law_gap", "_law_places"] (defScope s_l_closed) := ⟨rfl, rfl, rfl, by decide +kernel, rfl, by decide +kernel, by decide +kernel⟩
abbrev s_l_is_beginning : Stmt := topS 31
theorem sc_l_is_beginning : FnScope ["_law_gap", "_law_value", "_law_place"] ["_law_gap", "_law_value"] (defScope s_l_is_beginning) := ⟨rfl, rfl, rfl, by decide +kernel, rfl, by decide +kernel, by decide +kernel⟩
abbrev s_law : Stmt := topS 33
theorem sc_law : FnScope ["_law_script", "_law_k", "_law_runs", "_law_works", "_law_some", "_law_cart", "_law_work_here", "_law_places", "_law_turn", "_law_one", "_law_two", "_law_three", "_law_told", "_law_run", "_law_word"] ["_law_script"] (defScope s_law) := ⟨rfl, rfl, rfl, by decide +kernel, rfl, by decide +kernel, by decide +kernel⟩
structure Md (K : PySem.W.Frag) (mg : Str → Option Value) where
  f_l_cart_of : Addr
  d_l_cart_of : FuncData
  F_l_cart_of : Fun K "_law_cart_of" "_law_cart_of" s_l_cart_of f_l_cart_of d_l_cart_of
  g_l_cart_of : mg "_law_cart_of" = some (.ref f_l_cart_of)
  b_l_cart_of : Binds K d_l_cart_of ["_law_script", "_law_k"] []
  f_l_take : Addr
  d_l_take : FuncData
  F_l_take : Fun K "_law_take" "_law_take" s_l_take f_l_take d_l_take
  g_l_take : mg "_law_take" = some (.ref f_l_take)
  b_l_take : Binds K d_l_take ["_law_cart", "_law_many"] []
  f_l_any : Addr
  d_l_any : FuncData
  F_l_any : Fun K "_law_any" "_law_any" s_l_any f_l_any d_l_any
  g_l_any : mg "_law_any" = some (.ref f_l_any)
  b_l_any : Binds K d_l_any ["_law_cart", "_law_things"] []
  f_l_deed : Addr
  d_l_deed : FuncData
  F_l_deed : Fun K "_law_deed" "_law_deed" s_l_deed f_l_deed d_l_deed
  g_l_deed : mg "_law_deed" = some (.ref f_l_deed)
  b_l_deed : Binds K d_l_deed ["_law_cart", "_law_wide"] []
  f_l_deeds : Addr
  d_l_deeds : FuncData
  F_l_deeds : Fun K "_law_deeds" "_law_deeds" s_l_deeds f_l_deeds d_l_deeds
  g_l_deeds : mg "_law_deeds" = some (.ref f_l_deeds)
  b_l_deeds : Binds K d_l_deeds ["_law_cart", "_law_most", "_law_wide"] []
  f_l_work : Addr
  d_l_work : FuncData
  F_l_work : Fun K "_law_work" "_law_work" s_l_work f_l_work d_l_work
  g_l_work : mg "_law_work" = some (.ref f_l_work)
  b_l_work : Binds K d_l_work ["_law_cart", "_law_most"] []
  f_l_at : Addr
  d_l_at : FuncData
  F_l_at : Fun K "_law_at" "_law_at" s_l_at f_l_at d_l_at
  g_l_at : mg "_law_at" = some (.ref f_l_at)
  b_l_at : Binds K d_l_at ["_law_gap", "_law_rooms_here"] []
  f_l_rooms : Addr
  d_l_rooms : FuncData
  F_l_rooms : Fun K "_law_rooms" "_law_rooms" s_l_rooms f_l_rooms d_l_rooms
  g_l_rooms : mg "_law_rooms" = some (.ref f_l_rooms)
  b_l_rooms : Binds K d_l_rooms ["_law_cart", "_law_many", "_law_wide"] []
  f_l_bent : Addr
  d_l_bent : FuncData
  F_l_bent : Fun K "_law_bent" "_law_bent" s_l_bent f_l_bent d_l_bent
  g_l_bent : mg "_law_bent" = some (.ref f_l_bent)
  b_l_bent : Binds K d_l_bent ["_law_cart", "_law_value"] []
  f_is_int : Addr
  d_is_int : FuncData
  F_is_int : Fun K "is_int" "is_int" s_is_int f_is_int d_is_int
  g_is_int : mg "is_int" = some (.ref f_is_int)
  b_is_int : Binds K d_is_int ["value", "low", "high"] []
  f_is_a_run : Addr
  d_is_a_run : FuncData
  F_is_a_run : Fun K "is_a_run" "is_a_run" s_is_a_run f_is_a_run d_is_a_run
  g_is_a_run : mg "is_a_run" = some (.ref f_is_a_run)
  b_is_a_run : Binds K d_is_a_run ["value"] []
  f_is_run : Addr
  d_is_run : FuncData
  F_is_run : Fun K "is_run" "is_run" s_is_run f_is_run d_is_run
  g_is_run : mg "is_run" = some (.ref f_is_run)
  b_is_run : Binds K d_is_run ["value"] []
  f_fits : Addr
  d_fits : FuncData
  F_fits : Fun K "fits" "fits" s_fits f_fits d_fits
  g_fits : mg "fits" = some (.ref f_fits)
  b_fits : Binds K d_fits ["value"] []
  f_is_drill : Addr
  d_is_drill : FuncData
  F_is_drill : Fun K "is_drill" "is_drill" s_is_drill f_is_drill d_is_drill
  g_is_drill : mg "is_drill" = some (.ref f_is_drill)
  b_is_drill : Binds K d_is_drill ["value"] []
  f_need_drill : Addr
  d_need_drill : FuncData
  F_need_drill : Fun K "need_drill" "need_drill" s_need_drill f_need_drill d_need_drill
  g_need_drill : mg "need_drill" = some (.ref f_need_drill)
  b_need_drill : Binds K d_need_drill ["value"] []
  f_begins : Addr
  d_begins : FuncData
  F_begins : Fun K "begins" "begins" s_begins f_begins d_begins
  g_begins : mg "begins" = some (.ref f_begins)
  b_begins : Binds K d_begins ["gap", "value"] []
  f_is_beginning : Addr
  d_is_beginning : FuncData
  F_is_beginning : Fun K "is_beginning" "is_beginning" s_is_beginning f_is_beginning d_is_beginning
  g_is_beginning : mg "is_beginning" = some (.ref f_is_beginning)
  b_is_beginning : Binds K d_is_beginning ["drill", "value"] []
  f_l_int : Addr
  d_l_int : FuncData
  F_l_int : Fun K "_law_int" "_law_int" s_l_int f_l_int d_l_int
  g_l_int : mg "_law_int" = some (.ref f_l_int)
  b_l_int : Binds K d_l_int ["_law_value", "_law_low", "_law_high"] []
  f_l_is_run : Addr
  d_l_is_run : FuncData
  F_l_is_run : Fun K "_law_is_run" "_law_is_run" s_l_is_run f_l_is_run d_l_is_run
  g_l_is_run : mg "_law_is_run" = some (.ref f_l_is_run)
  b_l_is_run : Binds K d_l_is_run ["_law_value"] []
  f_l_is_drill : Addr
  d_l_is_drill : FuncData
  F_l_is_drill : Fun K "_law_is_drill" "_law_is_drill" s_l_is_drill f_l_is_drill d_l_is_drill
  g_l_is_drill : mg "_law_is_drill" = some (.ref f_l_is_drill)
  b_l_is_drill : Binds K d_l_is_drill ["_law_value"] []
  f_l_closed : Addr
  d_l_closed : FuncData
  F_l_closed : Fun K "_law_closed" "_law_closed" s_l_closed f_l_closed d_l_closed
  g_l_closed : mg "_law_closed" = some (.ref f_l_closed)
  b_l_closed : Binds K d_l_closed ["_law_gap", "_law_places"] []
  f_l_is_beginning : Addr
  d_l_is_beginning : FuncData
  F_l_is_beginning : Fun K "_law_is_beginning" "_law_is_beginning" s_l_is_beginning f_l_is_beginning d_l_is_beginning
  g_l_is_beginning : mg "_law_is_beginning" = some (.ref f_l_is_beginning)
  b_l_is_beginning : Binds K d_l_is_beginning ["_law_gap", "_law_value"] []
  f_law : Addr
  d_law : FuncData
  F_law : Fun K "law" "law" s_law f_law d_law
  g_law : mg "law" = some (.ref f_law)
  b_law : Binds K d_law ["_law_script"] []
  t_GREAT : Tok
  g_GREAT : mg "GREAT" = some (.int 1000000000000000000000000000000 t_GREAT)
  t_FAR : Tok
  g_FAR : mg "FAR" = some (.int 1000000000000 t_FAR)
  t_MOST_RUNS : Tok
  g_MOST_RUNS : mg "MOST_RUNS" = some (.int 8 t_MOST_RUNS)
  t_MOST_SHEEP : Tok
  g_MOST_SHEEP : mg "MOST_SHEEP" = some (.int 40 t_MOST_SHEEP)
  t_WIDEST : Tok
  g_WIDEST : mg "WIDEST" = some (.int 9 t_WIDEST)
  t_DEEPEST : Tok
  g_DEEPEST : mg "DEEPEST" = some (.int 3 t_DEEPEST)
  z_abs : mg "abs" = none
  z_bool : mg "bool" = none
  z_enumerate : mg "enumerate" = none
  z_int : mg "int" = none
  z_isinstance : mg "isinstance" = none
  z_len : mg "len" = none
  z_list : mg "list" = none
  z_min : mg "min" = none
  z_range : mg "range" = none
  z_str : mg "str" = none
  z_tuple : mg "tuple" = none
  z_zip : mg "zip" = none
section
variable {P : Program} {w : World} {K : PySem.W.Frag} {mg : Str → Option Value} {base : Heap}
theorem ok_l_cart_of (M : Md K mg) : FnOk P w K mg base (L2.CX P w) 1 M.f_l_cart_of M.d_l_cart_of ["_law_script", "_law_k"] (spD K 2 S_l_cart_of) :=
  fn_D M.F_l_cart_of sc_l_cart_of rfl (fun cdv A outer s H E hr => (dss_cons (ds_set 2 sc_l_cart_of.nd (dl_dat (de_bin op_addA g_add (de_bin op_mulB g_mulB de_int (de_var 1)) de_int)))
  (dss_cons (ds_if (dt_cmp op_lt g_lt (de_var 1) (de_len M.z_len (da_cons (dl_dat (de_var 0)) da_nil)) (nomark _)) (dss_one (ds_set 2 sc_l_cart_of.nd (dl_dat (de_bin op_mod g_mod (de_cb call_abs c_abs M.z_abs bt_abs (da_cons (dl_dat (de_cty call_int1 c_int M.z_int bt_int (da_cons (dl_dat (de_ix (de_var 0) (de_var 1))) da_nil))) da_nil)) (de_bin op_mulB g_mulB (de_bin op_mulB g_mulB (de_bin op_mulB g_mulB (de_bin op_pow g_pow de_int de_int) (de_bin op_pow g_pow de_int de_int)) (de_bin op_pow g_pow de_int de_int)) (de_bin op_pow g_pow de_int de_int)))))) (dss_one (ds_if (dt_cmp op_gt g_gt (de_len M.z_len (da_cons (dl_dat (de_var 0)) da_nil)) de_int (nomark _)) (dss_one (ds_set 2 sc_l_cart_of.nd (dl_dat (de_bin op_addA g_add (de_var 2) (de_bin op_mod g_mod (de_cb call_abs c_abs M.z_abs bt_abs (da_cons (dl_dat (de_cty call_int1 c_int M.z_int bt_int (da_cons (dl_dat (de_ix (de_var 0) de_int)) da_nil))) da_nil)) de_int))))) dss_nil)))
  (dss_one (ds_ret (dl_new (da_cons (dl_dat (de_if (dt_cmp op_ge g_ge (de_var 2) (de_bin op_pow g_pow de_int de_int) (nomark _)) (de_var 2) de_int)) (da_cons (dl_dat (de_bin op_addA g_add (de_bin op_mod g_mod (de_cty call_int1 c_int M.z_int bt_int (da_cons (dl_dat (de_bin op_addA g_add (de_bin op_addA g_add (de_bin op_mulB g_mulB (de_bin op_mod g_mod (de_var 2) de_int) de_int) (de_bin op_mulB g_mulB de_int (de_var 1))) de_int)) da_nil)) de_int) de_int)) da_nil)))))))) h_l_cart_of
theorem ok_l_take (M : Md K mg) : FnOk P w K mg base (L2.CX P w) 1 M.f_l_take M.d_l_take ["_law_cart", "_law_many"] (spD K 2 S_l_take) :=
  fn_D M.F_l_take sc_l_take rfl (fun cdv A outer s H E hr => (dss_cons (ds_if (dt_cmp op_gt g_gt (de_ixO 0 de_int) de_int (nomark _)) (dss_cons (ds_set 2 sc_l_take.nd (dl_dat (de_bin op_mod g_mod (de_cty call_int1 c_int M.z_int bt_int (da_cons (dl_dat (de_ixO 0 de_int)) da_nil)) (de_var 1))))
  (dss_cons (ds_setix 0 (de_bin op_fdivW g_div (de_ixO 0 de_int) (de_var 1)) de_int)
  (dss_one (ds_ret (dl_dat (de_var 2)))))) dss_nil)
  (dss_cons (ds_to (de_tup (da_cons (dl_dat de_int) (da_cons (dl_dat de_int) da_nil))) (dg_tup rfl (dgs_cons (dg_name 2 sc_l_take.nd) (dgs_cons (dg_name 3 sc_l_take.nd) dgs_nil))))
  (dss_cons (ds_while (passes_of rfl) (dw (dw_or (dt_cmp op_lt g_lt (de_var 3) (de_var 1) (nomark _)) (dw_or1 (dt_cmp (op_eqP hr.units) g_eq (de_var 3) de_int (nomark _))))) (dss_cons (ds_setix 0 (de_bin op_mod g_mod (de_cty call_int1 c_int M.z_int bt_int (da_cons (dl_dat (de_bin op_addA g_add (de_bin op_mulB g_mulB (de_ixO 0 de_int) de_int) de_int)) da_nil)) de_int) de_int)
  (dss_cons (ds_set 2 sc_l_take.nd (dl_dat (de_bin op_addA g_add (de_bin op_mulB g_mulB (de_var 2) de_int) (de_bin op_mod g_mod (de_cty call_int1 c_int M.z_int bt_int (da_cons (dl_dat (de_bin op_fdivW g_div (de_ixO 0 de_int) de_int)) da_nil)) de_int))))
  (dss_one (ds_set 3 sc_l_take.nd (dl_dat (de_bin op_mulB g_mulB (de_var 3) de_int)))))))
  (dss_one (ds_ret (dl_dat (de_bin op_mod g_mod (de_cty call_int1 c_int M.z_int bt_int (da_cons (dl_dat (de_var 2)) da_nil)) (de_var 1))))))))) h_l_take
theorem ok_l_at (M : Md K mg) : FnOk P w K mg base (L2.CX P w) 1 M.f_l_at M.d_l_at ["_law_gap", "_law_rooms_here"] (spD K 2 S_l_at) :=
  fn_D M.F_l_at sc_l_at rfl (fun cdv A outer s H E hr => (dss_one (ds_ret (dl_dat (de_cty call_tuple_of c_tuple M.z_tuple bt_tuple (da_cons (dl_dat (de_comp (own := [("_law_at_here", 2), ("_law_room", 3)]) rfl sc_l_at.nd (di_enum M.z_enumerate (da_cons (dl_dat (de_var 1)) da_nil)) (by kernel_rfl) (fun _ _ _ _ _ => (dg_tup rfl (dgs_cons (dg_name 2 sc_l_at.nd) (dgs_cons (dg_name 3 sc_l_at.nd) dgs_nil)))) (fun _ _ _ _ _ => dts_nil) (fun _ _ _ _ _ => (de_bin op_addA g_add (de_var 3) (de_bin op_mulB g_mulB (de_var 2) (de_var 0)))))) da_nil)))))) h_l_at
theorem ok_is_int (M : Md K mg) : FnOk P w K mg base (L2.CX P w) 1 M.f_is_int M.d_is_int ["value", "low", "high"] (spD K 3 S_is_int) :=
  fn_D M.F_is_int sc_is_int rfl (fun cdv A outer s H E hr => (dss_one (ds_ret (dl_dat (de_and (de_cb call_isi c_isi M.z_isinstance bt_isinstance (da_cons (dl_dat (de_var 0)) (da_cons (dl_dat (de_ty M.z_int bt_int)) da_nil))) (de_and (de_not (de_cb call_isi c_isi M.z_isinstance bt_isinstance (da_cons (dl_dat (de_var 0)) (da_cons (dl_dat (de_ty M.z_bool bt_bool)) da_nil)))) (de_one (de_chain op_le op_le g_le g_le (de_var 1) (de_var 0) (de_var 2))))))))) h_is_int
theorem ok_l_int (M : Md K mg) : FnOk P w K mg base (L2.CX P w) 1 M.f_l_int M.d_l_int ["_law_value", "_law_low", "_law_high"] (spD K 3 S_l_int) :=
  fn_D M.F_l_int sc_l_int rfl (fun cdv A outer s H E hr => (dss_one (ds_ret (dl_dat (de_and (de_cb call_isi c_isi M.z_isinstance bt_isinstance (da_cons (dl_dat (de_var 0)) (da_cons (dl_dat (de_ty M.z_int bt_int)) da_nil))) (de_and (de_not (de_cb call_isi c_isi M.z_isinstance bt_isinstance (da_cons (dl_dat (de_var 0)) (da_cons (dl_dat (de_ty M.z_bool bt_bool)) da_nil)))) (de_one (de_chain op_le op_le g_le g_le (de_var 1) (de_var 0) (de_var 2))))))))) h_l_int
theorem ok_l_closed (M : Md K mg) : FnOk P w K mg base (L2.CX P w) 1 M.f_l_closed M.d_l_closed ["_law_gap", "_law_places"] (spD K 2 S_l_closed) :=
  fn_D M.F_l_closed sc_l_closed rfl (fun cdv A outer s H E hr => (dss_cons (ds_set 2 sc_l_closed.nd (dl_dat (de_tup da_nil)))
  (dss_cons (ds_for (passes_of rfl) rfl (di_seq (de_var 1)) (dg_name 3 sc_l_closed.nd) (dss_cons (ds_if (dw (dw_and (dt_cmp (op_neP hr.units) g_ne (de_var 2) (de_tup da_nil) (nomark _)) (dw_and1 (dt_cmp op_lt g_lt (de_var 3) (de_bin op_addA g_add (de_ix (de_var 2) (de_neg de_int)) (de_var 0)) (nomark _))))) (dss_one (ds_set 3 sc_l_closed.nd (dl_dat (de_bin op_addA g_add (de_ix (de_var 2) (de_neg de_int)) (de_var 0))))) dss_nil)
  (dss_one (ds_set 2 sc_l_closed.nd (dl_dat (de_bin op_addA g_add (de_var 2) (de_tup (da_cons (dl_dat (de_var 3)) da_nil))))))))
  (dss_one (ds_ret (dl_dat (de_var 2))))))) h_l_closed
theorem ok_l_any (M : Md K mg) : FnOk P w K mg base (L2.CX P w) 2 M.f_l_any M.d_l_any ["_law_cart", "_law_things"] (spD K 2 S_l_any) :=
  fn_D M.F_l_any sc_l_any rfl (fun cdv A outer s H E hr => (dss_one (ds_ret (dl_dat (de_ix (de_var 1) (de_val (dl_call (ok_l_take M) (hr.mono (by decide)) M.g_l_take M.F_l_take.kp M.b_l_take (takes_of rfl rfl rfl rfl) (da_cons (dl_var 0) (da_cons (dl_dat (de_len M.z_len (da_cons (dl_dat (de_var 1)) da_nil))) da_nil))))))))) h_l_any
theorem ok_is_a_run (M : Md K mg) : FnOk P w K mg base (L2.CX P w) 2 M.f_is_a_run M.d_is_a_run ["value"] (spD K 1 S_is_a_run) :=
  fn_D M.F_is_a_run sc_is_a_run rfl (fun cdv A outer s H E hr => (dss_cons (ds_if (dw (dw_or (dt_not (dt_of (de_cb call_isi c_isi M.z_isinstance bt_isinstance (da_cons (dl_dat (de_var 0)) (da_cons (dl_dat (de_ty M.z_tuple bt_tuple)) da_nil))))) (dw_or (dt_cmp (op_eqP hr.units) g_eq (de_var 0) (de_tup da_nil) (nomark _)) (dw_or1 (dt_not (dt_of (de_cb call_isi c_isi M.z_isinstance bt_isinstance (da_cons (dl_dat (de_ix (de_var 0) de_int)) (da_cons (dl_dat (de_ty M.z_str bt_str)) da_nil))))))))) (dss_one (ds_ret (dl_dat de_bl))) dss_nil)
  (dss_cons (ds_if (dt_cmp (op_eqP hr.units) g_eq (de_ix (de_var 0) de_int) de_str (nomark _)) (dss_one (ds_ret (dl_dat (de_and (de_cmp (op_eqP hr.units) g_eq (de_len M.z_len (da_cons (dl_dat (de_var 0)) da_nil)) de_int (nomark _)) (de_one (de_val (dl_call (ok_is_int M) (hr.mono (by decide)) M.g_is_int M.F_is_int.kp M.b_is_int (takes_of rfl rfl rfl rfl) (da_cons (dl_dat (de_ix (de_var 0) de_int)) (da_cons (dl_dat de_int) (da_cons (dl_dat (de_gint M.g_FAR)) da_nil)))))))))) dss_nil)
  (dss_cons (ds_if (dt_cmp (op_eqP hr.units) g_eq (de_ix (de_var 0) de_int) de_str (nomark _)) (dss_one (ds_ret (dl_dat (de_and (de_cmp (op_eqP hr.units) g_eq (de_len M.z_len (da_cons (dl_dat (de_var 0)) da_nil)) de_int (nomark _)) (de_one (de_val (dl_call (ok_is_int M) (hr.mono (by decide)) M.g_is_int M.F_is_int.kp M.b_is_int (takes_of rfl rfl rfl rfl) (da_cons (dl_dat (de_ix (de_var 0) de_int)) (da_cons (dl_dat de_int) (da_cons (dl_dat (de_gint M.g_FAR)) da_nil)))))))))) dss_nil)
  (dss_cons (ds_if (dw (dw_or (dt_cmp (op_ninP hr.units) (g_in true) (de_ix (de_var 0) de_int) (de_tup (da_cons (dl_dat de_str) (da_cons (dl_dat de_str) da_nil))) (by with_unfolding_all rfl)) (dw_or1 (dt_cmp (op_neP hr.units) g_ne (de_len M.z_len (da_cons (dl_dat (de_var 0)) da_nil)) de_int (nomark _))))) (dss_one (ds_ret (dl_dat de_bl))) dss_nil)
  (dss_one (ds_ret (dl_dat (de_and (de_val (dl_call (ok_is_int M) (hr.mono (by decide)) M.g_is_int M.F_is_int.kp M.b_is_int (takes_of rfl rfl rfl rfl) (da_cons (dl_dat (de_ix (de_var 0) de_int)) (da_cons (dl_dat de_int) (da_cons (dl_dat (de_gint M.g_DEEPEST)) da_nil))))) (de_one (de_val (dl_call (ok_is_int M) (hr.mono (by decide)) M.g_is_int M.F_is_int.kp M.b_is_int (takes_of rfl rfl rfl rfl) (da_cons (dl_dat (de_ix (de_var 0) de_int)) (da_cons (dl_dat de_int) (da_cons (dl_dat (de_gint M.g_FAR)) da_nil))))))))))))))) h_is_a_run
theorem ok_begins (M : Md K mg) : FnOk P w K mg base (L2.CX P w) 2 M.f_begins M.d_begins ["gap", "value"] (spD K 2 S_begins) :=
  fn_D M.F_begins sc_begins rfl (fun cdv A outer s H E hr => (dss_cons (ds_if (dw (dw_or (dt_not (dt_of (de_cb call_isi c_isi M.z_isinstance bt_isinstance (da_cons (dl_dat (de_var 1)) (da_cons (dl_dat (de_ty M.z_tuple bt_tuple)) da_nil))))) (dw_or1 (dt_not (dt_chain op_le op_le g_le g_le de_int (de_len M.z_len (da_cons (dl_dat (de_var 1)) da_nil)) (de_gint M.g_MOST_SHEEP)))))) (dss_one (ds_ret (dl_dat de_bl))) dss_nil)
  (dss_cons (ds_if (dt_cmp (op_neP hr.units) g_ne (de_comp (own := [("place", 2)]) rfl sc_begins.nd (di_seq (de_var 1)) (by kernel_rfl) (fun _ _ _ _ _ => (dg_name 2 sc_begins.nd)) (fun _ _ _ _ _ => (dts_one (dt_not (dt_of (de_val (dl_call (ok_is_int M) (hr.mono (by decide)) M.g_is_int M.F_is_int.kp M.b_is_int takes0' (da_cons (dl_dat (de_var 2)) (da_cons (dl_dat de_int) (da_cons (dl_dat (de_gint M.g_GREAT)) da_nil))))))))) (fun _ _ _ _ _ => (de_var 2))) (de_lst da_nil) (nomark _)) (dss_one (ds_ret (dl_dat de_bl))) dss_nil)
  (dss_one (ds_ret (dl_dat (de_cmp (op_eqP hr.units) g_eq (de_comp (own := [("one", 3), ("other", 4)]) rfl sc_begins.nd (di_zip M.z_zip (da_cons (dl_dat (de_var 1)) (da_cons (dl_dat (de_sl (de_var 1) (do_some de_int) do_none)) da_nil))) (by kernel_rfl) (fun _ _ _ _ _ => (dg_tup rfl (dgs_cons (dg_name 3 sc_begins.nd) (dgs_cons (dg_name 4 sc_begins.nd) dgs_nil)))) (fun _ _ _ _ _ => (dts_one (dt_cmp op_lt g_lt (de_bin op_sub g_sub (de_var 4) (de_var 3)) (de_var 0) (nomark _)))) (fun _ _ _ _ _ => de_int)) (de_lst da_nil) (nomark _)))))))) h_begins
theorem ok_l_is_run (M : Md K mg) : FnOk P w K mg base (L2.CX P w) 2 M.f_l_is_run M.d_l_is_run ["_law_value"] (spD K 1 S_l_is_run) :=
  fn_D M.F_l_is_run sc_l_is_run rfl (fun cdv A outer s H E hr => (dss_cons (ds_if (dw (dw_or (dt_not (dt_of (de_cb call_isi c_isi M.z_isinstance bt_isinstance (da_cons (dl_dat (de_var 0)) (da_cons (dl_dat (de_ty M.z_tuple bt_tuple)) da_nil))))) (dw_or (dt_cmp (op_ninP hr.units) (g_in true) (de_len M.z_len (da_cons (dl_dat (de_var 0)) da_nil)) (de_lst (da_cons (dl_dat de_int) (da_cons (dl_dat de_int) da_nil))) (by with_unfolding_all rfl)) (dw_or1 (dt_not (dt_of (de_cb call_isi c_isi M.z_isinstance bt_isinstance (da_cons (dl_dat (de_ix (de_var 0) de_int)) (da_cons (dl_dat (de_ty M.z_str bt_str)) da_nil))))))))) (dss_one (ds_ret (dl_dat de_bl))) dss_nil)
  (dss_cons (ds_if (dt_cmp (op_eqP hr.units) g_eq (de_len M.z_len (da_cons (dl_dat (de_var 0)) da_nil)) de_int (nomark _)) (dss_cons (ds_set 1 sc_l_is_run.nd (dl_dat (de_getP (hu_of hr) (by decide) (de_ix (de_var 0) de_int) de_non)))
  (dss_one (ds_ret (dl_dat (de_and (de_cmp op_notN g_notN (de_var 1) de_non (nomark _)) (de_one (de_val (dl_call (ok_l_int M) (hr.mono (by decide)) M.g_l_int M.F_l_int.kp M.b_l_int (takes_of rfl rfl rfl rfl) (da_cons (dl_dat (de_ix (de_var 0) de_int)) (da_cons (dl_dat (de_var 1)) (da_cons (dl_dat (de_bin op_pow g_pow de_int de_int)) da_nil))))))))))) dss_nil)
  (dss_cons (ds_if (dw (dw_or (dt_cmp (op_ninP hr.units) (g_in true) (de_ix (de_var 0) de_int) (de_lst (da_cons (dl_dat de_str) (da_cons (dl_dat de_str) da_nil))) (by with_unfolding_all rfl)) (dw_or1 (dt_not (dt_of (de_val (dl_call (ok_l_int M) (hr.mono (by decide)) M.g_l_int M.F_l_int.kp M.b_l_int (takes_of rfl rfl rfl rfl) (da_cons (dl_dat (de_ix (de_var 0) de_int)) (da_cons (dl_dat de_int) (da_cons (dl_dat de_int) da_nil)))))))))) (dss_one (ds_ret (dl_dat de_bl))) dss_nil)
  (dss_one (ds_ret (dl_dat (de_val (dl_call (ok_l_int M) (hr.mono (by decide)) M.g_l_int M.F_l_int.kp M.b_l_int (takes_of rfl rfl rfl rfl) (da_cons (dl_dat (de_ix (de_var 0) de_int)) (da_cons (dl_dat de_int) (da_cons (dl_dat (de_bin op_pow g_pow de_int de_int)) da_nil)))))))))))) h_l_is_run
theorem ok_l_is_beginning (M : Md K mg) : FnOk P w K mg base (L2.CX P w) 2 M.f_l_is_beginning M.d_l_is_beginning ["_law_gap", "_law_value"] (spD K 2 S_l_is_beginning) :=
  fn_D M.F_l_is_beginning sc_l_is_beginning rfl (fun cdv A outer s H E hr => (dss_cons (ds_if (dw (dw_or (dt_not (dt_of (de_cb call_isi c_isi M.z_isinstance bt_isinstance (da_cons (dl_dat (de_var 1)) (da_cons (dl_dat (de_ty M.z_tuple bt_tuple)) da_nil))))) (dw_or1 (dt_not (dt_chain op_le op_le g_le g_le de_int (de_len M.z_len (da_cons (dl_dat (de_var 1)) da_nil)) de_int))))) (dss_one (ds_ret (dl_dat de_bl))) dss_nil)
  (dss_cons (ds_if (dt_cmp (op_neP hr.units) g_ne (de_comp (own := [("_law_place", 2)]) rfl sc_l_is_beginning.nd (di_seq (de_var 1)) (by kernel_rfl) (fun _ _ _ _ _ => (dg_name 2 sc_l_is_beginning.nd)) (fun _ _ _ _ _ => (dts_one (dt_not (dt_of (de_val (dl_call (ok_l_int M) (hr.mono (by decide)) M.g_l_int M.F_l_int.kp M.b_l_int takes0' (da_cons (dl_dat (de_var 2)) (da_cons (dl_dat de_int) (da_cons (dl_dat (de_bin op_pow g_pow de_int de_int)) da_nil))))))))) (fun _ _ _ _ _ => (de_var 2))) (de_lst da_nil) (nomark _)) (dss_one (ds_ret (dl_dat de_bl))) dss_nil)
  (dss_one (ds_ret (dl_dat (de_cmp (op_eqP hr.units) g_eq (de_var 1) (de_val (dl_call (ok_l_closed M) (hr.mono (by decide)) M.g_l_closed M.F_l_closed.kp M.b_l_closed (takes_of rfl rfl rfl rfl) (da_cons (dl_dat (de_var 0)) (da_cons (dl_dat (de_var 1)) da_nil)))) (nomark _)))))))) h_l_is_beginning
theorem ok_l_deed (M : Md K mg) : FnOk P w K mg base (L2.CX P w) 3 M.f_l_deed M.d_l_deed ["_law_cart", "_law_wide"] (spD K 2 S_l_deed) :=
  fn_D M.F_l_deed sc_l_deed rfl (fun cdv A outer s H E hr => (dss_cons (ds_par2 2 3 rfl sc_l_deed.nd (da_cons (dl_dat (de_val (dl_call (ok_l_any M) (hr.mono (by decide)) M.g_l_any M.F_l_any.kp M.b_l_any (takes_of rfl rfl rfl rfl) (da_cons (dl_var 0) (da_cons (dl_dat (de_lst (da_cons (dl_dat de_str) (da_cons (dl_dat de_str) (da_cons (dl_dat de_str) (da_cons (dl_dat de_str) (da_cons (dl_dat de_str) (da_cons (dl_dat de_str) da_nil)))))))) da_nil))))) (da_cons (dl_dat (de_val (dl_call (ok_l_any M) (hr.mono (by decide)) M.g_l_any M.F_l_any.kp M.b_l_any (takes_of rfl rfl rfl rfl) (da_cons (dl_var 0) (da_cons (dl_dat (de_lst (da_cons (dl_dat de_int) (da_cons (dl_dat de_int) (da_cons (dl_dat (de_var 1)) da_nil))))) da_nil))))) da_nil)))
  (dss_cons (ds_if (dt_cmp (op_eqP hr.units) g_eq (de_var 2) de_str (nomark _)) (dss_one (ds_ret (dl_dat (de_tup (da_cons (dl_dat (de_var 2)) (da_cons (dl_dat (de_val (dl_call (ok_l_take M) (hr.mono (by decide)) M.g_l_take M.F_l_take.kp M.b_l_take (takes_of rfl rfl rfl rfl) (da_cons (dl_var 0) (da_cons (dl_dat (de_bin op_addA g_add (de_var 3) de_int)) da_nil))))) da_nil)))))) dss_nil)
  (dss_cons (ds_if (dt_cmp (op_eqP hr.units) g_eq (de_var 2) de_str (nomark _)) (dss_one (ds_ret (dl_dat (de_tup (da_cons (dl_dat (de_var 2)) (da_cons (dl_dat (de_bin op_addA g_add de_int (de_val (dl_call (ok_l_take M) (hr.mono (by decide)) M.g_l_take M.F_l_take.kp M.b_l_take (takes_of rfl rfl rfl rfl) (da_cons (dl_var 0) (da_cons (dl_dat (de_var 3)) da_nil)))))) da_nil)))))) dss_nil)
  (dss_one (ds_ret (dl_dat (de_tup (da_cons (dl_dat (de_var 2)) (da_cons (dl_dat (de_val (dl_call (ok_l_any M) (hr.mono (by decide)) M.g_l_any M.F_l_any.kp M.b_l_any (takes_of rfl rfl rfl rfl) (da_cons (dl_var 0) (da_cons (dl_dat (de_lst (da_cons (dl_dat de_int) (da_cons (dl_dat de_int) (da_cons (dl_dat de_int) (da_cons (dl_dat de_int) (da_cons (dl_dat de_int) (da_cons (dl_dat de_int) da_nil)))))))) da_nil))))) (da_cons (dl_dat (de_bin op_addA g_add de_int (de_val (dl_call (ok_l_take M) (hr.mono (by decide)) M.g_l_take M.F_l_take.kp M.b_l_take (takes_of rfl rfl rfl rfl) (da_cons (dl_var 0) (da_cons (dl_dat (de_var 3)) da_nil)))))) da_nil))))))))))) h_l_deed
theorem ok_l_rooms (M : Md K mg) : FnOk P w K mg base (L2.CX P w) 3 M.f_l_rooms M.d_l_rooms ["_law_cart", "_law_many", "_law_wide"] (spD K 3 S_l_rooms) :=
  fn_D M.F_l_rooms sc_l_rooms rfl (fun cdv A outer s H E hr => (dss_cons (ds_par2 4 5 rfl sc_l_rooms.nd (da_cons (dl_dat (de_tup da_nil)) (da_cons (dl_dat (de_val (dl_call (ok_l_take M) (hr.mono (by decide)) M.g_l_take M.F_l_take.kp M.b_l_take (takes_of rfl rfl rfl rfl) (da_cons (dl_var 0) (da_cons (dl_dat (de_bin op_addA g_add (de_var 2) de_int)) da_nil))))) da_nil)))
  (dss_cons (ds_for (passes_of rfl) rfl (di_range1 M.z_range (da_cons (dl_dat (de_var 1)) da_nil)) (dg_name 3 sc_l_rooms.nd) (dss_cons (ds_set 4 sc_l_rooms.nd (dl_dat (de_bin op_addA g_add (de_var 4) (de_tup (da_cons (dl_dat (de_var 5)) da_nil)))))
  (dss_one (ds_set 5 sc_l_rooms.nd (dl_dat (de_bin op_addA g_add (de_var 5) (de_val (dl_call (ok_l_any M) (hr.mono (by decide)) M.g_l_any M.F_l_any.kp M.b_l_any (takes_of rfl rfl rfl rfl) (da_cons (dl_var 0) (da_cons (dl_dat (de_lst (da_cons (dl_dat de_int) (da_cons (dl_dat de_int) (da_cons (dl_dat (de_val (dl_call (ok_l_take M) (hr.mono (by decide)) M.g_l_take M.F_l_take.kp M.b_l_take (takes_of rfl rfl rfl rfl) (da_cons (dl_var 0) (da_cons (dl_dat (de_bin op_addA g_add (de_var 2) de_int)) da_nil))))) da_nil))))) da_nil))))))))))
  (dss_one (ds_ret (dl_dat (de_var 4))))))) h_l_rooms
theorem ok_is_run (M : Md K mg) : FnOk P w K mg base (L2.CX P w) 3 M.f_is_run M.d_is_run ["value"] (spD K 1 S_is_run) :=
  fn_D M.F_is_run sc_is_run rfl (fun cdv A outer s H E hr => (dss_one (ds_ret (dl_dat (de_val (dl_call (ok_is_a_run M) (hr.mono (by decide)) M.g_is_a_run M.F_is_a_run.kp M.b_is_a_run (takes_of rfl rfl rfl rfl) (da_cons (dl_dat (de_var 0)) da_nil))))))) h_is_run
theorem ok_fits (M : Md K mg) : FnOk P w K mg base (L2.CX P w) 3 M.f_fits M.d_fits ["value"] (spD K 1 S_fits) :=
  fn_D M.F_fits sc_fits rfl (fun cdv A outer s H E hr => (dss_cons (ds_if (dw (dw_or (dt_not (dt_of (de_cb call_isi c_isi M.z_isinstance bt_isinstance (da_cons (dl_dat (de_var 0)) (da_cons (dl_dat (de_ty M.z_tuple bt_tuple)) da_nil))))) (dw_or (dt_cmp (op_neP hr.units) g_ne (de_len M.z_len (da_cons (dl_dat (de_var 0)) da_nil)) de_int (nomark _)) (dw_or1 (dt_not (dt_of (de_val (dl_call (ok_is_int M) (hr.mono (by decide)) M.g_is_int M.F_is_int.kp M.b_is_int (takes_of rfl rfl rfl rfl) (da_cons (dl_dat (de_ix (de_var 0) de_int)) (da_cons (dl_dat de_int) (da_cons (dl_dat (de_gint M.g_WIDEST)) da_nil))))))))))) (dss_one (ds_ret (dl_dat de_bl))) dss_nil)
  (dss_cons (ds_if (dw (dw_or (dt_not (dt_of (de_cb call_isi c_isi M.z_isinstance bt_isinstance (da_cons (dl_dat (de_ix (de_var 0) de_int)) (da_cons (dl_dat (de_ty M.z_tuple bt_tuple)) da_nil))))) (dw_or1 (dt_cmp op_gt g_gt (de_len M.z_len (da_cons (dl_dat (de_ix (de_var 0) de_int)) da_nil)) (de_gint M.g_MOST_RUNS) (nomark _))))) (dss_one (ds_ret (dl_dat de_bl))) dss_nil)
  (dss_one (ds_ret (dl_dat (de_cmp (op_eqP hr.units) g_eq (de_comp (own := [("run", 1)]) rfl sc_fits.nd (di_seq (de_ix (de_var 0) de_int)) (by kernel_rfl) (fun _ _ _ _ _ => (dg_name 1 sc_fits.nd)) (fun _ _ _ _ _ => (dts_one (dt_not (dt_of (de_val (dl_call (ok_is_a_run M) (hr.mono (by decide)) M.g_is_a_run M.F_is_a_run.kp M.b_is_a_run takes0' (da_cons (dl_dat (de_var 1)) da_nil))))))) (fun _ _ _ _ _ => (de_var 1))) (de_lst da_nil) (nomark _)))))))) h_fits
theorem ok_l_is_drill (M : Md K mg) : FnOk P w K mg base (L2.CX P w) 3 M.f_l_is_drill M.d_l_is_drill ["_law_value"] (spD K 1 S_l_is_drill) :=
  fn_D M.F_l_is_drill sc_l_is_drill rfl (fun cdv A outer s H E hr => (dss_cons (ds_if (dw (dw_or (dt_not (dt_of (de_cb call_isi c_isi M.z_isinstance bt_isinstance (da_cons (dl_dat (de_var 0)) (da_cons (dl_dat (de_ty M.z_tuple bt_tuple)) da_nil))))) (dw_or (dt_cmp (op_neP hr.units) g_ne (de_len M.z_len (da_cons (dl_dat (de_var 0)) da_nil)) de_int (nomark _)) (dw_or1 (dt_not (dt_of (de_val (dl_call (ok_l_int M) (hr.mono (by decide)) M.g_l_int M.F_l_int.kp M.b_l_int (takes_of rfl rfl rfl rfl) (da_cons (dl_dat (de_ix (de_var 0) de_int)) (da_cons (dl_dat de_int) (da_cons (dl_dat de_int) da_nil))))))))))) (dss_one (ds_ret (dl_dat de_bl))) dss_nil)
  (dss_cons (ds_if (dw (dw_or (dt_not (dt_of (de_cb call_isi c_isi M.z_isinstance bt_isinstance (da_cons (dl_dat (de_ix (de_var 0) de_int)) (da_cons (dl_dat (de_ty M.z_tuple bt_tuple)) da_nil))))) (dw_or1 (dt_cmp op_gt g_gt (de_len M.z_len (da_cons (dl_dat (de_ix (de_var 0) de_int)) da_nil)) de_int (nomark _))))) (dss_one (ds_ret (dl_dat de_bl))) dss_nil)
  (dss_one (ds_ret (dl_dat (de_cmp (op_eqP hr.units) g_eq (de_comp (own := [("_law_run", 1)]) rfl sc_l_is_drill.nd (di_seq (de_ix (de_var 0) de_int)) (by kernel_rfl) (fun _ _ _ _ _ => (dg_name 1 sc_l_is_drill.nd)) (fun _ _ _ _ _ => (dts_one (dt_not (dt_of (de_val (dl_call (ok_l_is_run M) (hr.mono (by decide)) M.g_l_is_run M.F_l_is_run.kp M.b_l_is_run takes0' (da_cons (dl_dat (de_var 1)) da_nil))))))) (fun _ _ _ _ _ => (de_var 1))) (de_lst da_nil) (nomark _)))))))) h_l_is_drill
theorem ok_l_deeds (M : Md K mg) : FnOk P w K mg base (L2.CX P w) 4 M.f_l_deeds M.d_l_deeds ["_law_cart", "_law_most", "_law_wide"] (spD K 3 S_l_deeds) :=
  fn_D M.F_l_deeds sc_l_deeds rfl (fun cdv A outer s H E hr => (dss_one (ds_ret (dl_dat (de_cty call_tuple_of c_tuple M.z_tuple bt_tuple (da_cons (dl_dat (de_comp (own := [("_law_turn", 3)]) rfl sc_l_deeds.nd (di_range1 M.z_range (da_cons (dl_dat (de_val (dl_call (ok_l_take M) (hr.mono (by decide)) M.g_l_take M.F_l_take.kp M.b_l_take (takes_of rfl rfl rfl rfl) (da_cons (dl_var 0) (da_cons (dl_dat (de_bin op_addA g_add (de_var 1) de_int)) da_nil))))) da_nil)) (by kernel_rfl) (fun _ _ _ _ _ => (dg_name 3 sc_l_deeds.nd)) (fun _ _ _ _ _ => dts_nil) (fun _ _ _ _ _ => (de_val (dl_call (ok_l_deed M) (hr.mono (by decide)) M.g_l_deed M.F_l_deed.kp M.b_l_deed takes0' (da_cons (dl_var 0) (da_cons (dl_dat (de_var 2)) da_nil))))))) da_nil)))))) h_l_deeds
theorem ok_is_drill (M : Md K mg) : FnOk P w K mg base (L2.CX P w) 4 M.f_is_drill M.d_is_drill ["value"] (spD K 1 S_is_drill) :=
  fn_D M.F_is_drill sc_is_drill rfl (fun cdv A outer s H E hr => (dss_one (ds_ret (dl_dat (de_val (dl_call (ok_fits M) (hr.mono (by decide)) M.g_fits M.F_fits.kp M.b_fits (takes_of rfl rfl rfl rfl) (da_cons (dl_dat (de_var 0)) da_nil))))))) h_is_drill
theorem ok_need_drill (M : Md K mg) : FnOk P w K mg base (L2.CX P w) 4 M.f_need_drill M.d_need_drill ["value"] (spD K 1 S_need_drill) :=
  fn_D M.F_need_drill sc_need_drill rfl (fun cdv A outer s H E hr => (dss_one (ds_if (dt_not (dt_of (de_val (dl_call (ok_fits M) (hr.mono (by decide)) M.g_fits M.F_fits.kp M.b_fits (takes_of rfl rfl rfl rfl) (da_cons (dl_dat (de_var 0)) da_nil))))) (dss_one ds_never) dss_nil))) h_need_drill
theorem ok_l_work (M : Md K mg) : FnOk P w K mg base (L2.CX P w) 5 M.f_l_work M.d_l_work ["_law_cart", "_law_most"] (spD K 2 S_l_work) :=
  fn_D M.F_l_work sc_l_work rfl (fun cdv A outer s H E hr => (dss_one (ds_ret (dl_dat (de_tup (da_cons (dl_dat (de_bin op_addA g_add de_int (de_val (dl_call (ok_l_take M) (hr.mono (by decide)) M.g_l_take M.F_l_take.kp M.b_l_take (takes_of rfl rfl rfl rfl) (da_cons (dl_var 0) (da_cons (dl_dat de_int) da_nil)))))) (da_cons (dl_dat (de_val (dl_call (ok_l_deeds M) (hr.mono (by decide)) M.g_l_deeds M.F_l_deeds.kp M.b_l_deeds (takes_of rfl rfl rfl rfl) (da_cons (dl_var 0) (da_cons (dl_dat (de_var 1)) (da_cons (dl_dat (de_val (dl_call (ok_l_any M) (hr.mono (by decide)) M.g_l_any M.F_l_any.kp M.b_l_any (takes_of rfl rfl rfl rfl) (da_cons (dl_var 0) (da_cons (dl_dat (de_lst (da_cons (dl_dat de_int) (da_cons (dl_dat de_int) (da_cons (dl_dat (de_bin op_pow g_pow de_int de_int)) da_nil))))) da_nil))))) da_nil)))))) da_nil))))))) h_l_work
theorem ok_is_beginning (M : Md K mg) : FnOk P w K mg base (L2.CX P w) 5 M.f_is_beginning M.d_is_beginning ["drill", "value"] (spD K 2 S_is_beginning) :=
  fn_D M.F_is_beginning sc_is_beginning rfl (fun cdv A outer s H E hr => (dss_cons (ds_expr (dl_call (ok_need_drill M) (hr.mono (by decide)) M.g_need_drill M.F_need_drill.kp M.b_need_drill (takes_of rfl rfl rfl rfl) (da_cons (dl_dat (de_var 0)) da_nil)))
  (dss_one (ds_ret (dl_dat (de_val (dl_call (ok_begins M) (hr.mono (by decide)) M.g_begins M.F_begins.kp M.b_begins (takes_of rfl rfl rfl rfl) (da_cons (dl_dat (de_ix (de_var 0) de_int)) (da_cons (dl_dat (de_var 1)) da_nil))))))))) h_is_beginning
theorem ok_l_bent (M : Md K mg) : ∀ d : Nat, FnOk P w K mg base (L2.CX P w) (d + 3) M.f_l_bent M.d_l_bent ["_law_cart", "_law_value"] (spD K 2 (S_l_bent d))
  | 0 => fn_none fun _ _ _ _ h => h
  | d + 1 => by
    have ih := ok_l_bent M d
    exact fn_D M.F_l_bent sc_l_bent rfl (fun cdv A outer s H E hr => (dss_cons (ds_set 2 sc_l_bent.nd (dl_dat (de_val (dl_call (ok_l_take M) (hr.mono (by omega)) M.g_l_take M.F_l_take.kp M.b_l_take (takes_of rfl rfl rfl rfl) (da_cons (dl_var 0) (da_cons (dl_dat de_int) da_nil))))))
  (dss_cons (ds_if (dw (dw_and (dt_of (de_cb call_isi c_isi M.z_isinstance bt_isinstance (da_cons (dl_dat (de_var 1)) (da_cons (dl_dat (de_ty M.z_tuple bt_tuple)) da_nil)))) (dw_and (dt_cmp (op_neP hr.units) g_ne (de_var 1) (de_tup da_nil) (nomark _)) (dw_and1 (dt_cmp op_gt g_gt (de_var 2) de_int (nomark _)))))) (dss_cons (ds_set 4 sc_l_bent.nd (dl_dat (de_val (dl_call (ok_l_take M) (hr.mono (by omega)) M.g_l_take M.F_l_take.kp M.b_l_take (takes_of rfl rfl rfl rfl) (da_cons (dl_var 0) (da_cons (dl_dat (de_len M.z_len (da_cons (dl_dat (de_var 1)) da_nil))) da_nil))))))
  (dss_cons (ds_if (dt_cmp (op_eqP hr.units) g_eq (de_var 2) de_int (nomark _)) (dss_one (ds_ret (dl_dat (de_bin op_addA g_add (de_sl (de_var 1) do_none (do_some (de_var 4))) (de_sl (de_var 1) (do_some (de_bin op_addA g_add (de_var 4) de_int)) do_none))))) dss_nil)
  (dss_cons (ds_if (dt_cmp (op_eqP hr.units) g_eq (de_var 2) de_int (nomark _)) (dss_one (ds_ret (dl_dat (de_bin op_addA g_add (de_sl (de_var 1) do_none (do_some (de_bin op_addA g_add (de_var 4) de_int))) (de_sl (de_var 1) (do_some (de_var 4)) do_none))))) dss_nil)
  (dss_one (ds_ret (dl_dat (de_bin op_addA g_add (de_bin op_addA g_add (de_sl (de_var 1) do_none (do_some (de_var 4))) (de_tup (da_cons (dl_dat (de_val (dl_call ih (hr.mono (by omega)) M.g_l_bent M.F_l_bent.kp M.b_l_bent (takes_of rfl rfl rfl rfl) (da_cons (dl_var 0) (da_cons (dl_dat (de_ix (de_var 1) (de_var 4))) da_nil))))) da_nil))) (de_sl (de_var 1) (do_some (de_bin op_addA g_add (de_var 4) de_int)) do_none)))))))) dss_nil)
  (dss_cons (ds_set 3 sc_l_bent.nd (dl_dat (de_lst (da_cons (dl_dat de_non) (da_cons (dl_dat de_bl) (da_cons (dl_dat de_bl) (da_cons (dl_dat de_int) (da_cons (dl_dat de_int) (da_cons (dl_dat de_int) (da_cons (dl_dat de_int) (da_cons (dl_dat (de_neg de_int)) (da_cons (dl_dat de_int) (da_cons (dl_dat (de_bin op_pow g_pow de_int de_int)) (da_cons (dl_dat (de_bin op_addA g_add (de_bin op_pow g_pow de_int de_int) de_int)) (da_cons (dl_dat (de_bin op_pow g_pow de_int de_int)) (da_cons (dl_dat (de_bin op_addA g_add (de_bin op_pow g_pow de_int de_int) de_int)) da_nil))))))))))))))))
  (dss_one (ds_ret (dl_dat (de_val (dl_call (ok_l_any M) (hr.mono (by omega)) M.g_l_any M.F_l_any.kp M.b_l_any (takes_of rfl rfl rfl rfl) (da_cons (dl_var 0) (da_cons (dl_dat (de_bin op_addA g_add (de_var 3) (de_lst (da_cons (dl_dat de_str) (da_cons (dl_dat de_str) (da_cons (dl_dat de_str) (da_cons (dl_dat de_str) (da_cons (dl_dat de_str) (da_cons (dl_dat de_str) (da_cons (dl_dat (de_tup da_nil)) (da_cons (dl_dat (de_lst da_nil)) (da_cons (dl_dat (de_tup (da_cons (dl_dat de_str) (da_cons (dl_dat de_int) da_nil)))) (da_cons (dl_dat (de_tup (da_cons (dl_dat de_int) (da_cons (dl_dat de_int) da_nil)))) da_nil))))))))))))) da_nil))))))))))) (h_l_bent d)
theorem ok_law (M : Md K mg) : FnOk P w K mg base (L2.CX P w) 24 M.f_law M.d_law ["_law_script"] (spD K 1 S_law) :=
  fn_D M.F_law sc_law rfl (fun cdv A outer s H E hr => (dss_cons (ds_for (passes_of rfl) rfl (di_range1 M.z_range (da_cons (dl_dat (de_bin op_addA g_add de_int (de_cb (call_min2 rfl) c_min2 M.z_min bt_min (da_cons (dl_dat (de_len M.z_len (da_cons (dl_dat (de_var 0)) da_nil))) (da_cons (dl_dat de_int) da_nil))))) da_nil)) (dg_name 1 sc_law.nd) (dss_cons (ds_set 5 sc_law.nd (dl_call (ok_l_cart_of M) (hr.mono (by decide)) M.g_l_cart_of M.F_l_cart_of.kp M.b_l_cart_of (takes_of rfl rfl rfl rfl) (da_cons (dl_dat (de_var 0)) (da_cons (dl_dat (de_var 1)) da_nil))))
  (dss_cons (ds_set 6 sc_law.nd (dl_dat (de_val (dl_call (ok_l_work M) (hr.mono (by decide)) M.g_l_work M.F_l_work.kp M.b_l_work (takes_of rfl rfl rfl rfl) (da_cons (dl_var 5) (da_cons (dl_dat de_int) da_nil))))))
  (dss_cons (ds_set 7 sc_law.nd (dl_dat (de_val (dl_call (ok_l_at M) (hr.mono (by decide)) M.g_l_at M.F_l_at.kp M.b_l_at (takes_of rfl rfl rfl rfl) (da_cons (dl_dat (de_ix (de_var 6) de_int)) (da_cons (dl_dat (de_val (dl_call (ok_l_rooms M) (hr.mono (by decide)) M.g_l_rooms M.F_l_rooms.kp M.b_l_rooms (takes_of rfl rfl rfl rfl) (da_cons (dl_var 5) (da_cons (dl_dat (de_bin op_addA g_add de_int (de_val (dl_call (ok_l_take M) (hr.mono (by decide)) M.g_l_take M.F_l_take.kp M.b_l_take (takes_of rfl rfl rfl rfl) (da_cons (dl_var 5) (da_cons (dl_dat de_int) da_nil)))))) (da_cons (dl_dat de_int) da_nil)))))) da_nil))))))
  (dss_cons (ds_if (dw (dw_or (dt_cmp op_notBl g_notB (de_val (dl_call (ok_is_drill M) (hr.mono (by decide)) M.g_is_drill M.F_is_drill.kp M.b_is_drill (takes_of rfl rfl rfl rfl) (da_cons (dl_dat (de_cty call_list_of c_list M.z_list bt_list (da_cons (dl_dat (de_var 6)) da_nil))) da_nil))) de_bl (nomark _)) (dw_or1 (dt_cmp op_notBl g_notB (de_val (dl_call (ok_is_beginning M) (hr.mono (by decide)) M.g_is_beginning M.F_is_beginning.kp M.b_is_beginning (takes_of rfl rfl rfl rfl) (da_cons (dl_dat (de_var 6)) (da_cons (dl_dat (de_cty call_list_of c_list M.z_list bt_list (da_cons (dl_dat (de_var 7)) da_nil))) da_nil)))) de_bl (nomark _))))) (dss_one (ds_ret (dl_dat de_bl))) dss_nil)
  (dss_cons (ds_par3 9 10 11 rfl sc_law.nd (da_cons (dl_dat (de_var 6)) (da_cons (dl_dat (de_var 7)) (da_cons (dl_dat (de_val (dl_call (ok_l_deed M) (hr.mono (by decide)) M.g_l_deed M.F_l_deed.kp M.b_l_deed (takes_of rfl rfl rfl rfl) (da_cons (dl_var 5) (da_cons (dl_dat de_int) da_nil))))) da_nil))))
  (dss_one (ds_for (passes_of rfl) rfl (di_range1 M.z_range (da_cons (dl_dat de_int) da_nil)) (dg_name 8 sc_law.nd) (dss_cons (ds_set 12 sc_law.nd (dl_dat (de_lst (da_cons (dl_dat (de_val (dl_call (ok_is_drill M) (hr.mono (by decide)) M.g_is_drill M.F_is_drill.kp M.b_is_drill (takes_of rfl rfl rfl rfl) (da_cons (dl_dat (de_var 9)) da_nil)))) (da_cons (dl_dat (de_val (dl_call (ok_is_beginning M) (hr.mono (by decide)) M.g_is_beginning M.F_is_beginning.kp M.b_is_beginning (takes_of rfl rfl rfl rfl) (da_cons (dl_dat (de_var 6)) (da_cons (dl_dat (de_var 10)) da_nil))))) (da_cons (dl_dat (de_val (dl_call (ok_is_run M) (hr.mono (by decide)) M.g_is_run M.F_is_run.kp M.b_is_run (takes_of rfl rfl rfl rfl) (da_cons (dl_dat (de_var 11)) da_nil)))) da_nil))))))
  (dss_cons (ds_if (dt_cmp (op_neP hr.units) g_ne (de_comp (own := [("_law_word", 14)]) rfl sc_law.nd (di_seq (de_var 12)) (by kernel_rfl) (fun _ _ _ _ _ => (dg_name 14 sc_law.nd)) (fun _ _ _ _ _ => (dts_one (dt_not (dt_of (de_cb call_isi c_isi M.z_isinstance bt_isinstance (da_cons (dl_dat (de_var 14)) (da_cons (dl_dat (de_ty M.z_bool bt_bool)) da_nil))))))) (fun _ _ _ _ _ => (de_var 14))) (de_lst da_nil) (nomark _)) (dss_one (ds_ret (dl_dat de_bl))) dss_nil)
  (dss_cons (ds_if (dt_cmp (op_neP hr.units) g_ne (de_var 12) (de_lst (da_cons (dl_dat (de_val (dl_call (ok_l_is_drill M) (hr.mono (by decide)) M.g_l_is_drill M.F_l_is_drill.kp M.b_l_is_drill (takes_of rfl rfl rfl rfl) (da_cons (dl_dat (de_var 9)) da_nil)))) (da_cons (dl_dat (de_val (dl_call (ok_l_is_beginning M) (hr.mono (by decide)) M.g_l_is_beginning M.F_l_is_beginning.kp M.b_l_is_beginning (takes_of rfl rfl rfl rfl) (da_cons (dl_dat (de_ix (de_var 6) de_int)) (da_cons (dl_dat (de_var 10)) da_nil))))) (da_cons (dl_dat (de_val (dl_call (ok_l_is_run M) (hr.mono (by decide)) M.g_l_is_run M.F_l_is_run.kp M.b_l_is_run (takes_of rfl rfl rfl rfl) (da_cons (dl_dat (de_var 11)) da_nil)))) da_nil)))) (nomark _)) (dss_one (ds_ret (dl_dat de_bl))) dss_nil)
  (dss_cons (ds_set 9 sc_law.nd (dl_dat (de_val (dl_call (ok_l_bent M 20) (hr.mono (by decide)) M.g_l_bent M.F_l_bent.kp M.b_l_bent (takes_of rfl rfl rfl rfl) (da_cons (dl_var 5) (da_cons (dl_dat (de_if (dt_cmp (op_eqP hr.units) g_eq (de_bin op_mod g_mod (de_var 8) de_int) de_int (nomark _)) (de_var 6) (de_var 9))) da_nil))))))
  (dss_cons (ds_set 10 sc_law.nd (dl_dat (de_val (dl_call (ok_l_bent M 20) (hr.mono (by decide)) M.g_l_bent M.F_l_bent.kp M.b_l_bent (takes_of rfl rfl rfl rfl) (da_cons (dl_var 5) (da_cons (dl_dat (de_if (dt_cmp (op_eqP hr.units) g_eq (de_bin op_mod g_mod (de_var 8) de_int) de_int (nomark _)) (de_var 7) (de_var 10))) da_nil))))))
  (dss_one (ds_set 11 sc_law.nd (dl_dat (de_val (dl_call (ok_l_bent M 20) (hr.mono (by decide)) M.g_l_bent M.F_l_bent.kp M.b_l_bent (takes_of rfl rfl rfl rfl) (da_cons (dl_var 5) (da_cons (dl_dat (de_if (dt_cmp (op_eqP hr.units) g_eq (de_bin op_mod g_mod (de_var 8) de_int) de_int (nomark _)) (de_val (dl_call (ok_l_deed M) (hr.mono (by decide)) M.g_l_deed M.F_l_deed.kp M.b_l_deed (takes_of rfl rfl rfl rfl) (da_cons (dl_var 5) (da_cons (dl_dat de_int) da_nil)))) (de_var 11))) da_nil))))))))))))))))))))
  (dss_cons (ds_set 2 sc_law.nd (dl_dat (de_lst (da_cons (dl_dat (de_tup (da_cons (dl_dat de_str) (da_cons (dl_dat de_int) da_nil)))) (da_cons (dl_dat (de_tup (da_cons (dl_dat de_str) (da_cons (dl_dat (de_bin op_pow g_pow de_int de_int)) da_nil)))) (da_cons (dl_dat (de_tup (da_cons (dl_dat de_str) (da_cons (dl_dat de_int) da_nil)))) (da_cons (dl_dat (de_tup (da_cons (dl_dat de_str) (da_cons (dl_dat de_int) (da_cons (dl_dat de_int) da_nil))))) (da_cons (dl_dat (de_tup (da_cons (dl_dat de_str) (da_cons (dl_dat de_int) (da_cons (dl_dat (de_bin op_pow g_pow de_int de_int)) da_nil))))) (da_cons (dl_dat (de_tup (da_cons (dl_dat de_str) (da_cons (dl_dat (de_neg de_int)) da_nil)))) (da_cons (dl_dat (de_tup (da_cons (dl_dat de_str) (da_cons (dl_dat de_int) da_nil)))) da_nil))))))))))
  (dss_cons (ds_set 2 sc_law.nd (dl_dat (de_bin op_addA g_add (de_var 2) (de_lst (da_cons (dl_dat (de_tup (da_cons (dl_dat de_str) (da_cons (dl_dat de_int) (da_cons (dl_dat de_int) da_nil))))) (da_cons (dl_dat (de_tup (da_cons (dl_dat de_str) (da_cons (dl_dat (de_neg de_int)) (da_cons (dl_dat de_int) da_nil))))) (da_cons (dl_dat (de_tup (da_cons (dl_dat de_str) (da_cons (dl_dat de_int) (da_cons (dl_dat de_int) da_nil))))) (da_cons (dl_dat (de_tup (da_cons (dl_dat de_str) (da_cons (dl_dat de_int) (da_cons (dl_dat de_int) da_nil))))) (da_cons (dl_dat (de_tup (da_cons (dl_dat de_str) da_nil))) (da_cons (dl_dat (de_tup (da_cons (dl_dat de_str) (da_cons (dl_dat de_int) da_nil)))) (da_cons (dl_dat (de_tup da_nil)) (da_cons (dl_dat de_str) da_nil))))))))))))
  (dss_cons (ds_if (dt_cmp (op_neP hr.units) g_ne (de_comp (own := [("_law_run", 13)]) rfl sc_law.nd (di_seq (de_var 2)) (by kernel_rfl) (fun _ _ _ _ _ => (dg_name 13 sc_law.nd)) (fun _ _ _ _ _ => dts_nil) (fun _ _ _ _ _ => (de_val (dl_call (ok_is_run M) (hr.mono (by decide)) M.g_is_run M.F_is_run.kp M.b_is_run takes0' (da_cons (dl_dat (de_var 13)) da_nil))))) (de_bin op_addA g_add (de_bin op_mulB g_mulB (de_lst (da_cons (dl_dat de_bl) da_nil)) de_int) (de_bin op_mulB g_mulB (de_lst (da_cons (dl_dat de_bl) da_nil)) de_int)) (nomark _)) (dss_one (ds_ret (dl_dat de_bl))) dss_nil)
  (dss_cons (ds_set 3 sc_law.nd (dl_dat (de_lst (da_cons (dl_dat (de_tup (da_cons (dl_dat de_int) (da_cons (dl_dat (de_tup da_nil)) da_nil)))) (da_cons (dl_dat (de_tup (da_cons (dl_dat de_int) (da_cons (dl_dat (de_bin op_mulB g_mulB (de_tup (da_cons (dl_dat (de_tup (da_cons (dl_dat de_str) (da_cons (dl_dat de_int) da_nil)))) da_nil)) de_int)) da_nil)))) (da_cons (dl_dat (de_tup (da_cons (dl_dat de_int) (da_cons (dl_dat (de_tup da_nil)) da_nil)))) (da_cons (dl_dat (de_tup (da_cons (dl_dat de_int) (da_cons (dl_dat (de_tup da_nil)) da_nil)))) (da_cons (dl_dat (de_tup (da_cons (dl_dat de_int) (da_cons (dl_dat (de_bin op_mulB g_mulB (de_tup (da_cons (dl_dat (de_tup (da_cons (dl_dat de_str) (da_cons (dl_dat de_int) da_nil)))) da_nil)) de_int)) da_nil)))) (da_cons (dl_dat (de_tup (da_cons (dl_dat de_int) (da_cons (dl_dat (de_lst (da_cons (dl_dat (de_tup (da_cons (dl_dat de_str) (da_cons (dl_dat de_int) da_nil)))) da_nil))) da_nil)))) (da_cons (dl_dat (de_tup (da_cons (dl_dat de_int) (da_cons (dl_dat (de_tup (da_cons (dl_dat de_str) (da_cons (dl_dat de_int) da_nil)))) da_nil)))) da_nil))))))))))
  (dss_cons (ds_if (dt_cmp (op_neP hr.units) g_ne (de_comp (own := [("_law_work_here", 6)]) rfl sc_law.nd (di_seq (de_var 3)) (by kernel_rfl) (fun _ _ _ _ _ => (dg_name 6 sc_law.nd)) (fun _ _ _ _ _ => dts_nil) (fun _ _ _ _ _ => (de_val (dl_call (ok_is_drill M) (hr.mono (by decide)) M.g_is_drill M.F_is_drill.kp M.b_is_drill takes0' (da_cons (dl_dat (de_var 6)) da_nil))))) (de_bin op_addA g_add (de_lst (da_cons (dl_dat de_bl) (da_cons (dl_dat de_bl) da_nil))) (de_bin op_mulB g_mulB (de_lst (da_cons (dl_dat de_bl) da_nil)) de_int)) (nomark _)) (dss_one (ds_ret (dl_dat de_bl))) dss_nil)
  (dss_cons (ds_set 4 sc_law.nd (dl_dat (de_lst (da_cons (dl_dat (de_tup (da_cons (dl_dat de_int) da_nil))) (da_cons (dl_dat (de_tup (da_cons (dl_dat (de_bin op_pow g_pow de_int de_int)) da_nil))) (da_cons (dl_dat (de_tup (da_cons (dl_dat de_int) (da_cons (dl_dat de_int) da_nil)))) (da_cons (dl_dat (de_val (dl_call (ok_l_at M) (hr.mono (by decide)) M.g_l_at M.F_l_at.kp M.b_l_at (takes_of rfl rfl rfl rfl) (da_cons (dl_dat de_int) (da_cons (dl_dat (de_bin op_mulB g_mulB (de_tup (da_cons (dl_dat de_int) da_nil)) de_int)) da_nil))))) (da_cons (dl_dat (de_tup (da_cons (dl_dat de_int) (da_cons (dl_dat de_int) da_nil)))) (da_cons (dl_dat (de_tup da_nil)) (da_cons (dl_dat (de_val (dl_call (ok_l_at M) (hr.mono (by decide)) M.g_l_at M.F_l_at.kp M.b_l_at (takes_of rfl rfl rfl rfl) (da_cons (dl_dat de_int) (da_cons (dl_dat (de_bin op_mulB g_mulB (de_tup (da_cons (dl_dat de_int) da_nil)) de_int)) da_nil))))) (da_cons (dl_dat (de_tup (da_cons (dl_dat (de_neg de_int)) da_nil))) (da_cons (dl_dat (de_tup (da_cons (dl_dat de_int) (da_cons (dl_dat de_int) da_nil)))) da_nil))))))))))))
  (dss_one (ds_ret (dl_dat (de_cmp (op_eqP hr.units) g_eq (de_comp (own := [("_law_one", 9)]) rfl sc_law.nd (di_seq (de_var 4)) (by kernel_rfl) (fun _ _ _ _ _ => (dg_name 9 sc_law.nd)) (fun _ _ _ _ _ => dts_nil) (fun _ _ _ _ _ => (de_val (dl_call (ok_is_beginning M) (hr.mono (by decide)) M.g_is_beginning M.F_is_beginning.kp M.b_is_beginning takes0' (da_cons (dl_dat (de_tup (da_cons (dl_dat de_int) (da_cons (dl_dat (de_tup da_nil)) da_nil)))) (da_cons (dl_dat (de_var 9)) da_nil)))))) (de_bin op_addA g_add (de_bin op_mulB g_mulB (de_lst (da_cons (dl_dat de_bl) da_nil)) de_int) (de_bin op_mulB g_mulB (de_lst (da_cons (dl_dat de_bl) da_nil)) de_int)) (nomark _))))))))))))) h_law
end
theorem all_mk {l : PySem.W.OpenLaw} {w : World} {K : PySem.W.Frag} {h : Heap} {mg : Str → Option Value} {fa f0 f1 f2 f3 f4 f5 f6 f7 f8 f9 f10 f11 f12 f13 f14 f15 f16 f17 f18 f19 f20 f21 f22 : Addr} (X : K.In h) (G : h.Ns mainGlobals mg) (hfa : mg "law" = some (.ref fa))
    {od0 od1 od2 od3 od4 od5 od6 od7 od8 od9 od10 od11 od12 od13 od14 od15 od16 od17 od18 od19 od20 od21 od22 an0 an1 an2 an3 an4 an5 an6 an7 an8 an9 an10 an11 an12 an13 an14 an15 an16 an17 an18 an19 an20 an21 an22 : Option Addr} {sl0 sl1 sl2 sl3 sl4 sl5 sl6 sl7 sl8 sl9 sl10 sl11 sl12 sl13 sl14 sl15 sl16 sl17 sl18 sl19 sl20 sl21 sl22 : Array (Option Value)} {oc0 oc1 oc2 oc3 oc4 oc5 oc6 oc7 oc8 oc9 oc10 oc11 oc12 oc13 oc14 oc15 oc16 oc17 oc18 oc19 oc20 oc21 oc22 kV0 kV1 kV2 kV3 kV4 kV5 kV6 kV7 kV8 kV9 kV10 kV11 kV12 kV13 kV14 kV15 kV16 kV17 kV18 kV19 kV20 kV21 kV22 dc0 dc1 dc2 dc3 dc4 dc5 dc6 dc7 dc8 dc9 dc10 dc11 dc12 dc13 dc14 dc15 dc16 dc17 dc18 dc19 dc20 dc21 dc22 pm0 pm1 pm2 pm3 pm4 pm5 pm6 pm7 pm8 pm9 pm10 pm11 pm12 pm13 pm14 pm15 pm16 pm17 pm18 pm19 pm20 pm21 pm22 cd0 cd1 cd2 cd3 cd4 cd5 cd6 cd7 cd8 cd9 cd10 cd11 cd12 cd13 cd14 cd15 cd16 cd17 cd18 cd19 cd20 cd21 cd22 ct0 ct1 ct2 ct3 ct4 ct5 ct6 ct7 ct8 ct9 ct10 ct11 ct12 ct13 ct14 ct15 ct16 ct17 ct18 ct19 ct20 ct21 ct22 : Value} {t_GREAT t_FAR t_MOST_RUNS t_MOST_SHEEP t_WIDEST t_DEEPEST : Tok}
    (a0 : PySem.W.nsIn K mainGlobals "_law_cart_of" = some (some (.ref f0)))
    (l0 : K.lookup f0 = some ⟨oc0, od0, .func (PySem.W.fnOf "_law_cart_of" "_law_cart_of" (defArgs s_l_cart_of) (defBody s_l_cart_of) (defScope s_l_cart_of) .none kV0 dc0 pm0 an0 cd0 ct0), sl0⟩)
    (c0 : PySem.W.codeIn K cd0 "_law_cart_of" = true)
    (k0 : PySem.W.keepIn K (.ref f0) = true)
    (a1 : PySem.W.nsIn K mainGlobals "_law_take" = some (some (.ref f1)))
    (l1 : K.lookup f1 = some ⟨oc1, od1, .func (PySem.W.fnOf "_law_take" "_law_take" (defArgs s_l_take) (defBody s_l_take) (defScope s_l_take) .none kV1 dc1 pm1 an1 cd1 ct1), sl1⟩)
    (c1 : PySem.W.codeIn K cd1 "_law_take" = true)
    (k1 : PySem.W.keepIn K (.ref f1) = true)
    (a2 : PySem.W.nsIn K mainGlobals "_law_any" = some (some (.ref f2)))
    (l2 : K.lookup f2 = some ⟨oc2, od2, .func (PySem.W.fnOf "_law_any" "_law_any" (defArgs s_l_any) (defBody s_l_any) (defScope s_l_any) .none kV2 dc2 pm2 an2 cd2 ct2), sl2⟩)
    (c2 : PySem.W.codeIn K cd2 "_law_any" = true)
    (k2 : PySem.W.keepIn K (.ref f2) = true)
    (a3 : PySem.W.nsIn K mainGlobals "_law_deed" = some (some (.ref f3)))
    (l3 : K.lookup f3 = some ⟨oc3, od3, .func (PySem.W.fnOf "_law_deed" "_law_deed" (defArgs s_l_deed) (defBody s_l_deed) (defScope s_l_deed) .none kV3 dc3 pm3 an3 cd3 ct3), sl3⟩)
    (c3 : PySem.W.codeIn K cd3 "_law_deed" = true)
    (k3 : PySem.W.keepIn K (.ref f3) = true)
    (a4 : PySem.W.nsIn K mainGlobals "_law_deeds" = some (some (.ref f4)))
    (l4 : K.lookup f4 = some ⟨oc4, od4, .func (PySem.W.fnOf "_law_deeds" "_law_deeds" (defArgs s_l_deeds) (defBody s_l_deeds) (defScope s_l_deeds) .none kV4 dc4 pm4 an4 cd4 ct4), sl4⟩)
    (c4 : PySem.W.codeIn K cd4 "_law_deeds" = true)
    (k4 : PySem.W.keepIn K (.ref f4) = true)
    (a5 : PySem.W.nsIn K mainGlobals "_law_work" = some (some (.ref f5)))
    (l5 : K.lookup f5 = some ⟨oc5, od5, .func (PySem.W.fnOf "_law_work" "_law_work" (defArgs s_l_work) (defBody s_l_work) (defScope s_l_work) .none kV5 dc5 pm5 an5 cd5 ct5), sl5⟩)
    (c5 : PySem.W.codeIn K cd5 "_law_work" = true)
    (k5 : PySem.W.keepIn K (.ref f5) = true)
    (a6 : PySem.W.nsIn K mainGlobals "_law_at" = some (some (.ref f6)))
    (l6 : K.lookup f6 = some ⟨oc6, od6, .func (PySem.W.fnOf "_law_at" "_law_at" (defArgs s_l_at) (defBody s_l_at) (defScope s_l_at) .none kV6 dc6 pm6 an6 cd6 ct6), sl6⟩)
    (c6 : PySem.W.codeIn K cd6 "_law_at" = true)
    (k6 : PySem.W.keepIn K (.ref f6) = true)
    (a7 : PySem.W.nsIn K mainGlobals "_law_rooms" = some (some (.ref f7)))
    (l7 : K.lookup f7 = some ⟨oc7, od7, .func (PySem.W.fnOf "_law_rooms" "_law_rooms" (defArgs s_l_rooms) (defBody s_l_rooms) (defScope s_l_rooms) .none kV7 dc7 pm7 an7 cd7 ct7), sl7⟩)
    (c7 : PySem.W.codeIn K cd7 "_law_rooms" = true)
    (k7 : PySem.W.keepIn K (.ref f7) = true)
    (a8 : PySem.W.nsIn K mainGlobals "_law_bent" = some (some (.ref f8)))
    (l8 : K.lookup f8 = some ⟨oc8, od8, .func (PySem.W.fnOf "_law_bent" "_law_bent" (defArgs s_l_bent) (defBody s_l_bent) (defScope s_l_bent) .none kV8 dc8 pm8 an8 cd8 ct8), sl8⟩)
    (c8 : PySem.W.codeIn K cd8 "_law_bent" = true)
    (k8 : PySem.W.keepIn K (.ref f8) = true)
    (a9 : PySem.W.nsIn K mainGlobals "is_int" = some (some (.ref f9)))
    (l9 : K.lookup f9 = some ⟨oc9, od9, .func (PySem.W.fnOf "is_int" "is_int" (defArgs s_is_int) (defBody s_is_int) (defScope s_is_int) .none kV9 dc9 pm9 an9 cd9 ct9), sl9⟩)
    (c9 : PySem.W.codeIn K cd9 "is_int" = true)
    (k9 : PySem.W.keepIn K (.ref f9) = true)
    (a10 : PySem.W.nsIn K mainGlobals "is_a_run" = some (some (.ref f10)))
    (l10 : K.lookup f10 = some ⟨oc10, od10, .func (PySem.W.fnOf "is_a_run" "is_a_run" (defArgs s_is_a_run) (defBody s_is_a_run) (defScope s_is_a_run) .none kV10 dc10 pm10 an10 cd10 ct10), sl10⟩)
    (c10 : PySem.W.codeIn K cd10 "is_a_run" = true)
    (k10 : PySem.W.keepIn K (.ref f10) = true)
    (a11 : PySem.W.nsIn K mainGlobals "is_run" = some (some (.ref f11)))
    (l11 : K.lookup f11 = some ⟨oc11, od11, .func (PySem.W.fnOf "is_run" "is_run" (defArgs s_is_run) (defBody s_is_run) (defScope s_is_run) .none kV11 dc11 pm11 an11 cd11 ct11), sl11⟩)
    (c11 : PySem.W.codeIn K cd11 "is_run" = true)
    (k11 : PySem.W.keepIn K (.ref f11) = true)
    (a12 : PySem.W.nsIn K mainGlobals "fits" = some (some (.ref f12)))
    (l12 : K.lookup f12 = some ⟨oc12, od12, .func (PySem.W.fnOf "fits" "fits" (defArgs s_fits) (defBody s_fits) (defScope s_fits) .none kV12 dc12 pm12 an12 cd12 ct12), sl12⟩)
    (c12 : PySem.W.codeIn K cd12 "fits" = true)
    (k12 : PySem.W.keepIn K (.ref f12) = true)
    (a13 : PySem.W.nsIn K mainGlobals "is_drill" = some (some (.ref f13)))
    (l13 : K.lookup f13 = some ⟨oc13, od13, .func (PySem.W.fnOf "is_drill" "is_drill" (defArgs s_is_drill) (defBody s_is_drill) (defScope s_is_drill) .none kV13 dc13 pm13 an13 cd13 ct13), sl13⟩)
    (c13 : PySem.W.codeIn K cd13 "is_drill" = true)
    (k13 : PySem.W.keepIn K (.ref f13) = true)
    (a14 : PySem.W.nsIn K mainGlobals "need_drill" = some (some (.ref f14)))
    (l14 : K.lookup f14 = some ⟨oc14, od14, .func (PySem.W.fnOf "need_drill" "need_drill" (defArgs s_need_drill) (defBody s_need_drill) (defScope s_need_drill) .none kV14 dc14 pm14 an14 cd14 ct14), sl14⟩)
    (c14 : PySem.W.codeIn K cd14 "need_drill" = true)
    (k14 : PySem.W.keepIn K (.ref f14) = true)
    (a15 : PySem.W.nsIn K mainGlobals "begins" = some (some (.ref f15)))
    (l15 : K.lookup f15 = some ⟨oc15, od15, .func (PySem.W.fnOf "begins" "begins" (defArgs s_begins) (defBody s_begins) (defScope s_begins) .none kV15 dc15 pm15 an15 cd15 ct15), sl15⟩)
    (c15 : PySem.W.codeIn K cd15 "begins" = true)
    (k15 : PySem.W.keepIn K (.ref f15) = true)
    (a16 : PySem.W.nsIn K mainGlobals "is_beginning" = some (some (.ref f16)))
    (l16 : K.lookup f16 = some ⟨oc16, od16, .func (PySem.W.fnOf "is_beginning" "is_beginning" (defArgs s_is_beginning) (defBody s_is_beginning) (defScope s_is_beginning) .none kV16 dc16 pm16 an16 cd16 ct16), sl16⟩)
    (c16 : PySem.W.codeIn K cd16 "is_beginning" = true)
    (k16 : PySem.W.keepIn K (.ref f16) = true)
    (a17 : PySem.W.nsIn K mainGlobals "_law_int" = some (some (.ref f17)))
    (l17 : K.lookup f17 = some ⟨oc17, od17, .func (PySem.W.fnOf "_law_int" "_law_int" (defArgs s_l_int) (defBody s_l_int) (defScope s_l_int) .none kV17 dc17 pm17 an17 cd17 ct17), sl17⟩)
    (c17 : PySem.W.codeIn K cd17 "_law_int" = true)
    (k17 : PySem.W.keepIn K (.ref f17) = true)
    (a18 : PySem.W.nsIn K mainGlobals "_law_is_run" = some (some (.ref f18)))
    (l18 : K.lookup f18 = some ⟨oc18, od18, .func (PySem.W.fnOf "_law_is_run" "_law_is_run" (defArgs s_l_is_run) (defBody s_l_is_run) (defScope s_l_is_run) .none kV18 dc18 pm18 an18 cd18 ct18), sl18⟩)
    (c18 : PySem.W.codeIn K cd18 "_law_is_run" = true)
    (k18 : PySem.W.keepIn K (.ref f18) = true)
    (a19 : PySem.W.nsIn K mainGlobals "_law_is_drill" = some (some (.ref f19)))
    (l19 : K.lookup f19 = some ⟨oc19, od19, .func (PySem.W.fnOf "_law_is_drill" "_law_is_drill" (defArgs s_l_is_drill) (defBody s_l_is_drill) (defScope s_l_is_drill) .none kV19 dc19 pm19 an19 cd19 ct19), sl19⟩)
    (c19 : PySem.W.codeIn K cd19 "_law_is_drill" = true)
    (k19 : PySem.W.keepIn K (.ref f19) = true)
    (a20 : PySem.W.nsIn K mainGlobals "_law_closed" = some (some (.ref f20)))
    (l20 : K.lookup f20 = some ⟨oc20, od20, .func (PySem.W.fnOf "_law_closed" "_law_closed" (defArgs s_l_closed) (defBody s_l_closed) (defScope s_l_closed) .none kV20 dc20 pm20 an20 cd20 ct20), sl20⟩)
    (c20 : PySem.W.codeIn K cd20 "_law_closed" = true)
    (k20 : PySem.W.keepIn K (.ref f20) = true)
    (a21 : PySem.W.nsIn K mainGlobals "_law_is_beginning" = some (some (.ref f21)))
    (l21 : K.lookup f21 = some ⟨oc21, od21, .func (PySem.W.fnOf "_law_is_beginning" "_law_is_beginning" (defArgs s_l_is_beginning) (defBody s_l_is_beginning) (defScope s_l_is_beginning) .none kV21 dc21 pm21 an21 cd21 ct21), sl21⟩)
    (c21 : PySem.W.codeIn K cd21 "_law_is_beginning" = true)
    (k21 : PySem.W.keepIn K (.ref f21) = true)
    (a22 : PySem.W.nsIn K mainGlobals "law" = some (some (.ref f22)))
    (l22 : K.lookup f22 = some ⟨oc22, od22, .func (PySem.W.fnOf "law" "law" (defArgs s_law) (defBody s_law) (defScope s_law) .none kV22 dc22 pm22 an22 cd22 ct22), sl22⟩)
    (c22 : PySem.W.codeIn K cd22 "law" = true)
    (k22 : PySem.W.keepIn K (.ref f22) = true)
    (v_GREAT : PySem.W.nsIn K mainGlobals "GREAT" = some (some (.int 1000000000000000000000000000000 t_GREAT)))
    (v_FAR : PySem.W.nsIn K mainGlobals "FAR" = some (some (.int 1000000000000 t_FAR)))
    (v_MOST_RUNS : PySem.W.nsIn K mainGlobals "MOST_RUNS" = some (some (.int 8 t_MOST_RUNS)))
    (v_MOST_SHEEP : PySem.W.nsIn K mainGlobals "MOST_SHEEP" = some (some (.int 40 t_MOST_SHEEP)))
    (v_WIDEST : PySem.W.nsIn K mainGlobals "WIDEST" = some (some (.int 9 t_WIDEST)))
    (v_DEEPEST : PySem.W.nsIn K mainGlobals "DEEPEST" = some (some (.int 3 t_DEEPEST)))
    (z_abs : PySem.W.nsIn K mainGlobals "abs" = some none)
    (z_bool : PySem.W.nsIn K mainGlobals "bool" = some none)
    (z_enumerate : PySem.W.nsIn K mainGlobals "enumerate" = some none)
    (z_int : PySem.W.nsIn K mainGlobals "int" = some none)
    (z_isinstance : PySem.W.nsIn K mainGlobals "isinstance" = some none)
    (z_len : PySem.W.nsIn K mainGlobals "len" = some none)
    (z_list : PySem.W.nsIn K mainGlobals "list" = some none)
    (z_min : PySem.W.nsIn K mainGlobals "min" = some none)
    (z_range : PySem.W.nsIn K mainGlobals "range" = some none)
    (z_str : PySem.W.nsIn K mainGlobals "str" = some none)
    (z_tuple : PySem.W.nsIn K mainGlobals "tuple" = some none)
    (z_zip : PySem.W.nsIn K mainGlobals "zip" = some none) :
    ∃ fd : FuncData, (∀ (s : Shared) (v : Value), BindsTo s fd ⟨[v], []⟩ [("_law_script", v)]) ∧ ∀ base : Heap, K.In base → base.Ns mainGlobals mg → FnOk l.prog w K mg base (L2.CX l.prog w) 24 fa fd ["_law_script"] (spD K 1 S_law) := by
  have e := hfa.symm.trans (PySem.W.mg_of X G a22)
  cases e
  have F0 := fun_mk (st := s_l_cart_of) l0 c0 k0
  have F1 := fun_mk (st := s_l_take) l1 c1 k1
  have F2 := fun_mk (st := s_l_any) l2 c2 k2
  have F3 := fun_mk (st := s_l_deed) l3 c3 k3
  have F4 := fun_mk (st := s_l_deeds) l4 c4 k4
  have F5 := fun_mk (st := s_l_work) l5 c5 k5
  have F6 := fun_mk (st := s_l_at) l6 c6 k6
  have F7 := fun_mk (st := s_l_rooms) l7 c7 k7
  have F8 := fun_mk (st := s_l_bent) l8 c8 k8
  have F9 := fun_mk (st := s_is_int) l9 c9 k9
  have F10 := fun_mk (st := s_is_a_run) l10 c10 k10
  have F11 := fun_mk (st := s_is_run) l11 c11 k11
  have F12 := fun_mk (st := s_fits) l12 c12 k12
  have F13 := fun_mk (st := s_is_drill) l13 c13 k13
  have F14 := fun_mk (st := s_need_drill) l14 c14 k14
  have F15 := fun_mk (st := s_begins) l15 c15 k15
  have F16 := fun_mk (st := s_is_beginning) l16 c16 k16
  have F17 := fun_mk (st := s_l_int) l17 c17 k17
  have F18 := fun_mk (st := s_l_is_run) l18 c18 k18
  have F19 := fun_mk (st := s_l_is_drill) l19 c19 k19
  have F20 := fun_mk (st := s_l_closed) l20 c20 k20
  have F21 := fun_mk (st := s_l_is_beginning) l21 c21 k21
  have F22 := fun_mk (st := s_law) l22 c22 k22
  let M : Md K mg := {
    f_l_cart_of := _, d_l_cart_of := _, F_l_cart_of := F0, g_l_cart_of := PySem.W.mg_of X G a0, b_l_cart_of := F0.binds (ps := ["_law_script", "_law_k"]) (fun _ _ _ _ _ _ us hl => match us, hl with | [_, _], _ => rfl),
    f_l_take := _, d_l_take := _, F_l_take := F1, g_l_take := PySem.W.mg_of X G a1, b_l_take := F1.binds (ps := ["_law_cart", "_law_many"]) (fun _ _ _ _ _ _ us hl => match us, hl with | [_, _], _ => rfl),
    f_l_any := _, d_l_any := _, F_l_any := F2, g_l_any := PySem.W.mg_of X G a2, b_l_any := F2.binds (ps := ["_law_cart", "_law_things"]) (fun _ _ _ _ _ _ us hl => match us, hl with | [_, _], _ => rfl),
    f_l_deed := _, d_l_deed := _, F_l_deed := F3, g_l_deed := PySem.W.mg_of X G a3, b_l_deed := F3.binds (ps := ["_law_cart", "_law_wide"]) (fun _ _ _ _ _ _ us hl => match us, hl with | [_, _], _ => rfl),
    f_l_deeds := _, d_l_deeds := _, F_l_deeds := F4, g_l_deeds := PySem.W.mg_of X G a4, b_l_deeds := F4.binds (ps := ["_law_cart", "_law_most", "_law_wide"]) (fun _ _ _ _ _ _ us hl => match us, hl with | [_, _, _], _ => rfl),
    f_l_work := _, d_l_work := _, F_l_work := F5, g_l_work := PySem.W.mg_of X G a5, b_l_work := F5.binds (ps := ["_law_cart", "_law_most"]) (fun _ _ _ _ _ _ us hl => match us, hl with | [_, _], _ => rfl),
    f_l_at := _, d_l_at := _, F_l_at := F6, g_l_at := PySem.W.mg_of X G a6, b_l_at := F6.binds (ps := ["_law_gap", "_law_rooms_here"]) (fun _ _ _ _ _ _ us hl => match us, hl with | [_, _], _ => rfl),
    f_l_rooms := _, d_l_rooms := _, F_l_rooms := F7, g_l_rooms := PySem.W.mg_of X G a7, b_l_rooms := F7.binds (ps := ["_law_cart", "_law_many", "_law_wide"]) (fun _ _ _ _ _ _ us hl => match us, hl with | [_, _, _], _ => rfl),
    f_l_bent := _, d_l_bent := _, F_l_bent := F8, g_l_bent := PySem.W.mg_of X G a8, b_l_bent := F8.binds (ps := ["_law_cart", "_law_value"]) (fun _ _ _ _ _ _ us hl => match us, hl with | [_, _], _ => rfl),
    f_is_int := _, d_is_int := _, F_is_int := F9, g_is_int := PySem.W.mg_of X G a9, b_is_int := F9.binds (ps := ["value", "low", "high"]) (fun _ _ _ _ _ _ us hl => match us, hl with | [_, _, _], _ => rfl),
    f_is_a_run := _, d_is_a_run := _, F_is_a_run := F10, g_is_a_run := PySem.W.mg_of X G a10, b_is_a_run := F10.binds (ps := ["value"]) (fun _ _ _ _ _ _ us hl => match us, hl with | [_], _ => rfl),
    f_is_run := _, d_is_run := _, F_is_run := F11, g_is_run := PySem.W.mg_of X G a11, b_is_run := F11.binds (ps := ["value"]) (fun _ _ _ _ _ _ us hl => match us, hl with | [_], _ => rfl),
    f_fits := _, d_fits := _, F_fits := F12, g_fits := PySem.W.mg_of X G a12, b_fits := F12.binds (ps := ["value"]) (fun _ _ _ _ _ _ us hl => match us, hl with | [_], _ => rfl),
    f_is_drill := _, d_is_drill := _, F_is_drill := F13, g_is_drill := PySem.W.mg_of X G a13, b_is_drill := F13.binds (ps := ["value"]) (fun _ _ _ _ _ _ us hl => match us, hl with | [_], _ => rfl),
    f_need_drill := _, d_need_drill := _, F_need_drill := F14, g_need_drill := PySem.W.mg_of X G a14, b_need_drill := F14.binds (ps := ["value"]) (fun _ _ _ _ _ _ us hl => match us, hl with | [_], _ => rfl),
    f_begins := _, d_begins := _, F_begins := F15, g_begins := PySem.W.mg_of X G a15, b_begins := F15.binds (ps := ["gap", "value"]) (fun _ _ _ _ _ _ us hl => match us, hl with | [_, _], _ => rfl),
    f_is_beginning := _, d_is_beginning := _, F_is_beginning := F16, g_is_beginning := PySem.W.mg_of X G a16, b_is_beginning := F16.binds (ps := ["drill", "value"]) (fun _ _ _ _ _ _ us hl => match us, hl with | [_, _], _ => rfl),
    f_l_int := _, d_l_int := _, F_l_int := F17, g_l_int := PySem.W.mg_of X G a17, b_l_int := F17.binds (ps := ["_law_value", "_law_low", "_law_high"]) (fun _ _ _ _ _ _ us hl => match us, hl with | [_, _, _], _ => rfl),
    f_l_is_run := _, d_l_is_run := _, F_l_is_run := F18, g_l_is_run := PySem.W.mg_of X G a18, b_l_is_run := F18.binds (ps := ["_law_value"]) (fun _ _ _ _ _ _ us hl => match us, hl with | [_], _ => rfl),
    f_l_is_drill := _, d_l_is_drill := _, F_l_is_drill := F19, g_l_is_drill := PySem.W.mg_of X G a19, b_l_is_drill := F19.binds (ps := ["_law_value"]) (fun _ _ _ _ _ _ us hl => match us, hl with | [_], _ => rfl),
    f_l_closed := _, d_l_closed := _, F_l_closed := F20, g_l_closed := PySem.W.mg_of X G a20, b_l_closed := F20.binds (ps := ["_law_gap", "_law_places"]) (fun _ _ _ _ _ _ us hl => match us, hl with | [_, _], _ => rfl),
    f_l_is_beginning := _, d_l_is_beginning := _, F_l_is_beginning := F21, g_l_is_beginning := PySem.W.mg_of X G a21, b_l_is_beginning := F21.binds (ps := ["_law_gap", "_law_value"]) (fun _ _ _ _ _ _ us hl => match us, hl with | [_, _], _ => rfl),
    f_law := _, d_law := _, F_law := F22, g_law := PySem.W.mg_of X G a22, b_law := F22.binds (ps := ["_law_script"]) (fun _ _ _ _ _ _ us hl => match us, hl with | [_], _ => rfl),
    t_GREAT := t_GREAT, g_GREAT := PySem.W.mg_of X G v_GREAT,
    t_FAR := t_FAR, g_FAR := PySem.W.mg_of X G v_FAR,
    t_MOST_RUNS := t_MOST_RUNS, g_MOST_RUNS := PySem.W.mg_of X G v_MOST_RUNS,
    t_MOST_SHEEP := t_MOST_SHEEP, g_MOST_SHEEP := PySem.W.mg_of X G v_MOST_SHEEP,
    t_WIDEST := t_WIDEST, g_WIDEST := PySem.W.mg_of X G v_WIDEST,
    t_DEEPEST := t_DEEPEST, g_DEEPEST := PySem.W.mg_of X G v_DEEPEST,
    z_abs := PySem.W.mg_none_of X G z_abs,
    z_bool := PySem.W.mg_none_of X G z_bool,
    z_enumerate := PySem.W.mg_none_of X G z_enumerate,
    z_int := PySem.W.mg_none_of X G z_int,
    z_isinstance := PySem.W.mg_none_of X G z_isinstance,
    z_len := PySem.W.mg_none_of X G z_len,
    z_list := PySem.W.mg_none_of X G z_list,
    z_min := PySem.W.mg_none_of X G z_min,
    z_range := PySem.W.mg_none_of X G z_range,
    z_str := PySem.W.mg_none_of X G z_str,
    z_tuple := PySem.W.mg_none_of X G z_tuple,
    z_zip := PySem.W.mg_none_of X G z_zip }
  exact ⟨_, fun s v => .of_eq rfl, fun base _ _ => ok_law M⟩
theorem law_sp {K : PySem.W.Frag} (hlaw : ∀ (ns : List Int) (T : List Ob) (Q : Sl → List Ob → Prop) (QX : Xn → List Ob → Prop), ns.length ≤ 63 → (∀ T', Q (.dat (.bl true)) T') → S_law [.dat (.scr ns)] T Q QX) (H : Hp) (a : Addr) (ns : List Int) (hl : ns.length ≤ 63) (hS : SqL K H a (ns.map V.int)) :
    spD K 1 S_law [.ref a] H (fun v _ => v = .bl true) fun _ _ _ => False :=
  ⟨rfl, [.dat (.scr ns)], H, [], [], fun r _ => r = .dat (.bl true), fun _ _ => False, ⟨Same.refl _, List.nodup_nil, rfl, fun k a o h => by simp at h, fun k a h => by simp at h⟩, .cons (.scr hS) .nil, hlaw ns [] _ _ hl (fun _ => rfl), fun r T' v G' la' H' e _ _ _ z => by
    subst e
    cases z
    rfl, fun _ _ _ _ _ _ _ f _ _ _ _ => f.elim⟩
theorem law_in (ns : List Int) (T : List Ob) (Q : Sl → List Ob → Prop) (QX : Xn → List Ob → Prop) (h : ns.length ≤ 63) (q : ∀ T', Q (.dat (.bl true)) T') : S_law [.dat (.scr ns)] T Q QX := ⟨ns, rfl, h, q⟩
theorem cx_none {P : Program} {w : World} {H : Hp} {s s' : Shared} {e : Value} (h : L2.CX P w [] H s (fun _ _ _ => False) e s') : False := by
  obtain ⟨a, B, H', cls, d, _, _, _, _, _, _, _, hE⟩ := h
  exact hE
end DL
open PySem PySem.W PyProof.Rows
set_option maxHeartbeats 0 in
theorem PySem.Challenge.cw_dogruns_k01_drills_runs_and_beginnings_holds : PySem.Challenge.rw_dogruns_k01_drills_runs_and_beginnings.Holds := by
  w_on; o_law; k_head; (case hw => w_witness2)
  k_fill
  refine L2.walk_of (l := PySem.Challenge.rw_dogruns_k01_drills_runs_and_beginnings) (n := 63) (k := 24) (x := "_law_script") (CX := fun w => L2.CX PySem.Challenge.rw_dogruns_k01_drills_runs_and_beginnings.prog w) (sp := fun w => DL.spD _ 1 DL.S_law) rfl (by decide) rfl ⟨rfl, by decide, by decide⟩ (fun w h Y => PySem.W.kIn_of Y) ?F (fun w H a ns hl _ hS => DL.law_sp (fun ns T Q QX h q => DL.law_in ns T Q QX h q) H a ns hl hS) ?X
  case F =>
    intro w mg fa h KX G hmg
    refine' DL.all_mk KX G hmg ?a0 ?l0 ?c0 ?k0 ?a1 ?l1 ?c1 ?k1 ?a2 ?l2 ?c2 ?k2 ?a3 ?l3 ?c3 ?k3 ?a4 ?l4 ?c4 ?k4 ?a5 ?l5 ?c5 ?k5 ?a6 ?l6 ?c6 ?k6 ?a7 ?l7 ?c7 ?k7 ?a8 ?l8 ?c8 ?k8 ?a9 ?l9 ?c9 ?k9 ?a10 ?l10 ?c10 ?k10 ?a11 ?l11 ?c11 ?k11 ?a12 ?l12 ?c12 ?k12 ?a13 ?l13 ?c13 ?k13 ?a14 ?l14 ?c14 ?k14 ?a15 ?l15 ?c15 ?k15 ?a16 ?l16 ?c16 ?k16 ?a17 ?l17 ?c17 ?k17 ?a18 ?l18 ?c18 ?k18 ?a19 ?l19 ?c19 ?k19 ?a20 ?l20 ?c20 ?k20 ?a21 ?l21 ?c21 ?k21 ?a22 ?l22 ?c22 ?k22 ?v_GREAT ?v_FAR ?v_MOST_RUNS ?v_MOST_SHEEP ?v_WIDEST ?v_DEEPEST ?z_abs ?z_bool ?z_enumerate ?z_int ?z_isinstance ?z_len ?z_list ?z_min ?z_range ?z_str ?z_tuple ?z_zip
    (case a0 => k_is); (case l0 => k_is); (case c0 => k_is); (case k0 => k_is); (case a1 => k_is); (case l1 => k_is); (case c1 => k_is); (case k1 => k_is)
    (case a2 => k_is); (case l2 => k_is); (case c2 => k_is); (case k2 => k_is); (case a3 => k_is); (case l3 => k_is); (case c3 => k_is); (case k3 => k_is)
    (case a4 => k_is); (case l4 => k_is); (case c4 => k_is); (case k4 => k_is); (case a5 => k_is); (case l5 => k_is); (case c5 => k_is); (case k5 => k_is)
    (case a6 => k_is); (case l6 => k_is); (case c6 => k_is); (case k6 => k_is); (case a7 => k_is); (case l7 => k_is); (case c7 => k_is); (case k7 => k_is)
    (case a8 => k_is); (case l8 => k_is); (case c8 => k_is); (case k8 => k_is); (case a9 => k_is); (case l9 => k_is); (case c9 => k_is); (case k9 => k_is)
    (case a10 => k_is); (case l10 => k_is); (case c10 => k_is); (case k10 => k_is); (case a11 => k_is); (case l11 => k_is); (case c11 => k_is); (case k11 => k_is)
    (case a12 => k_is); (case l12 => k_is); (case c12 => k_is); (case k12 => k_is); (case a13 => k_is); (case l13 => k_is); (case c13 => k_is); (case k13 => k_is)
    (case a14 => k_is); (case l14 => k_is); (case c14 => k_is); (case k14 => k_is); (case a15 => k_is); (case l15 => k_is); (case c15 => k_is); (case k15 => k_is)
    (case a16 => k_is); (case l16 => k_is); (case c16 => k_is); (case k16 => k_is); (case a17 => k_is); (case l17 => k_is); (case c17 => k_is); (case k17 => k_is)
    (case a18 => k_is); (case l18 => k_is); (case c18 => k_is); (case k18 => k_is); (case a19 => k_is); (case l19 => k_is); (case c19 => k_is); (case k19 => k_is)
    (case a20 => k_is); (case l20 => k_is); (case c20 => k_is); (case k20 => k_is); (case a21 => k_is); (case l21 => k_is); (case c21 => k_is); (case k21 => k_is)
    (case a22 => k_is); (case l22 => k_is); (case c22 => k_is); (case k22 => k_is); (case v_GREAT => k_is); (case v_FAR => k_is); (case v_MOST_RUNS => k_is); (case v_MOST_SHEEP => k_is)
    (case v_WIDEST => k_is); (case v_DEEPEST => k_is); (case z_abs => k_is); (case z_bool => k_is); (case z_enumerate => k_is); (case z_int => k_is); (case z_isinstance => k_is); (case z_len => k_is)
    (case z_list => k_is); (case z_min => k_is); (case z_range => k_is); (case z_str => k_is); (case z_tuple => k_is); (case z_zip => k_is)
  case X =>
    intro w H s e s' h
    exact DL.cx_none h
