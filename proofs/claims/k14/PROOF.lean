import PyProof.Rows.All
import Wide.All
import OpenK.AllK
import Wide.FinOn
import HandS.ForMost
import HandS.ForExc
import HandS.TryMany
import HandS.Walk
import HandS.TupAny
import HandS.TupMul
import HandS.Wide
import HandS.IsInst
import HandS.Zip
import HandS.Flow
import HandS.Lambda
import HandS.EndTab
import HandS.ExcValue
import HandS.ExcInit
import KE.DataEq
import PyProof.ListMulRoad
import PyProof.FactsAll.tuple_2
import PyProof.EnumMake
import HandS.Style
import HandS.SortKw
import HandS.Dict
import HandS.CallLocal
import HandS.ExcField
import HandS.ClsMeth
import HandS.ExcIs
import KE.KExcIs
import HandS.Text
import HandS.StrMore
import HandS.RaiseMore
import HandS.Iter
import HandS.Deep
import HandS.SetFor
import HandS.Strs
import PyProof.StrOps2
import HandS.Star
import HandS.Property
import KE.KOpsOwn
import KE.KCallOwn
import HandS.SlotsOwn
import HandS.Small
import PyProof.Conv_bool
import HandS.GenList
import HandS.SortInts
import KE.KIndexOf
import PySem.Challenge.RW_dogruns_k14_whole_lanes_run_by_run
set_option Elab.async false
set_option linter.all false
set_option maxRecDepth 100000
set_option maxHeartbeats 4000000
/-! try with several clauses, some of which name the error. -/
namespace DL
open PySem PySem.Spec PyProof.Rows L2
/-- a clause: its class, the slot of its name, its suite -/
structure Cl where
  c : Value
  i : Option Nat
  ts : Addr → Value → Option Addr → TS
def outEnds (i : Nat) (D : Ends) : Ends where
  nx := fun σ H => D.nx (σ.set i none) H
  rt := D.rt
  bk := fun σ H => D.bk (σ.set i none) H
  ct := fun σ H => D.ct (σ.set i none) H
def Cl.run (k : Cl) (D : Ends) (cls : Value) (d : Option Addr) (σ : L2.St) (H : Hp) : Prop := ∀ a, H a = none → match k.i with
  | none => k.ts a cls d D σ H
  | some i => k.ts a cls d (outEnds i D) (σ.set i (some (.ref a))) H
def wMix (K : PySem.W.Frag) (Wout : WX) (D : Ends) : List Cl → WX
  | [] => Wout
  | k :: r => fun cls d σ H => ∃ b, PySem.W.exmOne K cls k.c = some b ∧ (b = true → k.run D cls d σ H) ∧ (b = false → wMix K Wout D r cls d σ H)
inductive ClOk (X : Cx) : ExceptHandler → Cl → Prop
  | only {x : Str} {c : Value} {ts : Addr → Value → Option Addr → TS} {b : Stmt} {su : List Stmt} {np p : Pos} (nm : Names X x c)
      (run : ∀ (a : Addr) (o : Obj) (cls : Value) (d : Option Addr) (pn : List (Addr × Obj)), Zc cls d o → (∃ vs, o.data = .fields vs) → PSs (X.suite a ((a, o) :: pn)) (b :: su) (ts a cls d)) :
      ClOk X (.ExceptHandler (some (.Name x np)) none (b :: su) p) ⟨c, none, ts⟩
  | named {x n : Str} {i : Nat} {c : Value} {ts : Addr → Value → Option Addr → TS} {b : Stmt} {su : List Stmt} {np p : Pos} (nm : Names X x c) (nd : X.N.Nodup) (hi : X.N[i]? = some n) (hl : X.env.kindOf n = some .local)
      (run : ∀ (a : Addr) (o : Obj) (cls : Value) (d : Option Addr) (pn : List (Addr × Obj)), Zc cls d o → (∃ vs, o.data = .fields vs) → PSs (X.suite a ((a, o) :: pn)) (b :: su) (ts a cls d)) :
      ClOk X (.ExceptHandler (some (.Name x np)) (some n) (b :: su) p) ⟨c, some i, ts⟩
inductive ClsOk (X : Cx) : List ExceptHandler → List Cl → Prop
  | nil : ClsOk X [] []
  | cons {h : ExceptHandler} {k : Cl} {hs : List ExceptHandler} {ks : List Cl} : ClOk X h k → ClsOk X hs ks → ClsOk X (h :: hs) (k :: ks)

theorem ps_tryC {X : Cx} {body : List Stmt} {h0 : ExceptHandler} {hds : List ExceptHandler} {ks : List Cl} {pos : Pos} {tb : WX → TS} {Wout : WX} (hs : X.stack = X.env :: X.outer) (hf : X.env.frame = some X.env.locals) (tk : Takes X Wout)
    (hb : ∀ (W : WX) (pn : List (Addr × Obj)) (xe : Value → Shared → Prop), Takes (X.tr pn xe) W → PassesOwn (model X.prog X.w) X.A X.env xe → PSs (X.tr pn xe) body (tb W))
    (hk : ClsOk X (h0 :: hds) ks) : PS X (.Try body (h0 :: hds) [] [] pos) (fun D σ H => tb (wMix X.K Wout D ks) D σ H) := by
  constructor
  intro pins s0 σ0 H0 D I0 rd
  have okX := I0.ok
  have fr0 : X.A.frames = some (X.env :: X.outer) := by rw [okX.frames, hs]
  apply wpAny_Try_except
  refine wpAny_mono ((hb (wMix X.K Wout D ks) (X.pn ++ pins) (fun e t1 => wpAny (model X.prog X.w) X.A (noteFrame e X.env) (fun _ t2 => wpAny (model X.prog X.w) X.A (setFlight e none) (fun _ t3 => wpAny (model X.prog X.w) X.A (handleBy e X.env (h0 :: hds)) (SP X pins D) X.xe t3) X.xe t2) X.xe t1)
    (fun u t0 caught => ?_) PassesOwn.looking).run [] s0 σ0 H0 D (I0.toTry _) rd) (fun fl t1 done => ?_) (fun e t1 z => z)
  · obtain ⟨a, B, sB, pB, σ1, H1, cls, od, rfl, IB, fresh, up0, sky0, freeA, osB, genB, wish⟩ := caught
    have J : Inv X pins σ1 H1 sB := IB.ofTry okX
    have sky1 : Sky B (X.env :: X.outer) a (Zc cls od) X.env.locals t0.heap := by
      rw [← hs]
      exact sky0
    refine Sky.land Zc.steady fr0 hf sky1 fun g1 fg1 upg1 => ?_
    have J1 : Inv X pins σ1 H1 { t0 with heap := g1 } := J.landed fresh fg1.1 (up0.trans upg1) osB genB
    obtain ⟨o1, w1, ha1, z1, d1⟩ := fg1.there
    have notF : a ∉ frs (X.env :: X.outer) := by
      intro hm
      obtain ⟨_, o2, e2, n2⟩ := fg1.2.2.1.mem hm
      have e3 := Option.some.inj (ha1.symm.trans e2)
      subst e3
      exact n2 _ d1
    have nL : a ≠ X.env.locals := by
      intro z
      apply notF
      exact List.mem_filterMap.mpr ⟨X.env, List.mem_cons_self, by rw [hf, z]⟩
    have nS : a ∉ X.fs := by
      intro hm
      obtain ⟨e, he, q⟩ := List.mem_filterMap.mp hm
      apply notF
      exact List.mem_filterMap.mpr ⟨e, List.mem_cons_of_mem _ he, q⟩
    have S1 := J1.suite ha1 d1 freeA nL nS
    have tyA : PySem.W.Looks (model X.prog X.w) g1 (typeOf (.ref a)) cls := by
      intro A Q E s k q
      exact wpAny_typeOf_ref (k _ _ ha1) (by rw [z1.1]; exact q)
    -- the class that a clause names
    have nameIs : ∀ {x : Str} {c : Value} {np : Pos} {Q E : Value → Shared → Prop}, Names X x c → Q c { t0 with heap := g1 } → wpAny (model X.prog X.w) (X.A.mark (some (.ref a))) (eval (.Name x np) X.env) Q E { t0 with heap := g1 } := by
      intro x c np Q E nm q
      rcases nm with ⟨gl, db, m1 | ⟨m0, bt, ne⟩⟩
      · exact ld_glob (X := X.suite a ((a, o1) :: (X.pn ++ pins))) S1 gl m1 q db
      · exact ld_blt (X := X.suite a ((a, o1) :: (X.pn ++ pins))) S1 gl m0 bt q ne db
    have all : ∀ (ks : List Cl) (hds : List ExceptHandler), ClsOk X hds ks → wMix X.K Wout D ks cls od σ1 H1 → wpAny (model X.prog X.w) X.A (handleBy (.ref a) X.env hds) (SP X pins D) X.xe { t0 with heap := g1 } := by
      intro ks
      induction ks with
      | nil =>
        intro hds hh w
        cases hh
        apply wpAny_handleBy_nil
        obtain ⟨_, _, _, o3, w3, T3, oT3, tt3, he3, hz3, hd3, h13, hr3⟩ := id fg1
        have up : wpAny (model X.prog X.w) X.A (setFlight (.ref a) X.env.frame) (fun _ s4 => wpAny (model X.prog X.w) X.A (throw (.ref a) : Sem Flow) (SP X pins D) X.xe s4) X.xe { t0 with heap := g1 } := by
          rw [hf]
          refine HandSPX.setFlight_upZ fg1 fun g2 hg2 upg2 => wpAny_throw (tk _ _ ⟨a, B, sB, pins, σ1, H1, cls, od, rfl, J, fresh, (up0.trans upg1).trans upg2, .inr (.inr ?_), freeA, osB, genB, w⟩)
          rw [hs]
          exact hg2
        unfold PySem.passOn
        refine wpAny_bind (wpAny_field he3 hd3 h13 ?_)
        rw [if_neg (by simp : ¬ ((Value.ref T3 == Value.none) = true))]
        first
          | exact wpAny_bind (wpAny_pure (wpAny_bind up))
          | exact wpAny_bind up
      | cons k ks ih =>
        intro hds hh w
        obtain ⟨b, isA, yes, no⟩ := w
        have LM := PySem.W.exm_one (M := model X.prog X.w) J1.kIn tyA isA
        cases hh with
        | cons hc hr =>
        cases hc with
        | only nm run =>
          refine wpAny_handleBy_cons (codeAny_handlers_test (nameIs nm (LM.here ?_))) (by intro q; cases q)
          cases b with
          | false => exact ih _ hr (no rfl)
          | true =>
            refine codeAny_handlers_suite (HandSPX.lands_againZ fg1 fun g2 fg2 upg2 => ?_)
            obtain ⟨o2, w2, ha2, z2, d2⟩ := fg2.there
            have J2 : Inv X pins σ1 H1 { t0 with heap := g2 } := J.landed fresh fg2.1 ((up0.trans upg1).trans upg2) osB genB
            have S2 := J2.suite ha2 d2 freeA nL nS
            refine wpAny_mono ((run a o2 cls od (X.pn ++ pins) z2 ⟨_, d2⟩).run [] _ _ H1 D S2 (yes rfl a freeA)) (fun f t6 post => ?_) (fun _ _ z => z.elim)
            cases f with
            | ret u =>
              obtain ⟨v6, σ6, H6, S6, r6, q6⟩ := post
              exact ⟨v6, σ6, H6, S6.unsuite okX, r6, q6⟩
            | _ =>
              obtain ⟨σ6, H6, S6, q6⟩ := post
              exact ⟨σ6, H6, S6.unsuite okX, q6⟩
        | named nm nd hi hl run =>
          refine wpAny_handleBy_cons (codeAny_handlers_test (nameIs nm (LM.here ?_))) (by intro q; cases q)
          cases b with
          | false => exact ih _ hr (no rfl)
          | true =>
            refine codeAny_handlers_suite_as (HandSPX.lands_againZ fg1 fun g2 fg2 upg2 => ?_)
            obtain ⟨o2, w2, ha2, z2, d2⟩ := fg2.there
            have J2 : Inv X pins σ1 H1 { t0 with heap := g2 } := J.landed fresh fg2.1 ((up0.trans upg1).trans upg2) osB genB
            have S2 := J2.suite ha2 d2 freeA nL nS
            refine store_ok (X := X.suite a ((a, o2) :: (X.pn ++ pins))) (v := .ref a) S2 nd hi (.inl hl) rfl (fun t5 S5 => ?_) (.inr hl)
            refine wpAny_mono ((run a o2 cls od (X.pn ++ pins) z2 ⟨_, d2⟩).run [] t5 _ H1 _ S5 (yes rfl a freeA)) (fun f t6 post => ?_) (fun _ _ z => z.elim)
            cases f with
            | ret u =>
              obtain ⟨v6, σ6, H6, S6, r6, q6⟩ := post
              exact gone_ok (S6.unsuite okX) nd hi hl fun t7 J7 => ⟨v6, _, H6, J7, r6, q6⟩
            | _ =>
              obtain ⟨σ6, H6, S6, q6⟩ := post
              exact gone_ok (S6.unsuite okX) nd hi hl fun t7 J7 => ⟨_, H6, J7, q6⟩
    exact all ks _ hk wish
  · cases fl with
    | next =>
      obtain ⟨σ1, H1, J1, q⟩ := done
      exact wpAny_execs_nil ⟨σ1, H1, J1.ofTry okX, q⟩
    | ret u =>
      obtain ⟨v, σ1, H1, J1, r, q⟩ := done
      exact ⟨v, σ1, H1, J1.ofTry okX, r, q⟩
    | _ =>
      obtain ⟨σ1, H1, J1, q⟩ := done
      exact ⟨σ1, H1, J1.ofTry okX, q⟩
end DL
set_option Elab.async false
set_option linter.all false
set_option maxRecDepth 100000
set_option maxHeartbeats 4000000
set_option autoImplicit false
/-! The data level: the body of a def read over data (trees), without a heap to be seen. -/
namespace DL
open PySem PySem.Spec PyProof.Rows L2

/-- data; raw: a value that is not looked into; scr: the script's ints -/
inductive D where
  | non | bl (b : Bool) | int (i : Int) | str (x : Str) | raw (x : V)
  | tup (xs : List D) | lst (xs : List D) | scr (ns : List Int)
  | fn (x : Str)
  /-- an error of an own class, with its one field or none -/
  | err (n : Str) (f : Option (Str × Int))

mutual
inductive Dp (K : PySem.W.Frag) (G : Hp) : V → D → Prop
  | non : Dp K G .non .non
  | bl (b : Bool) : Dp K G (.bl b) (.bl b)
  | int (i : Int) : Dp K G (.int i) (.int i)
  | str (x : Str) : Dp K G (.str x) (.str x)
  | raw (x : V) : Dp K G x (.raw x)
  | tup {p : Addr} {vs : List V} {ds : List D} : SqT K G p vs → vs.length ≤ sizeLine → Dps K G vs ds → Dp K G (.ref p) (.tup ds)
  | lst {p : Addr} {vs : List V} {ds : List D} : G p = some (.lst vs) → vs.length ≤ sizeLine → Dps K G vs ds → Dp K G (.ref p) (.lst ds)
  | scr {p : Addr} {ns : List Int} : SqL K G p (ns.map V.int) → Dp K G (.ref p) (.scr ns)
  | fn {a : Addr} {x : Str} : PySem.W.nsIn K mainGlobals x = some (some (.ref a)) → Dp K G (.ref a) (.fn x)
  | err {p C : Addr} {n : Str} : PySem.W.nsIn K mainGlobals n = some (some (.ref C)) → G p = some (ExO (.ref C) p) → Dp K G (.ref p) (.err n none)
  | erf {p C dx : Addr} {n f : Str} {i : Int} : PySem.W.nsIn K mainGlobals n = some (some (.ref C)) → G p = some (exo p C (some dx)) → G dx = some (exd dx [(f, .int i)]) → Dp K G (.ref p) (.err n (some (f, i)))
inductive Dps (K : PySem.W.Frag) (G : Hp) : List V → List D → Prop
  | nil : Dps K G [] []
  | cons {v : V} {vs : List V} {d : D} {ds : List D} : Dp K G v d → Dps K G vs ds → Dps K G (v :: vs) (d :: ds)
end

theorem same_t {K : PySem.W.Frag} {G G' : Hp} {p : Addr} {vs : List V} (e : Same G G') (h : SqT K G p vs) : SqT K G' p vs := by
  rcases h with (h | ⟨o, h⟩) | h
  · exact .inl (.inl (e _ _ h))
  · exact .inl (.inr ⟨o, e _ _ h⟩)
  · exact .inr h
section
variable {K : PySem.W.Frag} {G G' H H' : Hp}
mutual
theorem Dp.mono (e : Same G G') : ∀ (d : D) (v : V), Dp K G v d → Dp K G' v d
  | .non, _, h => by cases h; exact .non
  | .bl _, _, h => by cases h; exact .bl _
  | .int _, _, h => by cases h; exact .int _
  | .str _, _, h => by cases h; exact .str _
  | .raw _, _, h => by cases h; exact .raw _
  | .tup ds, _, h => by
    cases h with
    | tup a l r => exact .tup (same_t e a) l (Dps.mono e ds _ r)
  | .lst ds, _, h => by
    cases h with
    | lst a l r => exact .lst (e _ _ a) l (Dps.mono e ds _ r)
  | .scr _, _, h => by
    cases h with
    | scr a => exact .scr (e.seq a)
  | .fn _, _, h => by
    cases h with
    | fn a => exact .fn a
  | .err _ _, _, h => by
    cases h with
    | err a b => exact .err a (e _ _ b)
    | erf a b c => exact .erf a (e _ _ b) (e _ _ c)
theorem Dps.mono (e : Same G G') : ∀ (ds : List D) (vs : List V), Dps K G vs ds → Dps K G' vs ds
  | [], _, h => by cases h; exact .nil
  | d :: ds, _, h => by
    cases h with
    | cons a r => exact .cons (Dp.mono e d _ a) (Dps.mono e ds _ r)
end
theorem Dp.up {d : D} {v : V} (h : Dp K G v d) (e : Same G G') : Dp K G' v d := Dp.mono e d v h
theorem Dps.up {ds : List D} {vs : List V} (h : Dps K G vs ds) (e : Same G G') : Dps K G' vs ds := Dps.mono e ds vs h
theorem Dps.len : ∀ {vs : List V} {ds : List D}, Dps K G vs ds → vs.length = ds.length
  | _, _, .nil => rfl
  | _, _, .cons _ r => congrArg (· + 1) (Dps.len r)
theorem Dps.get : ∀ {vs : List V} {ds : List D} {i : Nat} {d : D}, Dps K G vs ds → ds[i]? = some d → ∃ v, vs[i]? = some v ∧ Dp K G v d
  | _, _, _, _, .nil, h => by simp at h
  | _, _, 0, _, .cons a _, h => by
    have e := Option.some.inj h
    subst e
    exact ⟨_, rfl, a⟩
  | _, _, i + 1, _, .cons _ r, h => Dps.get (i := i) r h
theorem Dps.getV : ∀ {vs : List V} {ds : List D} {i : Nat} {v : V}, Dps K G vs ds → vs[i]? = some v → ∃ d, ds[i]? = some d ∧ Dp K G v d
  | _, _, _, _, .nil, h => by simp at h
  | _, _, 0, _, .cons a _, h => by
    have e := Option.some.inj h
    subst e
    exact ⟨_, rfl, a⟩
  | _, _, i + 1, _, .cons _ r, h => Dps.getV (i := i) r h
theorem Dps.app : ∀ {vs ws : List V} {ds es : List D}, Dps K G vs ds → Dps K G ws es → Dps K G (vs ++ ws) (ds ++ es)
  | _, _, _, _, .nil, s => s
  | _, _, _, _, .cons a r, s => .cons a (Dps.app r s)
theorem Dps.take : ∀ {vs : List V} {ds : List D} (n : Nat), Dps K G vs ds → Dps K G (vs.take n) (ds.take n)
  | _, _, 0, _ => .nil
  | _, _, _ + 1, .nil => .nil
  | _, _, n + 1, .cons a r => .cons a (Dps.take n r)
theorem Dps.drop : ∀ {vs : List V} {ds : List D} (n : Nat), Dps K G vs ds → Dps K G (vs.drop n) (ds.drop n)
  | _, _, 0, r => r
  | _, _, _ + 1, .nil => .nil
  | _, _, n + 1, .cons _ r => Dps.drop n r
theorem Dps.set {v : V} {d : D} (a : Dp K G v d) : ∀ {vs : List V} {ds : List D} (i : Nat), Dps K G vs ds → Dps K G (vs.set i v) (ds.set i d)
  | _, _, _, .nil => .nil
  | _, _, 0, .cons _ r => .cons a r
  | _, _, i + 1, .cons b r => .cons b (Dps.set a i r)
theorem Dps.rep {vs : List V} {ds : List D} (h : Dps K G vs ds) : ∀ k : Nat, Dps K G (List.replicate k vs).flatten (List.replicate k ds).flatten
  | 0 => .nil
  | k + 1 => by
    rw [List.replicate_succ, List.replicate_succ, List.flatten_cons, List.flatten_cons]
    exact h.app (h.rep k)
theorem Dps.ints : ∀ (ns : List Int), Dps K G (ns.map V.int) (ns.map D.int)
  | [] => .nil
  | n :: ns => .cons (.int n) (Dps.ints ns)
end

/-! ### the table of mutable objects, the environment -/
inductive Ob where
  | dead | lst (xs : List D)
  /-- a dict with texts for keys -/
  | dic (ks : List Str) (ds : List D)
  /-- an instance of a class of one's own, its attributes -/
  | ins (C : Str) (fs : List (Str × D))
inductive Sl where
  | dat (d : D) | ob (k : Nat)
  /-- a lambda, called while its maker runs: G0, la0 are what was known when it was made -/
  | clo (f : Addr) (G0 : Hp) (la0 : List Addr)
structure Env where
  T : List Ob
  s : List (Option Sl)

def dkv (ks : List Str) (vs : List V) : List (Key × V) := (ks.zip vs).map fun p => (.inr p.1, p.2)
def ObR (K : PySem.W.Frag) (G H : Hp) (a : Addr) : Ob → Prop
  | .dead => True
  | .lst ds => G a = none ∧ ∃ vs, H a = some (.lst vs) ∧ vs.length ≤ sizeLine ∧ Dps K G vs ds
  | .dic ks ds => G a = none ∧ ∃ vs, H a = some (.dK (dkv ks vs)) ∧ ks.length = vs.length ∧ vs.length ≤ 1000 ∧ Dps K G vs ds
  | .ins C fs => G a = none ∧ ∃ Ca dx vs, PySem.W.nsIn K mainGlobals C = some (some (.ref Ca)) ∧ H a = some (.ins Ca dx vs) ∧ H dx = some (.own a) ∧ vs.map (·.1) = fs.map (·.1) ∧ Dps K G (vs.map (·.2)) (fs.map (·.2))
def SlR (K : PySem.W.Frag) (G : Hp) (la : List Addr) (v : V) : Sl → Prop
  | .dat d => Dp K G v d
  | .ob k => ∃ a, la[k]? = some a ∧ v = .ref a
  | .clo f G0 la0 => v = .ref f ∧ Same G0 G ∧ la0 <+: la
/-- the defs that make lambdas, the tables of their code objects -/
def lamDefs : List Str := ["law", "_law_lots", "_law_tried", "_law_signs_right", "_law_refused", "_law_called", "_law_shows", "_law_nested", "_law_ended", "_law_back", "_law_full_right", "_law_first_calls", "_law_pair_calls", "_law_place_calls", "_law_many_calls"]
def tabsOf (K : PySem.W.Frag) : List (Addr × Str) := lamDefs.filterMap fun x => (PySem.W.tabIn K x).map fun cp => (cp.2, x ++ ".<locals>." ++ "<lambda>")
/-- something stands at a, no table -/
def Thr (H : Hp) (a : Addr) : Prop := ∃ o, H a = some o ∧ ∀ ps, o ≠ .tbl ps
def NoTbl (G : Hp) : Prop := ∀ (b : Addr) (ps : Array Value), G b ≠ some (.tbl ps)
theorem NoTbl.upd {G : Hp} (h : NoTbl G) {p : Addr} {o : HO} (ho : ∀ ps, o ≠ .tbl ps) : NoTbl (upd G p o) := fun b ps e => by
  by_cases hb : b = p
  · subst hb
    rw [upd_same] at e
    exact ho ps (Option.some.inj e)
  · rw [upd_ne hb] at e
    exact h b ps e
structure Rl (K : PySem.W.Frag) (G H : Hp) (la : List Addr) (T : List Ob) : Prop where
  ext : Same G H
  nd : la.Nodup
  len : la.length = T.length
  tab : ∀ (k : Nat) (a : Addr) (o : Ob), la[k]? = some a → T[k]? = some o → ObR K G H a o
  there : ∀ (k : Nat) (a : Addr), la[k]? = some a → Thr H a
  nt : NoTbl G
  tbl : ∀ p ∈ tabsOf K, G p.1 = none ∧ LamX.TabS H p.1 p.2
structure Re (K : PySem.W.Frag) (G H : Hp) (la : List Addr) (σ : L2.St) (ρ : Env) : Prop where
  tb : Rl K G H la ρ.T
  sl : ρ.s.length = σ.length
  at_ : ∀ (i : Nat) (x : Sl), ρ.s[i]? = some (some x) → ∃ v, σ[i]? = some (some v) ∧ SlR K G la v x

/-- the heap, and the known part of it, grow -/
structure Grow (G H G' H' : Hp) : Prop where
  g : Same G G'
  h : Same H H'
  i : Same G' H'
  n : ∀ a, G a = none → H a ≠ none → G' a = none
  t : NoTbl G → NoTbl G'
section
variable {K : PySem.W.Frag} {G H G' H' : Hp} {la la' : List Addr} {σ : L2.St} {ρ : Env} {T : List Ob}
theorem Grow.refl (e : Same G H) : Grow G H G H := ⟨Same.refl _, Same.refl _, e, fun _ h _ => h, fun h => h⟩
theorem same_new {H : Hp} {p : Addr} {o : HO} (h : H p = none) : Same H (upd H p o) := fun b x e => by
  rw [upd_ne (ne_of_none e h)]
  exact e
theorem same_upd2 {p : Addr} {o : HO} (e : Same G H) : Same (upd G p o) (upd H p o) := fun b x q => by
  by_cases hb : b = p
  · subst hb
    rw [upd_same] at q ⊢
    exact q
  · rw [upd_ne hb] at q ⊢
    exact e b x q
theorem none_of (e : Same G H) {p : Addr} (h : H p = none) : G p = none := e.free h
/-- a new object, known -/
theorem Grow.new {p : Addr} {o : HO} (e : Same G H) (h : H p = none) (ho : ∀ ps, o ≠ .tbl ps := by intro ps z; cases z) : Grow G H (upd G p o) (upd H p o) :=
  ⟨same_new (none_of e h), same_new h, same_upd2 e, fun a ga ha => by
    rw [upd_ne (fun z => ha (by rw [z]; exact h))]
    exact ga, fun n => n.upd ho⟩
theorem Grow.trans {G2 H2 : Hp} (x : Grow G H G' H') (y : Grow G' H' G2 H2) : Grow G H G2 H2 :=
  ⟨x.g.trans y.g, x.h.trans y.h, y.i, fun a ga ha => y.n a (x.n a ga ha) (fun z => by
    cases q : H a with
    | none => exact ha q
    | some o =>
      rw [x.h a o q] at z
      cases z), fun n => y.t (x.t n)⟩
theorem tabS_some {H : Hp} {P : Addr} {q : Str} (h : LamX.TabS H P q) : H P ≠ none := by
  obtain ⟨ps, e, _⟩ := h
  rw [e]
  simp
theorem tabS_write {H : Hp} {P a : Addr} {q : Str} {vs ws : List V} (h : LamX.TabS H P q) (ha : H a = some (.lst vs)) : LamX.TabS (upd H a (.lst ws)) P q := by
  obtain ⟨ps, e, t, f⟩ := h
  have n1 : P ≠ a := fun z => by
    rw [z, ha] at e
    cases e
  refine ⟨ps, by rw [upd_ne n1]; exact e, t, fun pos cv hc => ?_⟩
  obtain ⟨c, e1, e2⟩ := f pos cv hc
  have n2 : c ≠ a := fun z => by
    rw [z, ha] at e2
    have := Option.some.inj e2
    unfold LamX.CodeO at this
    cases this
  exact ⟨c, e1, by rw [upd_ne n2]; exact e2⟩
theorem ObR.grow (w : Grow G H G' H') {a : Addr} : ∀ {o : Ob}, ObR K G H a o → ObR K G' H' a o
  | .dead, _ => True.intro
  | .lst ds, ⟨g, vs, h, l, r⟩ => ⟨w.n a g (by rw [h]; simp), vs, w.h _ _ h, l, r.up w.g⟩
  | .dic ks ds, ⟨g, vs, h, e, l, r⟩ => ⟨w.n a g (by rw [h]; simp), vs, w.h _ _ h, e, l, r.up w.g⟩
  | .ins C fs, ⟨g, Ca, dx, vs, n, h, o, e, r⟩ => ⟨w.n a g (by rw [h]; simp), Ca, dx, vs, n, w.h _ _ h, w.h _ _ o, e, r.up w.g⟩
theorem SlR.grow (w : Same G G') (pf : la <+: la') {v : V} : ∀ {x : Sl}, SlR K G la v x → SlR K G' la' v x
  | .dat d, h => Dp.up (show Dp K G v d from h) w
  | .ob k, ⟨a, h, e⟩ => ⟨a, by
      obtain ⟨t, rfl⟩ := pf
      rw [List.getElem?_append_left (List.getElem?_eq_some_iff.mp h).1]
      exact h, e⟩
  | .clo f G0 la0, ⟨e, g, p⟩ => ⟨e, g.trans w, p.trans pf⟩
theorem there_grow (w : Same H H') {a : Addr} (h : Thr H a) : Thr H' a := by
  obtain ⟨o, h, n⟩ := h
  exact ⟨o, w a o h, n⟩
theorem Rl.grow (w : Grow G H G' H') (r : Rl K G H la T) : Rl K G' H' la T :=
  ⟨w.i, r.nd, r.len, fun k a o h1 h2 => (r.tab k a o h1 h2).grow w, fun k a h => there_grow w.h (r.there k a h), w.t r.nt, fun p hp => ⟨w.n p.1 (r.tbl p hp).1 (tabS_some (r.tbl p hp).2), (r.tbl p hp).2.ext w.h⟩⟩
theorem Re.grow (w : Grow G H G' H') (r : Re K G H la σ ρ) : Re K G' H' la σ ρ :=
  ⟨r.tb.grow w, r.sl, fun i x h => by
    obtain ⟨v, a, b⟩ := r.at_ i x h
    exact ⟨v, a, b.grow w.g (List.prefix_rfl)⟩⟩
theorem Re.ext (r : Re K G H la σ ρ) : Same G H := r.tb.ext
/-- a slot is set -/
theorem Re.set (r : Re K G H la σ ρ) {i : Nat} {v : V} {x : Sl} (h : SlR K G la v x) : Re K G H la (σ.set i (some v)) ⟨ρ.T, ρ.s.set i (some x)⟩ :=
  ⟨r.tb, by simp [r.sl], fun j y hy => by
    by_cases hj : j = i
    · subst hj
      by_cases hl : j < ρ.s.length
      · have hl2 : j < σ.length := by rw [← r.sl]; exact hl
        rw [show (⟨ρ.T, ρ.s.set j (some x)⟩ : Env).s = ρ.s.set j (some x) from rfl, List.getElem?_set_self hl] at hy
        have e := Option.some.inj (Option.some.inj hy)
        subst e
        exact ⟨v, List.getElem?_set_self hl2, h⟩
      · have hy' : (ρ.s.set j (some x))[j]? = some (some y) := hy
        rw [List.getElem?_eq_none (by simpa using hl)] at hy'
        cases hy'
    · have hy' : (ρ.s.set i (some x))[j]? = some (some y) := hy
      rw [List.getElem?_set_ne (Ne.symm hj)] at hy'
      obtain ⟨u, a, b⟩ := r.at_ j y hy'
      exact ⟨u, by rw [List.getElem?_set_ne (Ne.symm hj)]; exact a, b⟩⟩
/-- a slot is forgotten, at both -/
theorem Re.forget (r : Re K G H la σ ρ) (i : Nat) : Re K G H la (σ.set i none) ⟨ρ.T, ρ.s.set i none⟩ :=
  ⟨r.tb, by simp [r.sl], fun j y hy => by
    have hy' : (ρ.s.set i none)[j]? = some (some y) := hy
    by_cases hj : j = i
    · subst hj
      by_cases hl : j < ρ.s.length
      · rw [List.getElem?_set_self hl] at hy'
        cases hy'
      · rw [List.getElem?_eq_none (by simpa using hl)] at hy'
        cases hy'
    · rw [List.getElem?_set_ne (Ne.symm hj)] at hy'
      obtain ⟨u, a, b⟩ := r.at_ j y hy'
      exact ⟨u, by rw [List.getElem?_set_ne (Ne.symm hj)]; exact a, b⟩⟩
/-- the list at k becomes known for ever -/
theorem Rl.freeze (r : Rl K G H la T) {k : Nat} {a : Addr} {xs : List D} (ha : la[k]? = some a) (hk : T[k]? = some (.lst xs)) :
    ∃ vs, H a = some (.lst vs) ∧ G a = none ∧ Same G (upd G a (.lst vs)) ∧ Dp K (upd G a (.lst vs)) (.ref a) (.lst xs) ∧ Rl K (upd G a (.lst vs)) H la (T.set k .dead) := by
  obtain ⟨g, vs, h, l, d⟩ := r.tab k a _ ha hk
  have s1 : Same G (upd G a (.lst vs)) := same_new g
  refine ⟨vs, h, g, s1, .lst upd_same l (d.up s1), ⟨fun b o e => ?_, r.nd, by simp [r.len], fun j b o hb ho => ?_, r.there, r.nt.upd (by intro ps z; cases z), fun p hp => ?_⟩⟩
  · by_cases hb : b = a
    · subst hb
      rw [upd_same] at e
      rw [← e]
      exact h
    · rw [upd_ne hb] at e
      exact r.ext b o e
  · by_cases hj : j = k
    · subst hj
      have hl : j < T.length := (List.getElem?_eq_some_iff.mp hk).1
      rw [List.getElem?_set_self hl] at ho
      have e := Option.some.inj ho
      subst e
      exact True.intro
    · rw [List.getElem?_set_ne (Ne.symm hj)] at ho
      have nb : b ≠ a := fun e => by
        subst e
        obtain ⟨h1, e1⟩ := List.getElem?_eq_some_iff.mp hb
        obtain ⟨h2, e2⟩ := List.getElem?_eq_some_iff.mp ha
        exact hj ((List.getElem_inj r.nd).mp (e1.trans e2.symm))
      have z := r.tab j b o hb ho
      cases o with
      | dead => exact True.intro
      | lst ds =>
        obtain ⟨g2, vs2, h2, l2, d2⟩ := z
        exact ⟨by rw [upd_ne nb]; exact g2, vs2, h2, l2, d2.up s1⟩
      | dic ks ds =>
        obtain ⟨g2, vs2, h2, e2, l2, d2⟩ := z
        exact ⟨by rw [upd_ne nb]; exact g2, vs2, h2, e2, l2, d2.up s1⟩
      | ins C fs =>
        obtain ⟨g2, Ca, dx, vs2, n2, h2, o2, e2, d2⟩ := z
        exact ⟨by rw [upd_ne nb]; exact g2, Ca, dx, vs2, n2, h2, o2, e2, d2.up s1⟩
  · obtain ⟨z1, z2⟩ := r.tbl p hp
    refine ⟨?_, z2⟩
    rw [upd_ne fun e => ?_]
    · exact z1
    · obtain ⟨ps, z3, _⟩ := z2
      rw [e, h] at z3
      cases z3
/-- the list at k is written -/
theorem Rl.write (r : Rl K G H la T) {k : Nat} {a : Addr} {xs ys : List D} {ws : List V} (ha : la[k]? = some a) (hk : T[k]? = some (.lst xs)) (l : ws.length ≤ sizeLine) (d : Dps K G ws ys) :
    Rl K G (upd H a (.lst ws)) la (T.set k (.lst ys)) := by
  obtain ⟨g, vs, h, _, _⟩ := r.tab k a _ ha hk
  refine ⟨fun b o e => ?_, r.nd, by simp [r.len], fun j b o hb ho => ?_, fun j b hb => ?_, r.nt, fun p hp => ⟨(r.tbl p hp).1, tabS_write (r.tbl p hp).2 h⟩⟩
  · have nb : b ≠ a := fun z => by
      rw [z, g] at e
      cases e
    rw [upd_ne nb]
    exact r.ext b o e
  · by_cases hj : j = k
    · subst hj
      have hl : j < T.length := (List.getElem?_eq_some_iff.mp hk).1
      rw [List.getElem?_set_self hl] at ho
      have e := Option.some.inj ho
      subst e
      have e2 := Option.some.inj (hb.symm.trans ha)
      subst e2
      exact ⟨g, ws, upd_same, l, d⟩
    · rw [List.getElem?_set_ne (Ne.symm hj)] at ho
      have nb : b ≠ a := fun e => by
        subst e
        obtain ⟨h1, e1⟩ := List.getElem?_eq_some_iff.mp hb
        obtain ⟨h2, e2⟩ := List.getElem?_eq_some_iff.mp ha
        exact hj ((List.getElem_inj r.nd).mp (e1.trans e2.symm))
      have z := r.tab j b o hb ho
      cases o with
      | dead => exact True.intro
      | lst ds =>
        obtain ⟨g2, vs2, h2, l2, d2⟩ := z
        exact ⟨g2, vs2, by rw [upd_ne nb]; exact h2, l2, d2⟩
      | dic ks ds =>
        obtain ⟨g2, vs2, h2, e2, l2, d2⟩ := z
        exact ⟨g2, vs2, by rw [upd_ne nb]; exact h2, e2, l2, d2⟩
      | ins C fs =>
        obtain ⟨g2, Ca, dx, vs2, n2, h2, o2, e2, d2⟩ := z
        exact ⟨g2, Ca, dx, vs2, n2, by rw [upd_ne nb]; exact h2, by rw [upd_ne (fun z => by rw [z, h] at o2; cases o2)]; exact o2, e2, d2⟩
  · by_cases hb2 : b = a
    · subst hb2
      exact ⟨_, upd_same, by intro ps z; cases z⟩
    · obtain ⟨o, h, n⟩ := r.there j b hb
      exact ⟨o, by rw [upd_ne hb2]; exact h, n⟩
/-- a new list, ours alone -/
theorem Rl.fresh (r : Rl K G H la T) {p : Addr} {vs : List V} {xs : List D} (hp : H p = none) (l : vs.length ≤ sizeLine) (d : Dps K G vs xs) :
    Rl K G (upd H p (.lst vs)) (la ++ [p]) (T ++ [.lst xs]) := by
  have hn : p ∉ la := fun hm => by
    obtain ⟨i, hi, e⟩ := List.getElem_of_mem hm
    obtain ⟨o, h, _⟩ := r.there i p (by rw [List.getElem?_eq_getElem hi, e])
    rw [hp] at h
    cases h
  have s1 : Same H (upd H p (.lst vs)) := same_new hp
  refine ⟨r.ext.trans s1, ?_, by simp [r.len], fun j b o hb ho => ?_, fun j b hb => ?_, r.nt, fun q hq => ⟨(r.tbl q hq).1, (r.tbl q hq).2.ext s1⟩⟩
  · rw [List.nodup_append]
    exact ⟨r.nd, by simp, fun x hx y hy => by
      have e : y = p := by simpa using hy
      rw [e]
      intro z
      exact hn (z ▸ hx)⟩
  · by_cases hj : j < la.length
    · rw [List.getElem?_append_left hj] at hb
      rw [List.getElem?_append_left (by rw [← r.len]; exact hj)] at ho
      exact (r.tab j b o hb ho).grow ⟨Same.refl _, s1, r.ext.trans s1, fun _ h _ => h, fun h => h⟩
    · rw [List.getElem?_append_right (by omega)] at hb
      rw [List.getElem?_append_right (by rw [← r.len]; omega), ← r.len] at ho
      cases q : j - la.length with
      | zero =>
        rw [q] at hb ho
        have e1 : p = b := Option.some.inj hb
        have e2 : Ob.lst xs = o := Option.some.inj ho
        subst e1 e2
        exact ⟨none_of r.ext hp, vs, upd_same, l, d⟩
      | succ m =>
        rw [q] at hb
        simp at hb
  · by_cases hj : j < la.length
    · rw [List.getElem?_append_left hj] at hb
      exact there_grow s1 (r.there j b hb)
    · rw [List.getElem?_append_right (by omega)] at hb
      cases q : j - la.length with
      | zero =>
        rw [q] at hb
        have e1 : p = b := Option.some.inj hb
        subst e1
        exact ⟨_, upd_same, by intro ps z; cases z⟩
      | succ m =>
        rw [q] at hb
        simp at hb
end
end DL
set_option Elab.async false
set_option linter.all false
set_option maxRecDepth 100000
set_option maxHeartbeats 4000000
set_option autoImplicit false
/-! The data level: readings (expressions, tests, arguments, statements) and what they mean of the heap. -/
namespace DL
open PySem PySem.Spec PyProof.Rows L2

/-- an exception: its class, its own field -/
structure Xn where
  n : Str
  f : Option (Str × D)
def XR (K : PySem.W.Frag) (G H : Hp) (x : Xn) (cls : Value) (od : Option Addr) : Prop := PySem.W.nsIn K mainGlobals x.n = some (some cls) ∧ match x.f with
  | none => True
  | some (f, d) => ∃ a v, od = some a ∧ H a = some (.xd [(f, v)]) ∧ Dp K G v d
abbrev XP := Xn → Env → Prop
abbrev DE := XP → Env → (D → Env → Prop) → Prop
abbrev DL' := XP → Env → (Sl → Env → Prop) → Prop
abbrev DT := XP → Env → (Bool → Env → Prop) → Prop
abbrev DA := XP → Env → (List Sl → Env → Prop) → Prop
abbrev DI := XP → Env → (List D → Env → Prop) → Prop
abbrev DG := D → Env → (Env → Prop) → Prop
structure DN where
  nx : Env → Prop
  rt : Sl → Env → Prop
  bk : Env → Prop := fun _ => False
  ct : Env → Prop := fun _ => False
  xn : XP
abbrev DS := DN → Env → Prop

/-- a state behind another one -/
structure Aft (K : PySem.W.Frag) (G : Hp) (la : List Addr) (σ : L2.St) (ρ : Env) (G' : Hp) (la' : List Addr) (H' : Hp) : Prop where
  g : Same G G'
  p : la <+: la'
  r : Re K G' H' la' σ ρ
def XO (K : PySem.W.Frag) (G : Hp) (la : List Addr) (W : WX) (X : XP) : Prop := ∀ (x : Xn) (ρ' : Env) (σ' : L2.St) (G' : Hp) (la' : List Addr) (H' : Hp) (cls : Value) (od : Option Addr),
  X x ρ' → Aft K G la σ' ρ' G' la' H' → XR K G' H' x cls od → W cls od σ' H'
inductive SlsR (K : PySem.W.Frag) (G : Hp) (la : List Addr) : List V → List Sl → Prop
  | nil : SlsR K G la [] []
  | cons {v : V} {vs : List V} {x : Sl} {xs : List Sl} : SlR K G la v x → SlsR K G la vs xs → SlsR K G la (v :: vs) (x :: xs)

def lE (K : PySem.W.Frag) (W : WX) (f : DE) : TE := fun σ H Q => ∃ ρ G la P X, Re K G H la σ ρ ∧ f X ρ P ∧ (∀ d ρ' v G' la' H', P d ρ' → Aft K G la σ ρ' G' la' H' → Dp K G' v d → Q v H') ∧ XO K G la W X
def lL (K : PySem.W.Frag) (W : WX) (f : DL') : TE := fun σ H Q => ∃ ρ G la P X, Re K G H la σ ρ ∧ f X ρ P ∧ (∀ d ρ' v G' la' H', P d ρ' → Aft K G la σ ρ' G' la' H' → SlR K G' la' v d → Q v H') ∧ XO K G la W X
def lT (K : PySem.W.Frag) (W : WX) (f : DT) : TT := fun σ H Q => ∃ ρ G la P X, Re K G H la σ ρ ∧ f X ρ P ∧ (∀ b ρ' G' la' H', P b ρ' → Aft K G la σ ρ' G' la' H' → Q b H') ∧ XO K G la W X
def lA (K : PySem.W.Frag) (W : WX) (f : DA) : TA := fun σ H Q => ∃ ρ G la P X, Re K G H la σ ρ ∧ f X ρ P ∧ (∀ xs ρ' vs G' la' H', P xs ρ' → Aft K G la σ ρ' G' la' H' → SlsR K G' la' vs xs → Q vs H') ∧ XO K G la W X
structure Bk (K : PySem.W.Frag) (G : Hp) (la : List Addr) (W : WX) (E : DN) (D : Ends) : Prop where
  nx : ∀ (ρ' : Env) (σ' : L2.St) (G' : Hp) (la' : List Addr) (H' : Hp), E.nx ρ' → Aft K G la σ' ρ' G' la' H' → D.nx σ' H'
  bk : ∀ (ρ' : Env) (σ' : L2.St) (G' : Hp) (la' : List Addr) (H' : Hp), E.bk ρ' → Aft K G la σ' ρ' G' la' H' → D.bk σ' H'
  ct : ∀ (ρ' : Env) (σ' : L2.St) (G' : Hp) (la' : List Addr) (H' : Hp), E.ct ρ' → Aft K G la σ' ρ' G' la' H' → D.ct σ' H'
  rt : ∀ (x : Sl) (ρ' : Env) (v : V) (σ' : L2.St) (G' : Hp) (la' : List Addr) (H' : Hp), E.rt x ρ' → Aft K G la σ' ρ' G' la' H' → SlR K G' la' v x → D.rt v H'
  xn : XO K G la W E.xn
def lS (K : PySem.W.Frag) (W : WX) (f : DS) : TS := fun D σ H => ∃ ρ G la E, Re K G H la σ ρ ∧ f E ρ ∧ Bk K G la W E D

section
variable {K : PySem.W.Frag} {G G' G2 H H' H2 : Hp} {la la' la2 : List Addr} {σ : L2.St} {ρ ρ' ρ2 : Env} {W : WX} {X : XP} {E : DN} {D : Ends}
theorem Aft.refl (r : Re K G H la σ ρ) : Aft K G la σ ρ G la H := ⟨Same.refl _, List.prefix_rfl, r⟩
theorem Aft.trans {σ' : L2.St} (a : Aft K G la σ ρ G' la' H') (b : Aft K G' la' σ' ρ2 G2 la2 H2) : Aft K G la σ' ρ2 G2 la2 H2 := ⟨a.g.trans b.g, a.p.trans b.p, b.r⟩
theorem Aft.grow (a : Aft K G la σ ρ G' la' H') (w : Grow G' H' G2 H2) : Aft K G la σ ρ G2 la' H2 := ⟨a.g.trans w.g, a.p, a.r.grow w⟩
theorem XO.up (x : XO K G la W X) (g : Same G G') (p : la <+: la') : XO K G' la' W X := fun y ρ' σ' G2 la2 H2 cls od h a z => x y ρ' σ' G2 la2 H2 cls od h ⟨g.trans a.g, p.trans a.p, a.r⟩ z
theorem Bk.up (b : Bk K G la W E D) (g : Same G G') (p : la <+: la') : Bk K G' la' W E D :=
  ⟨fun ρ' σ' G2 la2 H2 h a => b.nx ρ' σ' G2 la2 H2 h ⟨g.trans a.g, p.trans a.p, a.r⟩, fun ρ' σ' G2 la2 H2 h a => b.bk ρ' σ' G2 la2 H2 h ⟨g.trans a.g, p.trans a.p, a.r⟩,
   fun ρ' σ' G2 la2 H2 h a => b.ct ρ' σ' G2 la2 H2 h ⟨g.trans a.g, p.trans a.p, a.r⟩, fun x ρ' v σ' G2 la2 H2 h a r => b.rt x ρ' v σ' G2 la2 H2 h ⟨g.trans a.g, p.trans a.p, a.r⟩ r, b.xn.up g p⟩
theorem SlsR.up (g : Same G G') (p : la <+: la') : ∀ {vs : List V} {xs : List Sl}, SlsR K G la vs xs → SlsR K G' la' vs xs
  | _, _, .nil => .nil
  | _, _, .cons a r => .cons (a.grow g p) (SlsR.up g p r)
theorem SlsR.len : ∀ {vs : List V} {xs : List Sl}, SlsR K G la vs xs → vs.length = xs.length
  | _, _, .nil => rfl
  | _, _, .cons _ r => congrArg (· + 1) (SlsR.len r)
theorem SlsR.get : ∀ {vs : List V} {xs : List Sl} {i : Nat} {x : Sl}, SlsR K G la vs xs → xs[i]? = some x → ∃ v, vs[i]? = some v ∧ SlR K G la v x
  | _, _, _, _, .nil, h => by simp at h
  | _, _, 0, _, .cons a _, h => by
    have e := Option.some.inj h
    subst e
    exact ⟨_, rfl, a⟩
  | _, _, i + 1, _, .cons _ r, h => SlsR.get (i := i) r h
end

/-! ### weakening -/
theorem pe_imp {X : Cx} {e : Expr} {t t' : TE} (h : PE X e t) (w : ∀ σ H Q, t' σ H Q → t σ H Q) : PE X e t' := ⟨fun pins s σ H Q I q => h.run pins s σ H Q I (w σ H Q q)⟩
theorem pt_imp {X : Cx} {e : Expr} {t t' : TT} (h : PT X e t) (w : ∀ σ H Q, t' σ H Q → t σ H Q) : PT X e t' := ⟨fun pins s σ H Q I q => h.run pins s σ H Q I (w σ H Q q)⟩
theorem pw_imp {X : Cx} {e : Expr} {t t' : TT} (h : PW X e t) (w : ∀ σ H Q, t' σ H Q → t σ H Q) : PW X e t' := ⟨fun wh pins s σ H Q I q => h.run wh pins s σ H Q I (w σ H Q q)⟩
theorem pa_imp {X : Cx} {es : List Expr} {t t' : TA} (h : PA X es t) (w : ∀ σ H Q, t' σ H Q → t σ H Q) : PA X es t' := ⟨fun pos pins s σ H Q I q => h.run pos pins s σ H Q I (w σ H Q q)⟩
theorem ps_imp {X : Cx} {st : Stmt} {t t' : TS} (h : PS X st t) (w : ∀ D σ H, t' D σ H → t D σ H) : PS X st t' := ⟨fun pins s σ H D I q => h.run pins s σ H D I (w D σ H q)⟩
theorem pss_imp {X : Cx} {st : List Stmt} {t t' : TS} (h : PSs X st t) (w : ∀ D σ H, t' D σ H → t D σ H) : PSs X st t' := ⟨fun pins s σ H D I q => h.run pins s σ H D I (w D σ H q)⟩

/-! ### the readings at data level -/
def dVar (i : Nat) : DE := fun _ ρ Q => match ρ.s[i]? with
  | some (some (.dat d)) => Q d ρ
  | some (some (.ob k)) => match ρ.T[k]? with
    | some (.lst xs) => Q (.lst xs) ⟨ρ.T.set k .dead, ρ.s.set i (some (.dat (.lst xs)))⟩
    | _ => False
  | _ => False
def dC (d : D) : DE := fun _ ρ Q => Q d ρ
def dVarL (i : Nat) : DL' := fun _ ρ Q => match ρ.s[i]? with
  | some (some x) => Q x ρ
  | _ => False
def dDat (f : DE) : DL' := fun X ρ Q => f X ρ fun d ρ' => Q (.dat d) ρ'
/-- an object that nobody else has becomes data -/

class Kept (α : Type) where
  q : α
def valK [h : Kept (D → Env → Prop)] : Sl → Env → Prop := fun x ρ' => match x with
  | .dat d => h.q d ρ'
  | .ob k => match ρ'.T[k]? with
    | some (.lst xs) => h.q (.lst xs) ⟨ρ'.T.set k .dead, ρ'.s⟩
    | _ => False
  | .clo _ _ _ => False
def dVal (f : DL') : DE := fun X ρ Q => f X ρ (@valK ⟨Q⟩)
def dBin (g : D → D → (D → Prop) → Prop) (fa fb : DE) : DE := fun X ρ Q => fa X ρ fun d ρ1 => fb X ρ1 fun e ρ2 => g d e fun z => Q z ρ2
def dUn (g : D → (D → Prop) → Prop) (fa : DE) : DE := fun X ρ Q => fa X ρ fun d ρ1 => g d fun z => Q z ρ1
def dNil : DA := fun _ ρ Q => Q [] ρ
def dCons (fa : DL') (fr : DA) : DA := fun X ρ Q => fa X ρ fun x ρ1 => fr X ρ1 fun xs ρ2 => Q (x :: xs) ρ2
/-- all of them data -/
def dats : List Sl → Option (List D)
  | [] => some []
  | .dat d :: r => (dats r).map (d :: ·)
  | _ :: _ => none
def dTup (fa : DA) : DE := fun X ρ Q => fa X ρ fun xs ρ' => match dats xs with
  | some ds => ds.length ≤ 1000 ∧ Q (.tup ds) ρ'
  | none => False
def dLst (fa : DA) : DE := fun X ρ Q => fa X ρ fun xs ρ' => match dats xs with
  | some ds => ds.length ≤ 1000 ∧ Q (.lst ds) ρ'
  | none => False
/-- a list that may be changed -/
def dNew (fa : DA) : DL' := fun X ρ Q => fa X ρ fun xs ρ' => match dats xs with
  | some ds => ds.length ≤ 1000 ∧ Q (.ob ρ'.T.length) ⟨ρ'.T ++ [.lst ds], ρ'.s⟩
  | none => False
def dTest (f : DE) : DT := fun X ρ Q => f X ρ fun d ρ' => match d with
  | .bl b => Q b ρ'
  | _ => False
def dtAnd (t u : DT) : DT := fun X ρ Q => t X ρ fun b ρ' => if b = true then u X ρ' Q else Q false ρ'
def dtOr (t u : DT) : DT := fun X ρ Q => t X ρ fun b ρ' => if b = true then Q true ρ' else u X ρ' Q
def dtNot (t : DT) : DT := fun X ρ Q => t X ρ fun b ρ' => Q (!b) ρ'
def dAnd (f : DE) (g : DE) : DE := fun X ρ Q => f X ρ fun d ρ' => match d with
  | .bl b => if b = true then g X ρ' Q else Q (.bl false) ρ'
  | _ => False
def dOr (f : DE) (g : DE) : DE := fun X ρ Q => f X ρ fun d ρ' => match d with
  | .bl b => if b = true then Q (.bl true) ρ' else g X ρ' Q
  | _ => False
def dNot (f : DE) : DE := fun X ρ Q => f X ρ fun d ρ' => match d with
  | .bl b => Q (.bl (!b)) ρ'
  | _ => False
def dIf (t : DT) (f g : DE) : DE := fun X ρ Q => t X ρ fun b ρ' => if b = true then f X ρ' Q else g X ρ' Q
def dChain (g g' : D → D → (D → Prop) → Prop) (fa fb fc : DE) : DE := fun X ρ Q => fa X ρ fun d ρ1 => fb X ρ1 fun e ρ2 => g d e fun z => match z with
  | .bl b => if b = true then fc X ρ2 fun c ρ3 => g' e c fun y => Q y ρ3 else Q (.bl false) ρ2
  | _ => False

section
variable {X : Cx} {W : WX}

/-! ### names, constants -/
theorem pv' (i : Nat) {x : Str} {pos : Pos} (hN : X.N[i]? = some x) (hv : Vis X.env.scope x) (hd : (x == ("__debug__" : Str)) = false) (hcd : (x == ("__classdict__" : Str)) = false) : PE X (.Name x pos) (tVar i) := pe_var hN hv hd hcd
theorem de_var (i : Nat) {x : Str} {pos : Pos} (hN : X.N[i]? = some x := by rfl) (hv : Vis X.env.scope x := by first | exact Or.inl rfl | exact Or.inr (Or.inl rfl) | exact Or.inr (Or.inr rfl)) (hd : (x == ("__debug__" : Str)) = false := by decide)
    (hcd : (x == ("__classdict__" : Str)) = false := by decide) : PE X (.Name x pos) (lE X.K W (dVar i)) := pe_imp (pe_var (i := i) hN hv hd hcd) fun σ H Q h => by
  obtain ⟨ρ, G, la, P, XX, r, f, q, _⟩ := h
  unfold dVar at f
  split at f
  · rename_i d hs
    obtain ⟨v, hv, rel⟩ := r.at_ _ _ hs
    exact ⟨v, hv, q _ _ _ _ _ _ f (Aft.refl r) rel⟩
  · rename_i k hs
    obtain ⟨v, hv, a, ha, ev⟩ := r.at_ _ _ hs
    subst ev
    split at f
    · rename_i xs hk
      obtain ⟨vs, hH, gn, s1, dp, rl⟩ := r.tb.freeze ha hk
      refine ⟨_, hv, q _ _ _ _ la _ f ⟨s1, List.prefix_rfl, ⟨rl, by simp [r.sl], fun j x hj => ?_⟩⟩ dp⟩
      have hj' : (ρ.s.set i (some (.dat (.lst xs))))[j]? = some (some x) := hj
      by_cases hji : j = i
      · subst hji
        rw [List.getElem?_set_self (List.getElem?_eq_some_iff.mp hs).1] at hj'
        have e := Option.some.inj (Option.some.inj hj')
        subst e
        exact ⟨_, hv, dp⟩
      · rw [List.getElem?_set_ne (Ne.symm hji)] at hj'
        obtain ⟨u, hu, ru⟩ := r.at_ j x hj'
        exact ⟨u, hu, ru.grow s1 List.prefix_rfl⟩
    · exact f.elim
  · exact f.elim
theorem dl_var (i : Nat) {x : Str} {pos : Pos} (hN : X.N[i]? = some x := by rfl) (hv : Vis X.env.scope x := by first | exact Or.inl rfl | exact Or.inr (Or.inl rfl) | exact Or.inr (Or.inr rfl)) (hd : (x == ("__debug__" : Str)) = false := by decide)
    (hcd : (x == ("__classdict__" : Str)) = false := by decide) : PE X (.Name x pos) (lL X.K W (dVarL i)) := pe_imp (pe_var (i := i) hN hv hd hcd) fun σ H Q h => by
  obtain ⟨ρ, G, la, P, XX, r, f, q, _⟩ := h
  unfold dVarL at f
  split at f
  · rename_i x hs
    obtain ⟨v, hv, rel⟩ := r.at_ _ _ hs
    exact ⟨v, hv, q _ _ _ _ _ _ f (Aft.refl r) rel⟩
  · exact f.elim
theorem de_c {e : Expr} {d : D} {v : V} (h : PE X e (tC v)) (hd : ∀ K G, Dp K G v d) : PE X e (lE X.K W (dC d)) := pe_imp h fun σ H Q ⟨ρ, G, la, P, XX, r, f, q, _⟩ => q _ _ _ _ _ _ f (Aft.refl r) (hd _ _)
theorem de_int {i j pos} : PE X (.Constant (.int i) j pos) (lE X.K W (dC (.int i))) := de_c pe_int fun _ _ => .int i
theorem de_bl {b j pos} : PE X (.Constant (.bool b) j pos) (lE X.K W (dC (.bl b))) := de_c pe_bl fun _ _ => .bl b
theorem de_non {j pos} : PE X (.Constant .none j pos) (lE X.K W (dC .non)) := de_c pe_non fun _ _ => .non
theorem de_str {x j pos} : PE X (.Constant (.str x) j pos) (lE X.K W (dC (.str x))) := de_c pe_str fun _ _ => .str x
theorem de_gint {x : Str} {i : Int} {t : Tok} {pos : Pos} (hm : X.mg x = some (.int i t)) (hg : Gl X x := by rfl) (hd : (x == ("__debug__" : Str)) = false := by decide) : PE X (.Name x pos) (lE X.K W (dC (.int i))) :=
  de_c (pe_glob hg hm (v := .int i) ⟨t, rfl⟩ hd) fun _ _ => .int i
theorem de_gfn {x : Str} {a : Addr} {pos : Pos} (hm : X.mg x = some (.ref a)) (hg : Gl X x := by rfl) (hd : (x == ("__debug__" : Str)) = false := by decide) : PE X (.Name x pos) (lE X.K W (dC (.raw (.ref a)))) :=
  de_c (pe_glob hg hm (v := .ref a) rfl hd) fun _ _ => .raw _
theorem dl_dat {e : Expr} {f : DE} (h : PE X e (lE X.K W f)) : PE X e (lL X.K W (dDat f)) := pe_imp h fun σ H Q ⟨ρ, G, la, P, XX, r, f, q, x⟩ => ⟨ρ, G, la, _, XX, r, f, fun d ρ' v G' la' H' p a z => q _ _ _ _ _ _ p a z, x⟩
theorem de_val {e : Expr} {f : DL'} (h : PE X e (lL X.K W f)) : PE X e (lE X.K W (dVal f)) := pe_imp h fun σ H Q ⟨ρ, G, la, P, XX, r, f, q, x⟩ => ⟨ρ, G, la, _, XX, r, f, fun d ρ' v G' la' H' p a z => by
  cases d with
  | dat d => exact q _ _ _ _ _ _ p a z
  | ob k =>
    obtain ⟨b, hb, ev⟩ := z
    subst ev
    have p' : (match ρ'.T[k]? with
      | some (.lst xs) => P (.lst xs) ⟨ρ'.T.set k .dead, ρ'.s⟩
      | _ => False) := p
    split at p'
    · rename_i xs hk
      obtain ⟨vs, hH, gn, s1, dp, rl⟩ := a.r.tb.freeze hb hk
      refine q _ _ _ _ la' _ p' ⟨a.g.trans s1, a.p, ⟨rl, a.r.sl, fun j y hj => ?_⟩⟩ dp
      obtain ⟨u, hu, ru⟩ := a.r.at_ j y hj
      exact ⟨u, hu, ru.grow s1 List.prefix_rfl⟩
    · exact p'.elim
  | clo _ _ _ => exact (show False from p).elim, x⟩

/-! ### argument lists, displays -/
theorem da_nil : PA X [] (lA X.K W dNil) := pa_imp pa_nil fun σ H Q ⟨ρ, G, la, P, XX, r, f, q, _⟩ => q _ _ _ _ _ _ f (Aft.refl r) .nil
theorem da_cons {e : Expr} {es : List Expr} {f : DL'} {g : DA} (he : PE X e (lL X.K W f)) (hs : PA X es (lA X.K W g)) (hst : starEach (e :: es) X.env = (false, eval e X.env) :: starEach es X.env := by rfl) : PA X (e :: es) (lA X.K W (dCons f g)) :=
  pa_imp (pa_cons he hs hst) fun σ H Q ⟨ρ, G, la, P, XX, r, h, q, xo⟩ => ⟨ρ, G, la, _, XX, r, h, fun x ρ1 v G1 la1 H1 p1 a1 z1 => ⟨ρ1, G1, la1, _, XX, a1.r, p1, fun xs ρ2 vs G2 la2 H2 p2 a2 z2 =>
    q _ _ _ _ _ _ p2 (a1.trans a2) (.cons (z1.grow a2.g a2.p) z2), xo.up a1.g a1.p⟩, xo⟩
theorem dats_of {K : PySem.W.Frag} {G : Hp} {la : List Addr} : ∀ {vs : List V} {xs : List Sl} {ds : List D}, SlsR K G la vs xs → dats xs = some ds → Dps K G vs ds
  | _, _, _, .nil, h => by
    have e := Option.some.inj h
    subst e
    exact .nil
  | _, .dat d :: r, _, .cons a s, h => by
    have h' : (dats r).map (d :: ·) = some _ := h
    obtain ⟨t, ht, e⟩ := Option.map_eq_some_iff.mp h'
    subst e
    exact .cons a (dats_of s ht)
  | _, .ob _ :: _, _, .cons _ _, h => by cases h
  | _, .clo _ _ _ :: _, _, .cons _ _, h => by cases h
theorem dats_len : ∀ {xs : List Sl} {ds : List D}, dats xs = some ds → xs.length = ds.length
  | [], _, h => by
    have e := Option.some.inj h
    subst e
    rfl
  | .dat d :: r, _, h => by
    have h' : (dats r).map (d :: ·) = some _ := h
    obtain ⟨t, ht, e⟩ := Option.map_eq_some_iff.mp h'
    subst e
    exact congrArg (· + 1) (dats_len ht)
  | .ob _ :: _, _, h => by cases h
  | .clo _ _ _ :: _, _, h => by cases h
theorem short {n : Nat} (h : n ≤ 1000) : n ≤ sizeLine := Nat.le_of_lt (small1000 h)
theorem tup_some {xs : List Sl} {ρ' : Env} {P : D → Env → Prop} {c : List D → D} (h : match dats xs with
    | some ds => ds.length ≤ 1000 ∧ P (c ds) ρ'
    | none => False) : ∃ ds, dats xs = some ds ∧ ds.length ≤ 1000 ∧ P (c ds) ρ' := by
  cases e : dats xs with
  | none =>
    rw [e] at h
    exact h.elim
  | some ds =>
    rw [e] at h
    exact ⟨ds, rfl, h.1, h.2⟩
theorem de_tup {es : List Expr} {f : DA} {k pos} (h : PA X es (lA X.K W f)) : PE X (.Tuple es k pos) (lE X.K W (dTup f)) :=
  pe_imp (pe_tup h) fun σ H Q ⟨ρ, G, la, P, XX, r, h, q, xo⟩ => ⟨ρ, G, la, _, XX, r, h, fun xs ρ1 vs G1 la1 H1 p1 a1 z1 => by
    obtain ⟨ds, hd, hn, p1⟩ := tup_some p1
    have l0 : vs.length ≤ sizeLine := by
      rw [z1.len, dats_len hd]
      exact short hn
    refine ⟨l0, fun p hp => ?_⟩
    have w := Grow.new (o := .tup vs) a1.r.ext hp
    exact q _ _ _ _ _ _ p1 (a1.grow w) (.tup (.inl (.inl upd_same)) l0 ((dats_of z1 hd).up w.g)), xo⟩
theorem de_lst {es : List Expr} {f : DA} {pos} (h : PA X es (lA X.K W f)) : PE X (.List es pos) (lE X.K W (dLst f)) :=
  pe_imp (pe_lst h) fun σ H Q ⟨ρ, G, la, P, XX, r, h, q, xo⟩ => ⟨ρ, G, la, _, XX, r, h, fun xs ρ1 vs G1 la1 H1 p1 a1 z1 => by
    obtain ⟨ds, hd, hn, p1⟩ := tup_some p1
    have l0 : vs.length ≤ sizeLine := by
      rw [z1.len, dats_len hd]
      exact short hn
    refine ⟨l0, fun p hp => ?_⟩
    have w := Grow.new (o := .lst vs) a1.r.ext hp
    exact q _ _ _ _ _ _ p1 (a1.grow w) (.lst upd_same l0 ((dats_of z1 hd).up w.g)), xo⟩
theorem dl_new {es : List Expr} {f : DA} {pos} (h : PA X es (lA X.K W f)) : PE X (.List es pos) (lL X.K W (dNew f)) :=
  pe_imp (pe_lst h) fun σ H Q ⟨ρ, G, la, P, XX, r, h, q, xo⟩ => ⟨ρ, G, la, _, XX, r, h, fun xs ρ1 vs G1 la1 H1 p1 a1 z1 => by
    have p1' : (match dats xs with
      | some ds => ds.length ≤ 1000 ∧ P (.ob ρ1.T.length) ⟨ρ1.T ++ [.lst ds], ρ1.s⟩
      | none => False) := p1
    split at p1'
    · rename_i ds hd
      obtain ⟨hn, p2⟩ := p1'
      have l0 : vs.length ≤ sizeLine := by
        rw [z1.len, dats_len hd]
        exact short hn
      refine ⟨l0, fun p hp => ?_⟩
      have rf := a1.r.tb.fresh hp l0 (dats_of z1 hd)
      refine q _ _ _ G1 (la1 ++ [p]) _ p2 ⟨a1.g, a1.p.trans (List.prefix_append _ _), ⟨rf, a1.r.sl, fun j y hj => ?_⟩⟩ ⟨p, ?_, rfl⟩
      · obtain ⟨u, hu, ru⟩ := a1.r.at_ j y hj
        exact ⟨u, hu, ru.grow (Same.refl _) (List.prefix_append _ _)⟩
      · rw [← a1.r.tb.len, List.getElem?_append_right (Nat.le_refl _)]
        simp
    · exact p1'.elim, xo⟩

/-! ### operators -/
/-- r on values does what g does on data -/
def GOp (K : PySem.W.Frag) (r : R2) (g : D → D → (D → Prop) → Prop) : Prop := ∀ (G H : Hp) (x y : V) (d e : D) (P : D → Prop) (Q : VK), Same G H → Dp K G x d → Dp K G y e → g d e P →
  (∀ z v G' H', P z → Grow G H G' H' → Dp K G' v z → Q v H') → r x y H Q
theorem bin_core {K : PySem.W.Frag} {r : R2} {g : D → D → (D → Prop) → Prop} {fa fb : DE} (hg : GOp K r g) : ∀ (σ : L2.St) (H : Hp) (Q : VK), lE K W (dBin g fa fb) σ H Q → tOp r (lE K W fa) (lE K W fb) σ H Q := fun σ H Q ⟨ρ, G, la, P, XX, re, h, q, xo⟩ =>
  ⟨ρ, G, la, _, XX, re, h, fun d ρ1 v G1 la1 H1 p1 a1 z1 => ⟨ρ1, G1, la1, _, XX, a1.r, p1, fun e ρ2 u G2 la2 H2 p2 a2 z2 =>
    hg G2 H2 v u d e _ Q a2.r.ext (z1.up a2.g) z2 p2 fun z w G' H' pz gr dz => q _ _ _ _ _ _ pz ((a1.trans a2).grow gr) dz, xo.up a1.g a1.p⟩, xo⟩
theorem de_bin {op : Operator} {a b : Expr} {r : R2} {g : D → D → (D → Prop) → Prop} {fa fb : DE} {pos : Pos} (ho : OpR X (binaryOp op) r) (hg : GOp X.K r g) (ha : PE X a (lE X.K W fa)) (hb : PE X b (lE X.K W fb)) : PE X (.BinOp a op b pos) (lE X.K W (dBin g fa fb)) :=
  pe_imp (pe_op ho ha hb) (bin_core hg)
theorem de_cmp {op : CmpOp} {a b : Expr} {r : R2} {g : D → D → (D → Prop) → Prop} {fa fb : DE} {pos : Pos} (ho : OpR X (compareOp op) r) (hg : GOp X.K r g) (ha : PE X a (lE X.K W fa)) (hb : PE X b (lE X.K W fb)) (hm : behindInMarks op b = false) : PE X (.Compare a [op] [b] pos) (lE X.K W (dBin g fa fb)) :=
  pe_imp (pe_cmpR ho ha hb hm) (bin_core hg)
theorem chain_core {K : PySem.W.Frag} {r r' : R2} {g g' : D → D → (D → Prop) → Prop} {fa fb fc : DE} (hg : GOp K r g) (hg' : GOp K r' g') : ∀ (σ : L2.St) (H : Hp) (Q : VK), lE K W (dChain g g' fa fb fc) σ H Q → tChain r r' (lE K W fa) (lE K W fb) (lE K W fc) σ H Q := fun σ H Q ⟨ρ, G, la, P, XX, re, h, q, xo⟩ =>
  ⟨ρ, G, la, _, XX, re, h, fun d ρ1 v G1 la1 H1 p1 a1 z1 => ⟨ρ1, G1, la1, _, XX, a1.r, p1, fun e ρ2 u G2 la2 H2 p2 a2 z2 =>
    hg G2 H2 v u d e _ _ a2.r.ext (z1.up a2.g) z2 p2 fun z w G' H' pz gr dz => by
      cases z with
      | bl b' =>
        cases dz
        refine ⟨b', rfl, ?_⟩
        have a3 := (a1.trans a2).grow gr
        cases b' with
        | true =>
          refine iteT ?_
          have pz' : fc XX ρ2 fun c ρ3 => g' e c fun y => P y ρ3 := pz
          exact ⟨ρ2, G', la2, _, XX, a3.r, pz', fun c ρ3 w' G4 la4 H4 p4 a4 z4 =>
            hg' G4 H4 u w' e c _ Q a4.r.ext ((z2.up gr.g).up a4.g) z4 p4 fun y v' G5 H5 py gr5 dy => q _ _ _ _ _ _ py ((a3.trans a4).grow gr5) dy, xo.up a3.g a3.p⟩
        | false =>
          refine iteF ?_
          exact q _ _ _ _ _ _ (show P (.bl false) ρ2 from pz) a3 (.bl false)
      | _ => exact (show False from pz).elim, xo.up a1.g a1.p⟩, xo⟩
theorem de_chain {op op' : CmpOp} {a b c : Expr} {r r' : R2} {g g' : D → D → (D → Prop) → Prop} {fa fb fc : DE} {pos : Pos} (ho : OpR X (compareOp op) r) (ho' : OpR X (compareOp op') r') (hg : GOp X.K r g) (hg' : GOp X.K r' g') (ha : PE X a (lE X.K W fa)) (hb : PE X b (lE X.K W fb)) (hc : PE X c (lE X.K W fc))
    (hm : lastMarks [op, op'] [b, c] = false := by with_unfolding_all rfl) : PE X (.Compare a [op, op'] [b, c] pos) (lE X.K W (dChain g g' fa fb fc)) :=
  pe_imp (pe_chain ho ho' ha hb hc hm) (chain_core hg hg')
theorem de_un {op : UnaryOp} {a : Expr} {r : V → Hp → VK → Prop} {g : D → (D → Prop) → Prop} {fa : DE} {pos : Pos} (ho : UnR X (unaryOp op) r)
    (hg : ∀ (G H : Hp) (x : V) (d : D) (P : D → Prop) (Q : VK), Same G H → Dp X.K G x d → g d P → (∀ z v G' H', P z → Grow G H G' H' → Dp X.K G' v z → Q v H') → r x H Q) (ha : PE X a (lE X.K W fa)) : PE X (.UnaryOp op a pos) (lE X.K W (dUn g fa)) :=
  pe_imp (pe_un ho ha) fun σ H Q ⟨ρ, G, la, P, XX, re, h, q, xo⟩ => ⟨ρ, G, la, _, XX, re, h, fun d ρ1 v G1 la1 H1 p1 a1 z1 => hg G1 H1 v d _ _ a1.r.ext z1 p1 fun z w G' H' pz gr dz => q _ _ _ _ _ _ pz (a1.grow gr) dz, xo⟩

/-! ### tests -/
theorem dt_of {e : Expr} {f : DE} (h : PE X e (lE X.K W f)) (he : ∀ whole, isTrue e X.env whole = (do let v ← whole; standAt e.pos; holding [v] (truthy v)) := by intro _; rfl) : PT X e (lT X.K W (dTest f)) :=
  pt_imp (pt_val h he) fun σ H Q ⟨ρ, G, la, P, XX, r, h, q, xo⟩ => ⟨ρ, G, la, _, XX, r, h, fun d ρ1 v G1 la1 H1 p1 a1 z1 => by
    cases d with
    | bl b =>
      cases z1
      exact ⟨b, rfl, q _ _ _ _ _ (show P b ρ1 from p1) a1⟩
    | _ => exact (show False from p1).elim, xo⟩
theorem test_core {K : PySem.W.Frag} {f : DE} : ∀ (σ : L2.St) (H : Hp) (Q : Bool → Hp → Prop), lT K W (dTest f) σ H Q → lE K W f σ H (fun x H' => ∃ k, x = .bl k ∧ Q k H') := fun σ H Q ⟨ρ, G, la, P, XX, r, h, q, xo⟩ => ⟨ρ, G, la, _, XX, r, h, fun d ρ1 v G1 la1 H1 p1 a1 z1 => by
    cases d with
    | bl b =>
      cases z1
      exact ⟨b, rfl, q _ _ _ _ _ (show P b ρ1 from p1) a1⟩
    | _ => exact (show False from p1).elim, xo⟩
theorem dt_cmp {op : CmpOp} {a b : Expr} {r : R2} {g : D → D → (D → Prop) → Prop} {fa fb : DE} {pos : Pos} (ho : OpR X (compareOp op) r) (hg : GOp X.K r g) (ha : PE X a (lE X.K W fa)) (hb : PE X b (lE X.K W fb)) (hm : behindInMarks op b = false) : PT X (.Compare a [op] [b] pos) (lT X.K W (dTest (dBin g fa fb))) :=
  pt_imp (pt_cmpR ho ha hb hm) fun σ H Q h => bin_core hg σ H _ (test_core σ H Q h)
theorem dt_chain {op op' : CmpOp} {a b c : Expr} {r r' : R2} {g g' : D → D → (D → Prop) → Prop} {fa fb fc : DE} {pos : Pos} (ho : OpR X (compareOp op) r) (ho' : OpR X (compareOp op') r') (hg : GOp X.K r g) (hg' : GOp X.K r' g') (ha : PE X a (lE X.K W fa)) (hb : PE X b (lE X.K W fb)) (hc : PE X c (lE X.K W fc))
    (hm : lastMarks [op, op'] [b, c] = false := by with_unfolding_all rfl) : PT X (.Compare a [op, op'] [b, c] pos) (lT X.K W (dTest (dChain g g' fa fb fc))) :=
  pt_imp (pt_chain ho ho' ha hb hc hm) fun σ H Q h => chain_core hg hg' σ H _ (test_core σ H Q h)
theorem dt_not {e : Expr} {t : DT} {pos : Pos} (h : PT X e (lT X.K W t)) : PT X (.UnaryOp .Not e pos) (lT X.K W (dtNot t)) :=
  pt_imp (pt_not h) fun σ H Q ⟨ρ, G, la, P, XX, r, h, q, xo⟩ => ⟨ρ, G, la, _, XX, r, h, fun b ρ1 G1 la1 H1 p1 a1 => q _ _ _ _ _ p1 a1, xo⟩
theorem dw_and1 {e : Expr} {t : DT} {pos : Pos} (h : PT X e (lT X.K W t)) : PW X (.BoolOp .And [e] pos) (lT X.K W t) := pw_and1 h
theorem dw_or1 {e : Expr} {t : DT} {pos : Pos} (h : PT X e (lT X.K W t)) : PW X (.BoolOp .Or [e] pos) (lT X.K W t) := pw_or1 h
theorem dw_and {a b : Expr} {rest : List Expr} {t u : DT} {pos : Pos} (h : PT X a (lT X.K W t)) (h2 : PW X (.BoolOp .And (b :: rest) pos) (lT X.K W u)) : PW X (.BoolOp .And (a :: b :: rest) pos) (lT X.K W (dtAnd t u)) :=
  pw_imp (pw_and h h2) fun σ H Q ⟨ρ, G, la, P, XX, r, h, q, xo⟩ => ⟨ρ, G, la, _, XX, r, h, fun b ρ1 G1 la1 H1 p1 a1 => by
    cases b with
    | true => exact iteT ⟨ρ1, G1, la1, _, XX, a1.r, (show u XX ρ1 P from p1), fun b ρ2 G2 la2 H2 p2 a2 => q _ _ _ _ _ p2 (a1.trans a2), xo.up a1.g a1.p⟩
    | false => exact iteF (q _ _ _ _ _ (show P false ρ1 from p1) a1), xo⟩
theorem dw_or {a b : Expr} {rest : List Expr} {t u : DT} {pos : Pos} (h : PT X a (lT X.K W t)) (h2 : PW X (.BoolOp .Or (b :: rest) pos) (lT X.K W u)) : PW X (.BoolOp .Or (a :: b :: rest) pos) (lT X.K W (dtOr t u)) :=
  pw_imp (pw_or h h2) fun σ H Q ⟨ρ, G, la, P, XX, r, h, q, xo⟩ => ⟨ρ, G, la, _, XX, r, h, fun b ρ1 G1 la1 H1 p1 a1 => by
    cases b with
    | false => exact iteF ⟨ρ1, G1, la1, _, XX, a1.r, (show u XX ρ1 P from p1), fun b ρ2 G2 la2 H2 p2 a2 => q _ _ _ _ _ p2 (a1.trans a2), xo.up a1.g a1.p⟩
    | true => exact iteT (q _ _ _ _ _ (show P true ρ1 from p1) a1), xo⟩
theorem dw {e : Expr} {t : DT} (h : PW X e (lT X.K W t)) : PT X e (lT X.K W t) := h.pt
theorem de_and {a b : Expr} {rest : List Expr} {f g : DE} {pos : Pos} (h : PE X a (lE X.K W f)) (h2 : PE X (.BoolOp .And (b :: rest) pos) (lE X.K W g)) : PE X (.BoolOp .And (a :: b :: rest) pos) (lE X.K W (dAnd f g)) :=
  pe_imp (pe_and h h2) fun σ H Q ⟨ρ, G, la, P, XX, r, h, q, xo⟩ => ⟨ρ, G, la, _, XX, r, h, fun d ρ1 v G1 la1 H1 p1 a1 z1 => by
    cases d with
    | bl b =>
      cases z1
      refine ⟨b, rfl, ?_⟩
      cases b with
      | true => exact iteT ⟨ρ1, G1, la1, _, XX, a1.r, (show g XX ρ1 P from p1), fun d ρ2 v G2 la2 H2 p2 a2 z2 => q _ _ _ _ _ _ p2 (a1.trans a2) z2, xo.up a1.g a1.p⟩
      | false => exact iteF (q _ _ _ _ _ _ (show P (.bl false) ρ1 from p1) a1 (.bl false))
    | _ => exact (show False from p1).elim, xo⟩
theorem de_or {a b : Expr} {rest : List Expr} {f g : DE} {pos : Pos} (h : PE X a (lE X.K W f)) (h2 : PE X (.BoolOp .Or (b :: rest) pos) (lE X.K W g)) : PE X (.BoolOp .Or (a :: b :: rest) pos) (lE X.K W (dOr f g)) :=
  pe_imp (pe_or h h2) fun σ H Q ⟨ρ, G, la, P, XX, r, h, q, xo⟩ => ⟨ρ, G, la, _, XX, r, h, fun d ρ1 v G1 la1 H1 p1 a1 z1 => by
    cases d with
    | bl b =>
      cases z1
      refine ⟨b, rfl, ?_⟩
      cases b with
      | false => exact iteF ⟨ρ1, G1, la1, _, XX, a1.r, (show g XX ρ1 P from p1), fun d ρ2 v G2 la2 H2 p2 a2 z2 => q _ _ _ _ _ _ p2 (a1.trans a2) z2, xo.up a1.g a1.p⟩
      | true => exact iteT (q _ _ _ _ _ _ (show P (.bl true) ρ1 from p1) a1 (.bl true))
    | _ => exact (show False from p1).elim, xo⟩
theorem de_not {e : Expr} {f : DE} {pos : Pos} (h : PE X e (lE X.K W f)) : PE X (.UnaryOp .Not e pos) (lE X.K W (dNot f)) :=
  pe_imp (pe_not h) fun σ H Q ⟨ρ, G, la, P, XX, r, h, q, xo⟩ => ⟨ρ, G, la, _, XX, r, h, fun d ρ1 v G1 la1 H1 p1 a1 z1 => by
    cases d with
    | bl b =>
      cases z1
      exact ⟨b, rfl, q _ _ _ _ _ _ (show P (.bl (!b)) ρ1 from p1) a1 (.bl _)⟩
    | _ => exact (show False from p1).elim, xo⟩
theorem de_one {op : BoolOp} {e : Expr} {f : DE} {pos : Pos} (h : PE X e (lE X.K W f)) : PE X (.BoolOp op [e] pos) (lE X.K W f) := pe_one h
theorem de_if {c a b : Expr} {t : DT} {f g : DE} {pos : Pos} (hc : PT X c (lT X.K W t)) (ha : PE X a (lE X.K W f)) (hb : PE X b (lE X.K W g)) : PE X (.IfExp c a b pos) (lE X.K W (dIf t f g)) :=
  pe_imp (pe_ifExp hc ha hb) fun σ H Q ⟨ρ, G, la, P, XX, r, h, q, xo⟩ => ⟨ρ, G, la, _, XX, r, h, fun b ρ1 G1 la1 H1 p1 a1 => by
    cases b with
    | true => exact iteT ⟨ρ1, G1, la1, _, XX, a1.r, (show f XX ρ1 P from p1), fun d ρ2 v G2 la2 H2 p2 a2 z2 => q _ _ _ _ _ _ p2 (a1.trans a2) z2, xo.up a1.g a1.p⟩
    | false => exact iteF ⟨ρ1, G1, la1, _, XX, a1.r, (show g XX ρ1 P from p1), fun d ρ2 v G2 la2 H2 p2 a2 z2 => q _ _ _ _ _ _ p2 (a1.trans a2) z2, xo.up a1.g a1.p⟩, xo⟩
end
end DL
set_option Elab.async false
set_option linter.all false
set_option maxRecDepth 100000
set_option maxHeartbeats 4000000
set_option autoImplicit false
/-! The data level: operators, subscripts, slices, calls of built-ins. -/
namespace DL
open PySem PySem.Spec PyProof.Rows L2

/-! ### arithmetic -/
def gAdd : D → D → (D → Prop) → Prop
  | .int i, .int j, P => P (.int (i + j))
  | .str i, .str j, P => i.length + j.length ≤ sizeLine ∧ P (.str (i ++ j))
  | .tup a, .tup b, P => a.length + b.length ≤ sizeLine ∧ P (.tup (a ++ b))
  | .lst a, .lst b, P => a.length + b.length ≤ sizeLine ∧ P (.lst (a ++ b))
  | _, _, _ => False
def gSub : D → D → (D → Prop) → Prop
  | .int i, .int j, P => P (.int (i - j))
  | _, _, _ => False
def gMul : D → D → (D → Prop) → Prop
  | .int i, .int j, P => CMulW i j ∧ P (.int (i * j))
  | _, _, _ => False
def gDiv : D → D → (D → Prop) → Prop
  | .int i, .int j, P => CDivW i j ∧ P (.int (i / j))
  | _, _, _ => False
def gMod : D → D → (D → Prop) → Prop
  | .int i, .int j, P => 0 < j ∧ P (.int (i % j))
  | _, _, _ => False
def gPow : D → D → (D → Prop) → Prop
  | .int i, .int j, P => CPow i j ∧ P (.int (i ^ j.toNat))
  | _, _, _ => False
def gNeg : D → (D → Prop) → Prop
  | .int i, P => P (.int (-i))
  | _, _ => False
section
variable {K : PySem.W.Frag}
theorem sqt_of {G H : Hp} {p : Addr} {vs : List V} (e : Same G H) (h : SqT K G p vs) : SqT K H p vs := same_t e h
theorem gop_rI {C : Int → Int → Prop} {f : Int → Int → Int} {g : D → D → (D → Prop) → Prop} (h : ∀ d e P, g d e P → ∃ i j, d = .int i ∧ e = .int j ∧ C i j ∧ P (.int (f i j))) : GOp K (rI C fun i j => .int (f i j)) g := by
  intro G H x y d e P Q sm dx dy gp k
  obtain ⟨i, j, rfl, rfl, c, p⟩ := h d e P gp
  cases dx
  cases dy
  exact ⟨i, j, rfl, rfl, c, k _ _ _ _ p (Grow.refl sm) (.int _)⟩
theorem gop_rI0 {f : Int → Int → Int} {g : D → D → (D → Prop) → Prop} (h : ∀ d e P, g d e P → ∃ i j, d = .int i ∧ e = .int j ∧ P (.int (f i j))) : GOp K (rI0 fun i j => .int (f i j)) g := by
  intro G H x y d e P Q sm dx dy gp k
  obtain ⟨i, j, rfl, rfl, p⟩ := h d e P gp
  cases dx
  cases dy
  exact ⟨i, j, rfl, rfl, k _ _ _ _ p (Grow.refl sm) (.int _)⟩
theorem gop_rB0 {f : Int → Int → Bool} {g : D → D → (D → Prop) → Prop} (h : ∀ d e P, g d e P → ∃ i j, d = .int i ∧ e = .int j ∧ P (.bl (f i j))) : GOp K (rI0 fun i j => .bl (f i j)) g := by
  intro G H x y d e P Q sm dx dy gp k
  obtain ⟨i, j, rfl, rfl, p⟩ := h d e P gp
  cases dx
  cases dy
  exact ⟨i, j, rfl, rfl, k _ _ _ _ p (Grow.refl sm) (.bl _)⟩
theorem g_sub : GOp K (rI0 fun i j => .int (i - j)) gSub := gop_rI0 fun d e P h => by
  unfold gSub at h
  split at h
  · exact ⟨_, _, rfl, rfl, h⟩
  · exact h.elim
theorem g_mul : GOp K (rI CMulW fun i j => .int (i * j)) gMul := gop_rI fun d e P h => by
  unfold gMul at h
  split at h
  · exact ⟨_, _, rfl, rfl, h.1, h.2⟩
  · exact h.elim
theorem g_div : GOp K (rI CDivW fun i j => .int (i / j)) gDiv := gop_rI fun d e P h => by
  unfold gDiv at h
  split at h
  · exact ⟨_, _, rfl, rfl, h.1, h.2⟩
  · exact h.elim
theorem g_mod : GOp K (rI (fun _ j => 0 < j) fun i j => .int (i % j)) gMod := gop_rI fun d e P h => by
  unfold gMod at h
  split at h
  · exact ⟨_, _, rfl, rfl, h.1, h.2⟩
  · exact h.elim
theorem g_pow : GOp K (rI CPow fun i j => .int (i ^ j.toNat)) gPow := gop_rI fun d e P h => by
  unfold gPow at h
  split at h
  · exact ⟨_, _, rfl, rfl, h.1, h.2⟩
  · exact h.elim
/-- + of ints, texts, tuples, lists -/
def rAddA (K : PySem.W.Frag) : R2 := fun x y H Q => (rI0 (fun i j => .int (i + j)) x y H Q) ∨ (∃ i j, x = .str i ∧ y = .str j ∧ i.length + j.length ≤ sizeLine ∧ Q (.str (i ++ j)) H) ∨ rCatA K x y H Q ∨ rCat x y H Q
theorem op_addA {X : Cx} : OpR X (binaryOp .Add) (rAddA X.K) := op_add.or (op_add_str.or (op_catA.or op_cat))
theorem nil_iff {K : PySem.W.Frag} {G : Hp} {vs : List V} {ds : List D} (h : Dps K G vs ds) : vs = [] ↔ ds = [] := by
  cases h with
  | nil => simp
  | cons _ _ => simp
theorem g_add : GOp K (rAddA K) gAdd := by
  intro G H x y d e P Q sm dx dy gp k
  unfold gAdd at gp
  split at gp
  · cases dx
    cases dy
    exact .inl ⟨_, _, rfl, rfl, k _ _ _ _ gp (Grow.refl sm) (.int _)⟩
  · cases dx
    cases dy
    exact .inr (.inl ⟨_, _, rfl, rfl, gp.1, k _ _ _ _ gp.2 (Grow.refl sm) (.str _)⟩)
  · cases dx with
    | tup a l r =>
      rename_i pa va
      cases dy with
      | tup a' l' r' =>
        rename_i pb vb
        have lz : va.length + vb.length ≤ sizeLine := by
          rw [r.len, r'.len]
          exact gp.1
        refine .inr (.inr (.inl ⟨_, _, va, vb, rfl, rfl, same_t sm a, same_t sm a', lz, fun z => ?_, fun z z' => ?_, fun z z' q hq => ?_⟩))
        · have e0 := (nil_iff r).mp z
          have e1 := gp.2
          rw [e0, List.nil_append] at e1
          exact k _ _ _ _ e1 (Grow.refl sm) (.tup a' l' r')
        · have e0 := (nil_iff r').mp z'
          have e1 := gp.2
          rw [e0, List.append_nil] at e1
          exact k _ _ _ _ e1 (Grow.refl sm) (.tup a l r)
        · have w := Grow.new (o := .tup (va ++ vb)) sm hq
          exact k _ _ _ _ gp.2 w (.tup (.inl (.inl upd_same)) (by rw [List.length_append]; exact lz) ((r.app r').up w.g))
  · cases dx with
    | lst a l r =>
      rename_i pa va
      cases dy with
      | lst a' l' r' =>
        rename_i pb vb
        have lz : va.length + vb.length ≤ sizeLine := by
          rw [r.len, r'.len]
          exact gp.1
        refine .inr (.inr (.inr ⟨_, _, va, vb, rfl, rfl, sm _ _ a, sm _ _ a', lz, fun q hq => ?_⟩))
        have w := Grow.new (o := .lst (va ++ vb)) sm hq
        exact k _ _ _ _ gp.2 w (.lst upd_same (by rw [List.length_append]; exact lz) ((r.app r').up w.g))
  · exact gp.elim

/-! ### comparisons -/
def gLt : D → D → (D → Prop) → Prop
  | .int i, .int j, P => P (.bl (decide (i < j)))
  | _, _, _ => False
def gLe : D → D → (D → Prop) → Prop
  | .int i, .int j, P => P (.bl (decide (i ≤ j)))
  | _, _, _ => False
def gGt : D → D → (D → Prop) → Prop
  | .int i, .int j, P => P (.bl (decide (j < i)))
  | _, _, _ => False
def gGe : D → D → (D → Prop) → Prop
  | .int i, .int j, P => P (.bl (decide (j ≤ i)))
  | _, _, _ => False
theorem g_lt : GOp K (rI0 fun i j => .bl (decide (i < j))) gLt := gop_rB0 (f := fun i j => decide (i < j)) fun d e P h => by
  unfold gLt at h
  split at h
  · exact ⟨_, _, rfl, rfl, h⟩
  · exact h.elim
theorem g_le : GOp K (rI0 fun i j => .bl (decide (i ≤ j))) gLe := gop_rB0 (f := fun i j => decide (i ≤ j)) fun d e P h => by
  unfold gLe at h
  split at h
  · exact ⟨_, _, rfl, rfl, h⟩
  · exact h.elim
theorem g_gt : GOp K (rI0 fun i j => .bl (decide (j < i))) gGt := gop_rB0 (f := fun i j => decide (j < i)) fun d e P h => by
  unfold gGt at h
  split at h
  · exact ⟨_, _, rfl, rfl, h⟩
  · exact h.elim
theorem g_ge : GOp K (rI0 fun i j => .bl (decide (j ≤ i))) gGe := gop_rB0 (f := fun i j => decide (j ≤ i)) fun d e P h => by
  unfold gGe at h
  split at h
  · exact ⟨_, _, rfl, rfl, h⟩
  · exact h.elim
/-- is None -/
def isNon : D → Option Bool
  | .non => some true
  | .raw _ => none
  | _ => some false
def gIsN (neg : Bool) : D → D → (D → Prop) → Prop := fun d e P => match e with
  | .non => match isNon d with
    | some b => P (.bl (if neg then !b else b))
    | none => False
  | _ => False
theorem isNon_of {G : Hp} {x : V} {d : D} {b : Bool} (h : Dp K G x d) (e : isNon d = some b) : decide (x = .non) = b := by
  cases h <;> first
    | (have e' := Option.some.inj e; subst e'; simp; done)
    | (have e' := Option.some.inj e; subst e'; exact decide_eq_true rfl)
    | cases e
theorem g_isN : GOp K (fun x y H Q => y = .non ∧ Q (.bl (decide (x = .non))) H) (gIsN false) := by
  intro G H x y d e P Q sm dx dy gp k
  unfold gIsN at gp
  split at gp
  · cases dy
    split at gp
    · rename_i b hb
      rw [isNon_of dx hb]
      exact ⟨rfl, k _ _ _ _ gp (Grow.refl sm) (.bl _)⟩
    · exact gp.elim
  · exact gp.elim
theorem g_notN : GOp K (fun x y H Q => y = .non ∧ Q (.bl (!decide (x = .non))) H) (gIsN true) := by
  intro G H x y d e P Q sm dx dy gp k
  unfold gIsN at gp
  split at gp
  · cases dy
    split at gp
    · rename_i b hb
      rw [isNon_of dx hb]
      exact ⟨rfl, k _ _ _ _ gp (Grow.refl sm) (.bl _)⟩
    · exact gp.elim
  · exact gp.elim
end

/-! ### == of data -/
mutual
def toP : D → PyData
  | .non => .none
  | .bl b => .bool b
  | .int i => .int i
  | .str x => .str x
  | .raw _ => .none
  | .tup xs => .tuple (toPs xs)
  | .lst xs => .list (toPs xs)
  | .scr ns => .list (ns.map .int)
  | .fn _ => .none
  | .err _ _ => .none
def toPs : List D → List PyData
  | [] => []
  | x :: xs => toP x :: toPs xs
end
mutual
/-- data without strange values, not deeper than n -/
def okd : Nat → D → Bool
  | _, .raw _ => false
  | n, .tup xs => match n with
    | 0 => false
    | n + 1 => okds n xs
  | n, .lst xs => match n with
    | 0 => false
    | n + 1 => okds n xs
  | _, .scr _ => false
  | _, .fn _ => false
  | _, .err _ _ => false
  | _, _ => true
def okds : Nat → List D → Bool
  | _, [] => true
  | n, x :: xs => okd n x && okds n xs
end
/-- whether two data are equal to Python -/
def deq (d e : D) : Bool := PyData.eqv (toP d) (toP e)
def deqs (ds es : List D) : Bool := PyData.eqvAll (toPs ds) (toPs es)
theorem plain_ints : ∀ ns : List Int, PyData.plainAll (ns.map PyData.int) = true
  | [] => rfl
  | _ :: ns => plain_ints ns
theorem depth_ints : ∀ ns : List Int, PyData.depthAll (ns.map PyData.int) = 0
  | [] => by simp [PyData.depthAll]
  | _ :: ns => by
    have ih := depth_ints ns
    simp only [List.map_cons, PyData.depthAll, PyData.depth, ih]
    rfl
mutual
theorem plain_toP : ∀ (n : Nat) (d : D), okd n d = true → (toP d).plain = true ∧ (toP d).depth ≤ n
  | n, .non, _ => ⟨rfl, Nat.zero_le _⟩
  | n, .bl _, _ => ⟨rfl, Nat.zero_le _⟩
  | n, .int _, _ => ⟨rfl, Nat.zero_le _⟩
  | n, .str _, _ => ⟨rfl, Nat.zero_le _⟩
  | n, .raw _, h => by simp [okd] at h
  | 0, .tup xs, h => by simp [okd] at h
  | n + 1, .tup xs, h => by
    have h' : okds n xs = true := by simpa [okd] using h
    obtain ⟨a, b⟩ := plain_toPs n xs h'
    refine ⟨?_, ?_⟩
    · show PyData.plainAll (toPs xs) = true
      exact a
    · show PyData.depthAll (toPs xs) + 1 ≤ n + 1
      omega
  | 0, .lst xs, h => by simp [okd] at h
  | n + 1, .lst xs, h => by
    have h' : okds n xs = true := by simpa [okd] using h
    obtain ⟨a, b⟩ := plain_toPs n xs h'
    refine ⟨?_, ?_⟩
    · show PyData.plainAll (toPs xs) = true
      exact a
    · show PyData.depthAll (toPs xs) + 1 ≤ n + 1
      omega
  | 0, .scr _, h => by simp [okd] at h
  | n + 1, .scr ns, _ => by
    refine ⟨?_, ?_⟩
    · show PyData.plainAll (ns.map PyData.int) = true
      exact plain_ints ns
    · show PyData.depthAll (ns.map PyData.int) + 1 ≤ n + 1
      rw [depth_ints]
      omega
  | n, .fn _, h => by simp [okd] at h
  | n, .err _ _, h => by simp [okd] at h
theorem plain_toPs : ∀ (n : Nat) (ds : List D), okds n ds = true → PyData.plainAll (toPs ds) = true ∧ PyData.depthAll (toPs ds) ≤ n
  | n, [], _ => ⟨rfl, by simp [toPs, PyData.depthAll]⟩
  | n, x :: xs, h => by
    have h' : okd n x = true ∧ okds n xs = true := by simpa [okds] using h
    obtain ⟨a, b⟩ := plain_toP n x h'.1
    obtain ⟨c, d⟩ := plain_toPs n xs h'.2
    refine ⟨?_, ?_⟩
    · show ((toP x).plain && PyData.plainAll (toPs xs)) = true
      rw [a, c]
      rfl
    · show max (toP x).depth (PyData.depthAll (toPs xs)) ≤ n
      omega
end
section
variable {K : PySem.W.Frag} {G H : Hp}
theorem sql_up {G H : Hp} {p : Addr} {vs : List V} (e : Same G H) (h : SqL K G p vs) : SqL K H p vs := e.seq h
theorem dpall_ints (H : Hp) : ∀ ns : List Int, L2.DpAll K H (ns.map V.int) (ns.map PyData.int)
  | [] => .nil
  | n :: ns => .cons (.int n) (dpall_ints H ns)
mutual
theorem Dp.l2 (sm : Same G H) : ∀ (n : Nat) (d : D) (v : V), Dp K G v d → okd n d = true → L2.Dp K H v (toP d)
  | n, .non, _, h, _ => by cases h; exact .non
  | n, .bl _, _, h, _ => by cases h; exact .bl _
  | n, .int _, _, h, _ => by cases h; exact .int _
  | n, .str _, _, h, _ => by cases h; exact .str _
  | n, .raw _, _, _, o => by simp [okd] at o
  | 0, .tup _, _, _, o => by simp [okd] at o
  | n + 1, .tup xs, _, h, o => by
    cases h with
    | tup a l r =>
      have o' : okds n xs = true := by simpa [okd] using o
      exact .tup (same_t sm a) (Dps.l2 sm n xs _ r o')
  | 0, .lst _, _, _, o => by simp [okd] at o
  | n + 1, .lst xs, _, h, o => by
    cases h with
    | lst a l r =>
      have o' : okds n xs = true := by simpa [okd] using o
      exact .lst (SqL.of (sm _ _ a)) (Dps.l2 sm n xs _ r o')
  | n, .scr ns, _, h, _ => by
    cases h with
    | scr a => exact .lst (sm.seq a) (dpall_ints H ns)
  | n, .fn _, _, _, o => by simp [okd] at o
  | n, .err _ _, _, _, o => by simp [okd] at o
theorem Dps.l2 (sm : Same G H) : ∀ (n : Nat) (ds : List D) (vs : List V), Dps K G vs ds → okds n ds = true → L2.DpAll K H vs (toPs ds)
  | n, [], _, h, _ => by cases h; exact .nil
  | n, d :: ds, _, h, o => by
    cases h with
    | cons a r =>
      have o' : okd n d = true ∧ okds n ds = true := by simpa [okds] using o
      exact .cons (Dp.l2 sm n d _ a o'.1) (Dps.l2 sm n ds _ r o'.2)
end
end
/-- == by data that are plain -/
def rEqP (K : PySem.W.Frag) : R2 := fun x y H Q => ∃ d e, L2.Dp K H x d ∧ L2.Dp K H y e ∧ d.plain = true ∧ e.plain = true ∧ d.depth ≤ 60 ∧ Q (.bl (PyData.eqv d e)) H
def rNeP (K : PySem.W.Frag) : R2 := fun x y H Q => ∃ d e, L2.Dp K H x d ∧ L2.Dp K H y e ∧ d.plain = true ∧ e.plain = true ∧ d.depth ≤ 60 ∧ Q (.bl (!PyData.eqv d e)) H
section
variable {X : Cx}
theorem op_eqP (hu : X.A.units + 64 < cLine) : OpR X (compareOp .Eq) (rEqP X.K) := by
  intro pins s σ H x y v u Q I rx ry h
  obtain ⟨d, e, hd, he, sd, se, dp, q⟩ := h
  obtain ⟨as_, r1⟩ := L2.Dp.reads I d x v hd rx
  obtain ⟨bs, r2⟩ := L2.Dp.reads I e y u he ry
  have h2 : min d.depth e.depth ≤ d.depth := Nat.min_le_left _ _
  exact SeqAt.eq_plain r1 r2 sd se (by omega) ⟨.bl _, H, I, rfl, q⟩
theorem op_neP (hu : X.A.units + 64 < cLine) : OpR X (compareOp .NotEq) (rNeP X.K) := by
  intro pins s σ H x y v u Q I rx ry h
  obtain ⟨d, e, hd, he, sd, se, dp, q⟩ := h
  obtain ⟨as_, r1⟩ := L2.Dp.reads I d x v hd rx
  obtain ⟨bs, r2⟩ := L2.Dp.reads I e y u he ry
  have h2 : min d.depth e.depth ≤ d.depth := Nat.min_le_left _ _
  exact SeqAt.ne_plain r1 r2 sd se (by omega) ⟨.bl _, H, I, rfl, q⟩
end
def gEq : D → D → (D → Prop) → Prop := fun d e P => okd 60 d = true ∧ okd 60 e = true ∧ P (.bl (deq d e))
def gNe : D → D → (D → Prop) → Prop := fun d e P => okd 60 d = true ∧ okd 60 e = true ∧ P (.bl (!deq d e))
section
variable {K : PySem.W.Frag}
theorem g_eq : GOp K (rEqP K) gEq := by
  intro G H x y d e P Q sm dx dy gp k
  obtain ⟨o1, o2, p⟩ := gp
  exact ⟨toP d, toP e, Dp.l2 sm 60 d x dx o1, Dp.l2 sm 60 e y dy o2, (plain_toP 60 d o1).1, (plain_toP 60 e o2).1, (plain_toP 60 d o1).2, k _ _ _ _ p (Grow.refl sm) (.bl _)⟩
theorem g_ne : GOp K (rNeP K) gNe := by
  intro G H x y d e P Q sm dx dy gp k
  obtain ⟨o1, o2, p⟩ := gp
  exact ⟨toP d, toP e, Dp.l2 sm 60 d x dx o1, Dp.l2 sm 60 e y dy o2, (plain_toP 60 d o1).1, (plain_toP 60 e o2).1, (plain_toP 60 d o1).2, k _ _ _ _ p (Grow.refl sm) (.bl _)⟩
end

/-! ### in -/
def rInP (K : PySem.W.Frag) (neg : Bool) : R2 := fun x y H Q => ∃ d es, L2.Dp K H x d ∧ (L2.Dp K H y (.list es) ∨ L2.Dp K H y (.tuple es)) ∧ d.plain = true ∧ PyData.plainAll es = true ∧ d.depth ≤ 60 ∧ Q (.bl (if neg then !(es.any fun z => PyData.eqv z d) else es.any fun z => PyData.eqv z d)) H
section
variable {X : Cx}
theorem op_inP (hu : X.A.units + 64 < cLine) : OpR X (compareOp .In) (rInP X.K false) := by
  intro pins s σ H x y v u Q I rx ry h
  obtain ⟨d, es, hd, he, sd, se, dp, q⟩ := h
  obtain ⟨as_, r1⟩ := L2.Dp.reads I d x v hd rx
  have h2 : min (PyData.depthAll es) d.depth ≤ d.depth := Nat.min_le_right _ _
  rcases he with he | he
  · obtain ⟨bs, r2⟩ := L2.Dp.reads I _ y u he ry
    exact SeqAt.in_list_data r2 r1 se sd (by omega) ⟨.bl _, H, I, rfl, q⟩
  · obtain ⟨bs, r2⟩ := L2.Dp.reads I _ y u he ry
    exact SeqAt.in_tuple_data r2 r1 se sd (by omega) ⟨.bl _, H, I, rfl, q⟩
theorem op_ninP (hu : X.A.units + 64 < cLine) : OpR X (compareOp .NotIn) (rInP X.K true) := by
  intro pins s σ H x y v u Q I rx ry h
  obtain ⟨d, es, hd, he, sd, se, dp, q⟩ := h
  obtain ⟨as_, r1⟩ := L2.Dp.reads I d x v hd rx
  have h2 : min (PyData.depthAll es) d.depth ≤ d.depth := Nat.min_le_right _ _
  rcases he with he | he
  · obtain ⟨bs, r2⟩ := L2.Dp.reads I _ y u he ry
    exact SeqAt.notIn_list_data r2 r1 se sd (by omega) ⟨.bl _, H, I, rfl, q⟩
  · obtain ⟨bs, r2⟩ := L2.Dp.reads I _ y u he ry
    exact SeqAt.notIn_tuple_data r2 r1 se sd (by omega) ⟨.bl _, H, I, rfl, q⟩
end
/-- whether one of es is equal to d -/
def dmem (d : D) (es : List D) : Bool := es.any fun z => deq z d
def gIn (neg : Bool) : D → D → (D → Prop) → Prop
  | d, .tup es, P => okd 60 d = true ∧ okds 60 es = true ∧ P (.bl (if neg then !dmem d es else dmem d es))
  | d, .lst es, P => okd 60 d = true ∧ okds 60 es = true ∧ P (.bl (if neg then !dmem d es else dmem d es))
  | _, _, _ => False
theorem toPs_any (d : D) : ∀ es : List D, ((toPs es).any fun z => PyData.eqv z (toP d)) = dmem d es
  | [] => rfl
  | e :: es => by
    show (PyData.eqv (toP e) (toP d) || (toPs es).any _) = (deq e d || es.any _)
    rw [toPs_any d es]
    rfl
section
variable {K : PySem.W.Frag}
theorem g_in (neg : Bool) : GOp K (rInP K neg) (gIn neg) := by
  intro G H x y d e P Q sm dx dy gp k
  unfold gIn at gp
  split at gp
  · rename_i es
    obtain ⟨o1, o2, p⟩ := gp
    refine ⟨toP d, toPs es, Dp.l2 sm 60 d x dx o1, .inr (show L2.Dp K H y (toP (.tup es)) from Dp.l2 sm 61 _ y dy (by simpa [okd] using o2)), (plain_toP 60 d o1).1, (plain_toPs 60 es o2).1, (plain_toP 60 d o1).2, ?_⟩
    rw [toPs_any]
    exact k _ _ _ _ p (Grow.refl sm) (.bl _)
  · rename_i es
    obtain ⟨o1, o2, p⟩ := gp
    refine ⟨toP d, toPs es, Dp.l2 sm 60 d x dx o1, .inl (show L2.Dp K H y (toP (.lst es)) from Dp.l2 sm 61 _ y dy (by simpa [okd] using o2)), (plain_toP 60 d o1).1, (plain_toPs 60 es o2).1, (plain_toP 60 d o1).2, ?_⟩
    rw [toPs_any]
    exact k _ _ _ _ p (Grow.refl sm) (.bl _)
  · exact gp.elim
end
end DL
set_option Elab.async false
set_option linter.all false
set_option maxRecDepth 100000
set_option maxHeartbeats 4000000
set_option autoImplicit false
/-! The data level: subscripts, slices, calls. -/
namespace DL
open PySem PySem.Spec PyProof.Rows L2

/-! ### subscripts -/
def gIx : D → D → (D → Prop) → Prop
  | .tup xs, .int i, P => match atI xs i with
    | some d => P d
    | none => False
  | .lst xs, .int i, P => match atI xs i with
    | some d => P d
    | none => False
  | .scr ns, .int i, P => match atI ns i with
    | some n => P (.int n)
    | none => False
  | .str z, .int i, P => z.length ≤ sizeLine ∧ match atI z.cps.toList i with
    | some c => P (.str ⟨#[c]⟩)
    | none => False
  | _, _, _ => False
section
variable {K : PySem.W.Frag} {G H : Hp}
theorem Dps.atI {vs : List V} {ds : List D} {i : Int} {d : D} (h : Dps K G vs ds) (e : atI ds i = some d) : ∃ v, L2.atI vs i = some v ∧ Dp K G v d := by
  unfold L2.atI at e ⊢
  rw [← h.len] at e
  cases q : ixN vs.length i with
  | none =>
    rw [q] at e
    cases e
  | some j =>
    rw [q] at e
    exact h.get e
theorem atI_map {ns : List Int} {i n : Int} (e : atI ns i = some n) : atI (ns.map V.int) i = some (.int n) := by
  unfold L2.atI at e ⊢
  rw [List.length_map]
  cases q : ixN ns.length i with
  | none =>
    rw [q] at e
    cases e
  | some j =>
    rw [q] at e
    show (ns.map V.int)[j]? = _
    rw [List.getElem?_map, show ns[j]? = some n from e]
    rfl
theorem g_ix : GOp K (rIx K) gIx := by
  intro G H x y d e P Q sm dx dy gp k
  unfold gIx at gp
  split at gp
  · cases dy
    cases dx with
    | tup a l r =>
      split at gp
      · rename_i z hz
        obtain ⟨v, hv, dv⟩ := r.atI hz
        exact .inr (.inl ⟨_, _, _, v, rfl, rfl, same_t sm a, hv, k _ _ _ _ gp (Grow.refl sm) dv⟩)
      · exact gp.elim
  · cases dy
    cases dx with
    | lst a l r =>
      split at gp
      · rename_i z hz
        obtain ⟨v, hv, dv⟩ := r.atI hz
        exact .inl ⟨_, _, _, v, rfl, rfl, SqL.of (sm _ _ a), hv, k _ _ _ _ gp (Grow.refl sm) dv⟩
      · exact gp.elim
  · cases dy
    cases dx with
    | scr a =>
      split at gp
      · rename_i z hz
        exact .inl ⟨_, _, _, _, rfl, rfl, sm.seq a, atI_map hz, k _ _ _ _ gp (Grow.refl sm) (.int _)⟩
      · exact gp.elim
  · cases dy
    cases dx
    obtain ⟨lz, gp⟩ := gp
    split at gp
    · rename_i z hz
      exact .inr (.inr ⟨_, _, _, rfl, rfl, lz, hz, k _ _ _ _ gp (Grow.refl sm) (.str _)⟩)
    · exact gp.elim
  · exact gp.elim
end
section
variable {X : Cx} {W : WX}
theorem de_ix {a b : Expr} {fa fb : DE} {pos : Pos} (ha : PE X a (lE X.K W fa)) (hb : PE X b (lE X.K W fb)) (hs : PlainIx b := by exact fun _ _ => rfl) : PE X (.Subscript a b pos) (lE X.K W (dBin gIx fa fb)) :=
  pe_imp (pe_ix ix_seq ha hb hs) (bin_core g_ix)
end

/-! ### slices -/
abbrev DO := XP → Env → (Option Int → Env → Prop) → Prop
def lO (K : PySem.W.Frag) (W : WX) (f : DO) : TO := fun σ H Q => ∃ ρ G la P X, Re K G H la σ ρ ∧ f X ρ P ∧ (∀ b ρ' G' la' H', P b ρ' → Aft K G la σ ρ' G' la' H' → Q b H') ∧ XO K G la W X
def dNo : DO := fun _ ρ Q => Q none ρ
def dSo (f : DE) : DO := fun X ρ Q => f X ρ fun d ρ' => match d with
  | .int i => Q (some i) ρ'
  | _ => False
def cutL {α : Type} (xs : List α) (lo hi : Option Int) : List α := (xs.drop (HT.sIx xs.length 0 lo)).take (HT.sIx xs.length xs.length hi - HT.sIx xs.length 0 lo)
def gSl : D → Option Int → Option Int → (D → Prop) → Prop
  | .tup xs, lo, hi, P => P (.tup (cutL xs lo hi))
  | .lst xs, lo, hi, P => P (.lst (cutL xs lo hi))
  | .str z, lo, hi, P => z.length ≤ sizeLine ∧ P (.str (cutS z lo hi))
  | _, _, _, _ => False
def dSl (fe : DE) (fl fh : DO) : DE := fun X ρ Q => fe X ρ fun d ρ1 => fl X ρ1 fun lo ρ2 => fh X ρ2 fun hi ρ3 => gSl d lo hi fun z => Q z ρ3
section
variable {K : PySem.W.Frag} {G H : Hp}
theorem cutL_len {α : Type} (xs : List α) (lo hi : Option Int) : (cutL xs lo hi).length ≤ xs.length := by
  unfold cutL
  rw [List.length_take, List.length_drop]
  omega
theorem cut_dps {vs : List V} {ds : List D} (h : Dps K G vs ds) (lo hi : Option Int) : Dps K G (cutV vs lo hi) (cutL ds lo hi) := by
  unfold cutV cutL
  rw [h.len]
  exact (h.drop _).take _
theorem cut_all {α : Type} {xs : List α} {lo hi : Option Int} (h : HT.sIx xs.length 0 lo = 0 ∧ HT.sIx xs.length xs.length hi = xs.length) : cutL xs lo hi = xs := by
  unfold cutL
  rw [h.1, h.2, List.drop_zero, Nat.sub_zero, List.take_length]
end
section
variable {X : Cx} {W : WX}
theorem do_none : PO X none (lO X.K W dNo) := ⟨fun pins s σ H Q I h => (po_none (X := X)).run pins s σ H Q I (by
  obtain ⟨ρ, G, la, P, XX, r, f, q, _⟩ := h
  exact q _ _ _ _ _ f (Aft.refl r))⟩
theorem do_some {e : Expr} {f : DE} (h : PE X e (lE X.K W f)) : PO X (some e) (lO X.K W (dSo f)) := ⟨fun pins s σ H Q I hq => (po_some h).run pins s σ H Q I (by
  obtain ⟨ρ, G, la, P, XX, r, f, q, xo⟩ := hq
  exact ⟨ρ, G, la, _, XX, r, f, fun d ρ1 v G1 la1 H1 p1 a1 z1 => by
    cases d with
    | int i =>
      cases z1
      exact ⟨i, rfl, q _ _ _ _ _ (show P (some i) ρ1 from p1) a1⟩
    | _ => exact (show False from p1).elim, xo⟩)⟩
theorem de_sl {e : Expr} {lo hi : Option Expr} {fe : DE} {fl fh : DO} {p2 pos : Pos} (he : PE X e (lE X.K W fe)) (hl : PO X lo (lO X.K W fl)) (hh : PO X hi (lO X.K W fh)) : PE X (.Subscript e (.Slice lo hi none p2) pos) (lE X.K W (dSl fe fl fh)) :=
  pe_imp (pe_slice (sl_list.or (sl_tupA.or sl_str)) he hl hh) fun σ H Q ⟨ρ, G, la, P, XX, r, h, q, xo⟩ => ⟨ρ, G, la, _, XX, r, h, fun d ρ1 v G1 la1 H1 p1 a1 z1 => ⟨ρ1, G1, la1, _, XX, a1.r, p1, fun l ρ2 G2 la2 H2 p2 a2 => ⟨ρ2, G2, la2, _, XX, a2.r, p2, fun u ρ3 G3 la3 H3 p3 a3 => by
    have a4 := (a1.trans a2).trans a3
    have dz := (z1.up a2.g).up a3.g
    have sm := a3.r.ext
    have p3' : gSl d l u fun z => P z ρ3 := p3
    unfold gSl at p3'
    split at p3'
    · cases dz with
      | tup a lz rr =>
        refine .inr (.inl ⟨_, _, rfl, same_t sm a, fun w => ?_, fun w p hp => ?_⟩)
        · rw [rr.len] at w
          rw [cut_all w] at p3'
          exact q _ _ _ _ _ _ p3' a4 (.tup a lz rr)
        · exact q _ _ _ _ _ _ p3' (a4.grow (Grow.new sm hp)) (.tup (.inl (.inl upd_same)) (Nat.le_trans (cutV_length _ _ _) lz) ((cut_dps rr _ _).up (Grow.new sm hp).g))
    · cases dz with
      | lst a lz rr =>
        refine .inl ⟨_, _, rfl, SqL.of (sm _ _ a), fun p hp => ?_⟩
        exact q _ _ _ _ _ _ p3' (a4.grow (Grow.new sm hp)) (.lst upd_same (Nat.le_trans (cutV_length _ _ _) lz) ((cut_dps rr _ _).up (Grow.new sm hp).g))
    · cases dz
      exact .inr (.inr ⟨_, rfl, p3'.1, q _ _ _ _ _ _ p3'.2 a4 (.str _)⟩)
    · exact p3'.elim, xo.up (a1.trans a2).g (a1.trans a2).p⟩, xo.up a1.g a1.p⟩, xo⟩
end

/-! ### built-ins that are called -/
/-- r on values does what g does on data -/
def COp (K : PySem.W.Frag) (r : List V → Hp → VK → Prop) (g : List D → (D → Prop) → Prop) : Prop := ∀ (G H : Hp) (vs : List V) (ds : List D) (P : D → Prop) (Q : VK), Same G H → Dps K G vs ds → g ds P →
  (∀ z v G' H', P z → Grow G H G' H' → Dp K G' v z → Q v H') → r vs H Q
def dCB (g : List D → (D → Prop) → Prop) (fa : DA) : DE := fun X ρ Q => fa X ρ fun xs ρ' => match dats xs with
  | some ds => g ds fun z => Q z ρ'
  | none => False
section
variable {X : Cx} {W : WX} {e : Expr} {es : List Expr} {x : Str} {p pos : Pos} {r : List V → Hp → VK → Prop} {g : List D → (D → Prop) → Prop} {fa : DA}
theorem cb_core {K : PySem.W.Frag} {r : List V → Hp → VK → Prop} {g : List D → (D → Prop) → Prop} {fa : DA} (hg : COp K r g) : ∀ (σ : L2.St) (H : Hp) (Q : VK), lE K W (dCB g fa) σ H Q → tCB r (lA K W fa) σ H Q := fun σ H Q ⟨ρ, G, la, P, XX, re, h, q, xo⟩ =>
  ⟨ρ, G, la, _, XX, re, h, fun xs ρ1 vs G1 la1 H1 p1 a1 z1 => by
    have p1' : (match dats xs with
      | some ds => g ds fun z => P z ρ1
      | none => False) := p1
    split at p1'
    · rename_i ds hd
      exact hg G1 H1 vs ds _ Q a1.r.ext (dats_of z1 hd) p1' fun z w G' H' pz gr dz => q _ _ _ _ _ _ pz (a1.grow gr) dz
    · exact p1'.elim, xo⟩
theorem de_cb {id : String} (hc : CallR X (.builtin id) r) (hg : COp X.K r g) (hm : X.mg x = none) (hv : bootBuiltins x = some (.builtin id)) (ha : PA X (e :: es) (lA X.K W fa)) (hgl : Gl X x := by rfl) (hn : x ≠ "__name__" := by decide) (hdb : (x == ("__debug__" : Str)) = false := by decide)
    (he : starEach (e :: es) X.env = (false, eval e X.env) :: starEach es X.env := by rfl) (hpl : (backTo pos (starEach es X.env)).any (·.1) = false := by rfl) : PE X (.Call (.Name x p) (e :: es) [] pos) (lE X.K W (dCB g fa)) :=
  pe_imp (pe_callB hc hgl hm hv ha hn hdb he hpl) (cb_core hg)
theorem de_cty {T : String} (hc : CallR X (.type T) r) (hg : COp X.K r g) (hm : X.mg x = none) (hv : bootBuiltins x = some (.type T)) (ha : PA X (e :: es) (lA X.K W fa)) (hgl : Gl X x := by rfl) (hn : x ≠ "__name__" := by decide) (hdb : (x == ("__debug__" : Str)) = false := by decide)
    (he : starEach (e :: es) X.env = (false, eval e X.env) :: starEach es X.env := by rfl) (hpl : (backTo pos (starEach es X.env)).any (·.1) = false := by rfl) : PE X (.Call (.Name x p) (e :: es) [] pos) (lE X.K W (dCB g fa)) :=
  pe_imp (pe_callTy hc hgl hm hv ha hn hdb he hpl) (cb_core hg)
end
/-- len -/
def gLen : List D → (D → Prop) → Prop
  | [.tup xs], P => P (.int xs.length)
  | [.lst xs], P => P (.int xs.length)
  | [.scr ns], P => P (.int ns.length)
  | [.str z], P => z.length ≤ sizeLine ∧ P (.int z.length)
  | _, _ => False
def gAbs : List D → (D → Prop) → Prop
  | [.int i], P => P (.int (if i < 0 then -i else i))
  | _, _ => False
def gInt : List D → (D → Prop) → Prop
  | [.int i], P => P (.int i)
  | [.bl k], P => P (.int (if k then 1 else 0))
  | _, _ => False
def gMax2 : List D → (D → Prop) → Prop
  | [.int i, .int j], P => P (.int (if j > i then j else i))
  | _, _ => False
def gMin2 : List D → (D → Prop) → Prop
  | [.int i, .int j], P => P (.int (if j < i then j else i))
  | _, _ => False
def gTuple : List D → (D → Prop) → Prop
  | [.tup xs], P => P (.tup xs)
  | [.lst xs], P => P (.tup xs)
  | _, _ => False
def gList : List D → (D → Prop) → Prop
  | [.tup xs], P => P (.lst xs)
  | [.lst xs], P => P (.lst xs)
  | _, _ => False
/-- the ints of a list of data -/
def intsOf : List D → Option (List Int)
  | [] => some []
  | .int i :: r => (intsOf r).map (i :: ·)
  | _ :: _ => none
def maxOf : Int → List Int → Int
  | m, [] => m
  | m, x :: r => maxOf (if x > m then x else m) r
def minOf : Int → List Int → Int
  | m, [] => m
  | m, x :: r => minOf (if x < m then x else m) r
def gMax : List D → (D → Prop) → Prop
  | [.lst xs], P => match intsOf xs with
    | some (n :: ns) => P (.int (maxOf n ns))
    | _ => False
  | _, _ => False
def gMin : List D → (D → Prop) → Prop
  | [.lst xs], P => match intsOf xs with
    | some (n :: ns) => P (.int (minOf n ns))
    | _ => False
  | _, _ => False
/-- isinstance -/
def tyD : D → Option String
  | .non => some "NoneType"
  | .bl _ => some "bool"
  | .int _ => some "int"
  | .str _ => some "str"
  | .tup _ => some "tuple"
  | .lst _ => some "list"
  | _ => none
def isiD (t : String) (n : String) : Bool := t == n || (t == "bool" && n == "int")
def gIsi : List D → (D → Prop) → Prop
  | [d, .raw (.ty n)], P => match tyD d with
    | some t => (n = "int" ∨ n = "bool" ∨ n = "str" ∨ n = "tuple" ∨ n = "list") ∧ P (.bl (isiD t n))
    | none => False
  | _, _ => False
section
variable {K : PySem.W.Frag} {G H : Hp}
theorem intsOf_of : ∀ {vs : List V} {ds : List D} {ns : List Int}, Dps K G vs ds → intsOf ds = some ns → vs = ns.map V.int
  | _, _, _, .nil, h => by
    have e := Option.some.inj h
    subst e
    rfl
  | _, .int i :: r, _, .cons a s, h => by
    have h' : (intsOf r).map (i :: ·) = some _ := h
    obtain ⟨t, ht, e⟩ := Option.map_eq_some_iff.mp h'
    subst e
    cases a
    rw [intsOf_of s ht]
    rfl
  | _, .non :: _, _, .cons _ _, h => by cases h
  | _, .bl _ :: _, _, .cons _ _, h => by cases h
  | _, .str _ :: _, _, .cons _ _, h => by cases h
  | _, .raw _ :: _, _, .cons _ _, h => by cases h
  | _, .tup _ :: _, _, .cons _ _, h => by cases h
  | _, .lst _ :: _, _, .cons _ _, h => by cases h
  | _, .scr _ :: _, _, .cons _ _, h => by cases h
  | _, .fn _ :: _, _, .cons _ _, h => by cases h
  | _, .err _ _ :: _, _, .cons _ _, h => by cases h
theorem maxOf_ge : ∀ (ns : List Int) (m : Int), m ≤ maxOf m ns ∧ (∀ y ∈ ns, y ≤ maxOf m ns) ∧ (maxOf m ns = m ∨ maxOf m ns ∈ ns)
  | [], m => ⟨Int.le_refl _, fun _ h => by simp at h, .inl rfl⟩
  | x :: r, m => by
    obtain ⟨a, b, c⟩ := maxOf_ge r (if x > m then x else m)
    unfold maxOf
    have hx : x ≤ (if x > m then x else m) ∧ m ≤ (if x > m then x else m) := by split <;> omega
    refine ⟨Int.le_trans hx.2 a, fun y hy => ?_, ?_⟩
    · rcases List.mem_cons.mp hy with e | hy
      · rw [e]
        exact Int.le_trans hx.1 a
      · exact b y hy
    · rcases c with c | c
      · by_cases q : x > m
        · rw [if_pos q] at c
          rw [if_pos q, c]
          exact .inr List.mem_cons_self
        · rw [if_neg q] at c
          rw [if_neg q, c]
          exact .inl rfl
      · exact .inr (List.mem_cons_of_mem _ c)
theorem minOf_le : ∀ (ns : List Int) (m : Int), minOf m ns ≤ m ∧ (∀ y ∈ ns, minOf m ns ≤ y) ∧ (minOf m ns = m ∨ minOf m ns ∈ ns)
  | [], m => ⟨Int.le_refl _, fun _ h => by simp at h, .inl rfl⟩
  | x :: r, m => by
    obtain ⟨a, b, c⟩ := minOf_le r (if x < m then x else m)
    unfold minOf
    have hx : (if x < m then x else m) ≤ x ∧ (if x < m then x else m) ≤ m := by split <;> omega
    refine ⟨Int.le_trans a hx.2, fun y hy => ?_, ?_⟩
    · rcases List.mem_cons.mp hy with e | hy
      · rw [e]
        exact Int.le_trans a hx.1
      · exact b y hy
    · rcases c with c | c
      · by_cases q : x < m
        · rw [if_pos q] at c
          rw [if_pos q, c]
          exact .inr List.mem_cons_self
        · rw [if_neg q] at c
          rw [if_neg q, c]
          exact .inl rfl
      · exact .inr (List.mem_cons_of_mem _ c)
theorem one_of {vs : List V} {d : D} (h : Dps K G vs [d]) : ∃ v, vs = [v] ∧ Dp K G v d := by
  cases h with
  | cons a r =>
    cases r
    exact ⟨_, rfl, a⟩
theorem two_of {vs : List V} {d e : D} (h : Dps K G vs [d, e]) : ∃ v u, vs = [v, u] ∧ Dp K G v d ∧ Dp K G u e := by
  cases h with
  | cons a r =>
    obtain ⟨u, rfl, b⟩ := one_of r
    exact ⟨_, _, rfl, a, b⟩
theorem c_len : COp K (fun xs H Q => ∃ x n, xs = [x] ∧ LenV K x H n ∧ Q (.int n) H) gLen := by
  intro G H vs ds P Q sm h gp k
  unfold gLen at gp
  split at gp
  · obtain ⟨v, rfl, a⟩ := one_of h
    cases a with
    | tup a l r =>
      rw [← r.len] at gp
      exact ⟨_, _, rfl, .inr ⟨_, same_t sm a, rfl⟩, k _ _ _ _ gp (Grow.refl sm) (.int _)⟩
  · obtain ⟨v, rfl, a⟩ := one_of h
    cases a with
    | lst a l r =>
      rw [← r.len] at gp
      exact ⟨_, _, rfl, .inl ⟨_, SqL.of (sm _ _ a), rfl⟩, k _ _ _ _ gp (Grow.refl sm) (.int _)⟩
  · obtain ⟨v, rfl, a⟩ := one_of h
    cases a with
    | scr a =>
      refine ⟨_, _, rfl, .inl ⟨_, sm.seq a, rfl⟩, ?_⟩
      rw [List.length_map]
      exact k _ _ _ _ gp (Grow.refl sm) (.int _)
  · obtain ⟨v, rfl, a⟩ := one_of h
    cases a
    exact ⟨_, _, rfl, ⟨gp.1, rfl⟩, k _ _ _ _ gp.2 (Grow.refl sm) (.int _)⟩
  · exact gp.elim
theorem c_abs : COp K (fun xs H Q => ∃ i, xs = [.int i] ∧ Q (.int (if i < 0 then -i else i)) H) gAbs := by
  intro G H vs ds P Q sm h gp k
  unfold gAbs at gp
  split at gp
  · obtain ⟨v, rfl, a⟩ := one_of h
    cases a
    exact ⟨_, rfl, k _ _ _ _ gp (Grow.refl sm) (.int _)⟩
  · exact gp.elim
theorem c_int : COp K (fun xs H Q => (∃ i, xs = [.int i] ∧ Q (.int i) H) ∨ ∃ k, xs = [.bl k] ∧ Q (.int (if k then 1 else 0)) H) gInt := by
  intro G H vs ds P Q sm h gp k
  unfold gInt at gp
  split at gp
  · obtain ⟨v, rfl, a⟩ := one_of h
    cases a
    exact .inl ⟨_, rfl, k _ _ _ _ gp (Grow.refl sm) (.int _)⟩
  · obtain ⟨v, rfl, a⟩ := one_of h
    cases a
    exact .inr ⟨_, rfl, k _ _ _ _ gp (Grow.refl sm) (.int _)⟩
  · exact gp.elim
theorem c_max2 : COp K (fun xs H Q => ∃ i j, xs = [.int i, .int j] ∧ Q (.int (if j > i then j else i)) H) gMax2 := by
  intro G H vs ds P Q sm h gp k
  unfold gMax2 at gp
  split at gp
  · obtain ⟨v, u, rfl, a, b⟩ := two_of h
    cases a
    cases b
    exact ⟨_, _, rfl, k _ _ _ _ gp (Grow.refl sm) (.int _)⟩
  · exact gp.elim
theorem c_min2 : COp K (fun xs H Q => ∃ i j, xs = [.int i, .int j] ∧ Q (.int (if j < i then j else i)) H) gMin2 := by
  intro G H vs ds P Q sm h gp k
  unfold gMin2 at gp
  split at gp
  · obtain ⟨v, u, rfl, a, b⟩ := two_of h
    cases a
    cases b
    exact ⟨_, _, rfl, k _ _ _ _ gp (Grow.refl sm) (.int _)⟩
  · exact gp.elim
theorem c_tuple : COp K (fun xs H Q => ∃ p ys, xs = [.ref p] ∧ ((SqL K H p ys ∧ ∀ l, H l = none → Q (.ref l) (upd H l (.tup ys))) ∨ (SqT K H p ys ∧ Q (.ref p) H))) gTuple := by
  intro G H vs ds P Q sm h gp k
  unfold gTuple at gp
  split at gp
  · obtain ⟨v, rfl, a⟩ := one_of h
    cases a with
    | tup a l r => exact ⟨_, _, rfl, .inr ⟨same_t sm a, k _ _ _ _ gp (Grow.refl sm) (.tup a l r)⟩⟩
  · obtain ⟨v, rfl, a⟩ := one_of h
    cases a with
    | lst a l r =>
      refine ⟨_, _, rfl, .inl ⟨SqL.of (sm _ _ a), fun p hp => ?_⟩⟩
      exact k _ _ _ _ gp (Grow.new sm hp) (.tup (.inl (.inl upd_same)) l (r.up (Grow.new sm hp).g))
  · exact gp.elim
theorem c_list : COp K (fun xs H Q => ∃ p ys, xs = [.ref p] ∧ (SqL K H p ys ∨ SqT K H p ys) ∧ ∀ l, H l = none → Q (.ref l) (upd H l (.lst ys))) gList := by
  intro G H vs ds P Q sm h gp k
  unfold gList at gp
  split at gp
  · obtain ⟨v, rfl, a⟩ := one_of h
    cases a with
    | tup a l r =>
      refine ⟨_, _, rfl, .inr (same_t sm a), fun p hp => ?_⟩
      exact k _ _ _ _ gp (Grow.new sm hp) (.lst upd_same l (r.up (Grow.new sm hp).g))
  · obtain ⟨v, rfl, a⟩ := one_of h
    cases a with
    | lst a l r =>
      refine ⟨_, _, rfl, .inl (SqL.of (sm _ _ a)), fun p hp => ?_⟩
      exact k _ _ _ _ gp (Grow.new sm hp) (.lst upd_same l (r.up (Grow.new sm hp).g))
  · exact gp.elim
theorem c_max : COp K (rMax K) gMax := by
  intro G H vs ds P Q sm h gp k
  unfold gMax at gp
  split at gp
  · obtain ⟨v, rfl, a⟩ := one_of h
    split at gp
    · rename_i n ns hn
      cases a with
      | lst a l r =>
        have e := intsOf_of r hn
        subst e
        refine ⟨_, n :: ns, rfl, SqL.of (sm _ _ a), Nat.succ_pos _, fun m hm hle => ?_⟩
        obtain ⟨c1, c2, c3⟩ := maxOf_ge ns n
        have em : m = maxOf n ns := by
          have h1 : maxOf n ns ≤ m := by
            rcases c3 with c3 | c3
            · rw [c3]
              exact hle n List.mem_cons_self
            · exact hle _ (List.mem_cons_of_mem _ c3)
          have h2 : m ≤ maxOf n ns := by
            rcases List.mem_cons.mp hm with e | hm
            · rw [e]
              exact c1
            · exact c2 m hm
          omega
        rw [em]
        exact k _ _ _ _ gp (Grow.refl sm) (.int _)
    · exact gp.elim
  · exact gp.elim
theorem c_min : COp K (rMin K) gMin := by
  intro G H vs ds P Q sm h gp k
  unfold gMin at gp
  split at gp
  · obtain ⟨v, rfl, a⟩ := one_of h
    split at gp
    · rename_i n ns hn
      cases a with
      | lst a l r =>
        have e := intsOf_of r hn
        subst e
        refine ⟨_, n :: ns, rfl, SqL.of (sm _ _ a), Nat.succ_pos _, fun m hm hle => ?_⟩
        obtain ⟨c1, c2, c3⟩ := minOf_le ns n
        have em : m = minOf n ns := by
          have h1 : m ≤ minOf n ns := by
            rcases c3 with c3 | c3
            · rw [c3]
              exact hle n List.mem_cons_self
            · exact hle _ (List.mem_cons_of_mem _ c3)
          have h2 : minOf n ns ≤ m := by
            rcases List.mem_cons.mp hm with e | hm
            · rw [e]
              exact c1
            · exact c2 m hm
          omega
        rw [em]
        exact k _ _ _ _ gp (Grow.refl sm) (.int _)
    · exact gp.elim
  · exact gp.elim
theorem tyx_t {H : Hp} {p : Addr} {vs : List V} (h : SqT K H p vs) : TyX K H (.ref p) (.type "tuple") := by
  rcases h with (h | ⟨o, h⟩) | ⟨o, its, n, hk, hc, _⟩
  · exact .base (.tup h)
  · exact .fTuple h
  · exact .kTuple hk hc
theorem kit_isi {K : PySem.W.Frag} : ∀ {t n : String}, (t = "NoneType" ∨ t = "bool" ∨ t = "int" ∨ t = "str" ∨ t = "tuple" ∨ t = "list") → (n = "int" ∨ n = "bool" ∨ n = "str" ∨ n = "tuple" ∨ n = "list") → PySem.W.kitOne K (.type t) (.type n) = some (isiD t n) := by
  intro t n ht hn
  rcases ht with rfl | rfl | rfl | rfl | rfl | rfl <;> rcases hn with rfl | rfl | rfl | rfl | rfl <;> exact kit_ty (by decide +kernel)
theorem c_isi : COp K (rIsi K) gIsi := by
  intro G H vs ds P Q sm h gp k
  unfold gIsi at gp
  split at gp
  · rename_i d n
    obtain ⟨v, u, rfl, a, b⟩ := two_of h
    split at gp
    · rename_i t ht
      cases b
      have key : TyX K H v (.type t) ∧ (t = "NoneType" ∨ t = "bool" ∨ t = "int" ∨ t = "str" ∨ t = "tuple" ∨ t = "list") := by
        cases a with
        | non => have e := Option.some.inj ht; subst e; exact ⟨.base .non, by simp⟩
        | bl b => have e := Option.some.inj ht; subst e; exact ⟨.base (.bl b), by simp⟩
        | int i => have e := Option.some.inj ht; subst e; exact ⟨.base (.int i), by simp⟩
        | str z => have e := Option.some.inj ht; subst e; exact ⟨.base (.str z), by simp⟩
        | tup a l r => have e := Option.some.inj ht; subst e; exact ⟨tyx_t (same_t sm a), by simp⟩
        | lst a l r => have e := Option.some.inj ht; subst e; exact ⟨.base (.lst (sm _ _ a)), by simp⟩
        | raw _ => cases ht
        | scr _ => cases ht
        | fn _ => cases ht
        | err _ _ => cases ht
        | erf _ _ _ => cases ht
      exact ⟨v, .ty n, .type t, .type n, isiD t n, rfl, .ty n, key.1, kit_isi key.2 gp.1, k _ _ _ _ gp.2 (Grow.refl sm) (.bl _)⟩
    · exact gp.elim
  · exact gp.elim
end
section
variable {X : Cx} {W : WX} {e e2 : Expr} {p pos : Pos} {fa : DA}
theorem de_len (hm : X.mg "len" = none) (ha : PA X [e] (lA X.K W fa)) (hgl : Gl X "len" := by rfl) (he : starEach [e] X.env = (false, eval e X.env) :: starEach [] X.env := by rfl) : PE X (.Call (.Name "len" p) [e] [] pos) (lE X.K W (dCB gLen fa)) :=
  de_cb call_len c_len hm PySem.boot_len ha hgl (by decide) (by decide) he rfl
theorem de_ty {x : Str} {n : String} {pos : Pos} (hm : X.mg x = none) (hv : bootBuiltins x = some (.type n)) (hg : Gl X x := by rfl) (hn : x ≠ "__name__" := by decide) (hd : (x == ("__debug__" : Str)) = false := by decide) : PE X (.Name x pos) (lE X.K W (dC (.raw (.ty n)))) :=
  de_c (pe_bltn (v := .ty n) hg hm hv rfl hn hd) fun _ _ => .raw _
end
end DL
set_option Elab.async false
set_option linter.all false
set_option maxRecDepth 100000
set_option maxHeartbeats 4000000
set_option autoImplicit false
/-! The data level: targets, what is walked, comprehensions, statements, calls of defs. -/
namespace DL
open PySem PySem.Spec PyProof.Rows L2

/-! ### targets -/
/-- the slots agree but at is_ -/
def Eqw (is_ : List Nat) (σ σ' : L2.St) : Prop := σ.length = σ'.length ∧ ∀ j : Nat, j ∉ is_ → σ[j]? = σ'[j]?
theorem Eqw.refl (is_ : List Nat) (σ : L2.St) : Eqw is_ σ σ := ⟨rfl, fun _ _ => rfl⟩
theorem Eqw.trans {is_ js : List Nat} {σ σ1 σ2 : L2.St} (a : Eqw is_ σ σ1) (b : Eqw js σ1 σ2) : Eqw (is_ ++ js) σ σ2 :=
  ⟨a.1.trans b.1, fun j hj => (a.2 j fun z => hj (List.mem_append_left _ z)).trans (b.2 j fun z => hj (List.mem_append_right _ z))⟩
theorem wipe_get (σ : L2.St) : ∀ (vs : List Nat) (j : Nat), (wipe σ vs)[j]? = if j ∈ vs ∧ j < σ.length then some none else σ[j]?
  | [], j => by simp [wipe]
  | v :: vs, j => by
    unfold wipe
    rw [List.getElem?_set]
    have ih := wipe_get σ vs j
    by_cases h : v = j
    · subst h
      rw [wipe_length]
      by_cases hl : v < σ.length
      · simp [hl]
      · simp [hl]
    · rw [if_neg h, ih]
      by_cases hm : j ∈ vs ∧ j < σ.length
      · rw [if_pos hm, if_pos ⟨List.mem_cons_of_mem _ hm.1, hm.2⟩]
      · rw [if_neg hm, if_neg]
        rintro ⟨h1, h2⟩
        rcases List.mem_cons.mp h1 with e | h1
        · exact h e.symm
        · exact hm ⟨h1, h2⟩
theorem Eqw.wipe {is_ vs : List Nat} {σ σ' : L2.St} (a : Eqw is_ σ σ') (h : ∀ i ∈ is_, i ∈ vs) : L2.wipe σ' vs = L2.wipe σ vs := by
  apply List.ext_getElem?
  intro j
  rw [wipe_get, wipe_get, ← a.1]
  by_cases hm : j ∈ vs ∧ j < σ.length
  · rw [if_pos hm, if_pos hm]
  · rw [if_neg hm, if_neg hm]
    by_cases hj : j ∈ is_
    · have h1 : ¬ j < σ.length := fun z => hm ⟨h j hj, z⟩
      have h2 := a.1
      rw [List.getElem?_eq_none (by omega), List.getElem?_eq_none (by omega)]
    · exact (a.2 j hj).symm
theorem wipe_wipe {σ σ' : L2.St} {vs : List Nat} (h : L2.wipe σ' vs = L2.wipe (L2.wipe σ vs) vs) : L2.wipe σ' vs = L2.wipe σ vs := by
  rw [h]
  apply List.ext_getElem?
  intro j
  rw [wipe_get, wipe_get, wipe_length]
  by_cases hm : j ∈ vs ∧ j < σ.length
  · rw [if_pos hm, if_pos hm]
  · rw [if_neg hm, if_neg hm]

def lG (K : PySem.W.Frag) (is_ : List Nat) (g : DG) : TG := fun v σ H Q => ∃ ρ G la d P, Re K G H la σ ρ ∧ Dp K G v d ∧ g d ρ P ∧ ∀ ρ' σ', P ρ' → Re K G H la σ' ρ' → Eqw is_ σ σ' → Q σ' H
abbrev DGs := List D → Env → (Env → Prop) → Prop
def lGs (K : PySem.W.Frag) (is_ : List Nat) (g : DGs) : TGs := fun vs σ H Q => ∃ ρ G la ds P, Re K G H la σ ρ ∧ Dps K G vs ds ∧ g ds ρ P ∧ ∀ ρ' σ', P ρ' → Re K G H la σ' ρ' → Eqw is_ σ σ' → Q σ' H
def gNm (i : Nat) : DG := fun d ρ Q => Q ⟨ρ.T, ρ.s.set i (some (.dat d))⟩
def gNl : DGs := fun ds ρ Q => match ds with
  | [] => Q ρ
  | _ => False
def gCs (t : DG) (u : DGs) : DGs := fun ds ρ Q => match ds with
  | d :: r => t d ρ fun ρ' => u r ρ' Q
  | _ => False
/-- (a, b, ..) = a tuple of so many -/
def gTp (n : Nat) (u : DGs) : DG := fun d ρ Q => match d with
  | .tup ds => ds.length = n ∧ u ds ρ Q
  | _ => False
theorem pg_imp {X : Cx} {e : Expr} {t t' : TG} (h : PG X e t) (w : ∀ v σ H Q, t' v σ H Q → t v σ H Q) : PG X e t' := ⟨fun pins s σ H v u Q I r q => h.run pins s σ H v u Q I r (w v σ H Q q)⟩
theorem pgs_imp {X : Cx} {es : List Expr} {t t' : TGs} (h : PGs X es t) (w : ∀ v σ H Q, t' v σ H Q → t v σ H Q) : PGs X es t' := ⟨fun pins s σ H v u Q I r q => h.run pins s σ H v u Q I r (w v σ H Q q)⟩
section
variable {X : Cx}
theorem dg_name (i : Nat) {x : Str} {pos : Pos} (hN : X.N.Nodup) (hi : X.N[i]? = some x := by rfl) (hx : Loc X.env.scope x := by first | exact Or.inl rfl | exact Or.inr rfl) (hf : X.fn x = true ∨ X.env.scope.names.lookup x = some .local := by first | exact .inl rfl | exact .inr rfl | assumption) :
    PG X (.Name x pos) (lG X.K [i] (gNm i)) := pg_imp (pg_name (i := i) hN hi hx hf) fun v σ H Q ⟨ρ, G, la, d, P, r, dp, g, q⟩ => q _ _ g (r.set (x := .dat d) dp) ⟨by simp, fun j hj => by
      have hj' : j ≠ i := by simpa using hj
      rw [List.getElem?_set_ne (Ne.symm hj')]⟩
theorem dgs_nil : PGs X [] (lGs X.K [] gNl) := pgs_imp pgs_nil fun v σ H Q ⟨ρ, G, la, ds, P, r, dp, g, q⟩ => by
  cases dp with
  | nil => exact ⟨rfl, q _ _ (show P ρ from g) r (Eqw.refl _ _)⟩
  | cons _ _ => exact (show False from g).elim
theorem dgs_cons {e : Expr} {es : List Expr} {t : DG} {u : DGs} {is_ js : List Nat} (h1 : PG X e (lG X.K is_ t)) (h2 : PGs X es (lGs X.K js u)) (hs : (assignEach (e :: es) X.env).map (·.2) = assign e X.env :: (assignEach es X.env).map (·.2) := by rfl) :
    PGs X (e :: es) (lGs X.K (is_ ++ js) (gCs t u)) := pgs_imp (pgs_cons h1 h2 hs) fun v σ H Q ⟨ρ, G, la, ds, P, r, dp, g, q⟩ => by
  cases dp with
  | nil => exact (show False from g).elim
  | cons a b =>
    refine ⟨_, _, rfl, ρ, G, la, _, _, r, a, g, fun ρ1 σ1 p1 r1 w1 => ⟨ρ1, G, la, _, P, r1, b, p1, fun ρ2 σ2 p2 r2 w2 => q ρ2 σ2 p2 r2 (w1.trans w2)⟩⟩
theorem dg_tup {es : List Expr} {k : Nat} {u : DGs} {n : Nat} {is_ : List Nat} {pos : Pos} (hc : X.calm = true) (h : PGs X es (lGs X.K is_ u)) (hn : (assignEach es X.env).length = n := by rfl) (hst : (assignEach es X.env).findIdx? (·.1) = none := by rfl) :
    PG X (.Tuple es k pos) (lG X.K is_ (gTp n u)) := pg_imp (pg_tup hc h hn hst) fun v σ H Q ⟨ρ, G, la, d, P, r, dp, g, q⟩ => by
  cases dp with
  | tup a l b =>
    have g' : _ ∧ u _ ρ P := g
    exact ⟨_, _, rfl, same_t r.ext a, by rw [b.len]; exact g'.1, ρ, G, la, _, P, r, b, g'.2, q⟩
  | _ => exact (show False from g).elim
end

/-! ### what is walked -/
/-- J gives the data ds, one a turn -/
structure WalkD (K : PySem.W.Frag) (J : It) (G : Hp) (ds : List D) : Prop where
  goes : ∀ (i : Nat) (H : Hp), i < ds.length → Same G H → J.go i H
  stops : ∀ H, Same G H → J.stop ds.length H
  yields : ∀ (i : Nat) (G' H : Hp) (x : V) (H' : Hp), Same G G' → Same G' H → J.yld i H x H' → ∀ d, ds[i]? = some d → ∃ G1, Grow G' H G1 H' ∧ Dp K G1 x d
def lI (K : PySem.W.Frag) (W : WX) (f : DI) : TI := fun σ H R => ∃ ρ G la P X, Re K G H la σ ρ ∧ f X ρ P ∧ (∀ ds ρ' G' la' H' J, P ds ρ' → Aft K G la σ ρ' G' la' H' → WalkD K J G' ds → ds.length ≤ 2 ^ 62 → R J H') ∧ XO K G la W X
theorem pi_imp {X : Cx} {tg e : Expr} {t t' : TI} (h : PI X tg e t) (w : ∀ σ H R, t' σ H R → t σ H R) : PI X tg e t' := ⟨fun pins s σ H R I q => h.run pins s σ H R I (w σ H R q)⟩
/-- a list or a tuple -/
def iSeq (K : PySem.W.Frag) (tl : TE) : TI := fun σ H R => tl σ H fun x H1 => ∃ a xs, x = .ref a ∧ ((SqL K H1 a xs ∧ R (Itl K a) H1) ∨ (SqT K H1 a xs ∧ R (Itt K a) H1))
theorem pi_seq {X : Cx} {tg l : Expr} {tl : TE} (hl : PE X l tl) : PI X tg l (iSeq X.K tl) := by
  constructor
  intro pins s σ H R I h
  refine thn (hl.run pins s σ H _ I h) ?_
  rintro v s1 ⟨x, H1, I1, r1, a, xs, rfl, q⟩
  cases r1
  have fp : ∀ b ∈ [s1.heap.objs.size], FpOk X pins H1 b := fun b hb => by
    obtain rfl : b = s1.heap.objs.size := by simpa using hb
    exact I1.fpOk (Nat.le_refl _) (I1.hok.fresh (Nat.le_refl _))
  rcases q with ⟨hq, q⟩ | ⟨hq, q⟩
  · obtain ⟨its, rv, p, hz⟩ := I1.list hq
    exact wpAny_pyIter_list p.isList ⟨_, [s1.heap.objs.size], _, _, H1, rfl, I1.kept (t' := s1.toks) fun b o e => Heap.get?_push_of_some _ e, turn_list a _, ⟨_, Heap.get?_push_size _ rfl, rfl, rfl⟩, fp, q⟩
  · obtain ⟨its, rv, p, hz⟩ := I1.tuple hq
    exact wpAny_pyIter_tuple (show s1.heap.IsTuple a its.toArray from p) ⟨_, [s1.heap.objs.size], _, _, H1, rfl, I1.kept (t' := s1.toks) fun b o e => Heap.get?_push_of_some _ e, turn_tuple a _, ⟨_, Heap.get?_push_size _ rfl, rfl, rfl⟩, fp, q⟩
def dSeq (f : DE) : DI := fun X ρ Q => f X ρ fun d ρ' => match d with
  | .tup ds => Q ds ρ'
  | .lst ds => Q ds ρ'
  | _ => False
theorem line62 : sizeLine ≤ 2 ^ 62 := by rw [sizeLine_eq]; decide
section
variable {K : PySem.W.Frag} {G H : Hp}
theorem walkD_l {p : Addr} {vs : List V} {ds : List D} (h : G p = some (.lst vs)) (d : Dps K G vs ds) : WalkD K (Itl K p) G ds := by
  refine ⟨fun i H hi e => ⟨vs, vs[i]'(by rw [d.len]; exact hi), SqL.of (e _ _ h), by simp [d.len, hi]⟩, fun H e => ⟨vs, SqL.of (e _ _ h), by rw [d.len]; exact Nat.le_refl _⟩, fun i G' H x H' e e' y z hz => ?_⟩
  obtain ⟨rfl, y⟩ := y
  have hx := y vs (SqL.of (e' _ _ (e _ _ h)))
  obtain ⟨d', hd, dd⟩ := d.getV hx
  rw [hz] at hd
  have q := Option.some.inj hd
  subst q
  exact ⟨G', Grow.refl e', dd.up e⟩
theorem walkD_t {p : Addr} {vs : List V} {ds : List D} (h : SqT K G p vs) (d : Dps K G vs ds) : WalkD K (Itt K p) G ds := by
  refine ⟨fun i H hi e => ⟨vs, vs[i]'(by rw [d.len]; exact hi), same_t e h, by simp [d.len, hi]⟩, fun H e => ⟨vs, same_t e h, by rw [d.len]; exact Nat.le_refl _⟩, fun i G' H x H' e e' y z hz => ?_⟩
  obtain ⟨rfl, y⟩ := y
  have hx := y vs (same_t (e.trans e') h)
  obtain ⟨d', hd, dd⟩ := d.getV hx
  rw [hz] at hd
  have q := Option.some.inj hd
  subst q
  exact ⟨G', Grow.refl e', dd.up e⟩
end
section
variable {X : Cx} {W : WX} {tg : Expr}
theorem di_seq {e : Expr} {f : DE} (h : PE X e (lE X.K W f)) : PI X tg e (lI X.K W (dSeq f)) :=
  pi_imp (pi_seq h) fun σ H R ⟨ρ, G, la, P, XX, r, h, q, xo⟩ => ⟨ρ, G, la, _, XX, r, h, fun d ρ1 v G1 la1 H1 p1 a1 z1 => by
    cases z1 with
    | tup a l b => exact ⟨_, _, rfl, .inr ⟨same_t a1.r.ext a, q _ _ _ _ _ _ (show P _ ρ1 from p1) a1 (walkD_t a b) (by rw [← b.len]; exact Nat.le_trans l line62)⟩⟩
    | lst a l b => exact ⟨_, _, rfl, .inl ⟨SqL.of (a1.r.ext _ _ a), q _ _ _ _ _ _ (show P _ ρ1 from p1) a1 (walkD_l a b) (by rw [← b.len]; exact Nat.le_trans l line62)⟩⟩
    | _ => exact (show False from p1).elim, xo⟩
/-- the ints from lo to hi - 1 -/
def rangeD (lo hi : Int) : List D := (List.range (hi - lo).toNat).map fun (k : Nat) => .int (lo + k)
theorem rangeD_len (lo hi : Int) : (rangeD lo hi).length = (hi - lo).toNat := by simp [rangeD]
theorem walkD_r {K : PySem.W.Frag} {G : Hp} (lo : Int) (n : Nat) : WalkD K (Itr lo n) G ((List.range n).map fun (k : Nat) => .int (lo + k)) := by
  refine ⟨fun i H hi _ => by show i < n; simpa using hi, fun H _ => by show n ≤ _; simp, fun i G' H x H' e e' y z hz => ?_⟩
  obtain ⟨rfl, rfl⟩ := y
  rw [List.getElem?_map] at hz
  cases q : (List.range n)[i]? with
  | none =>
    rw [q] at hz
    cases hz
  | some j =>
    rw [q] at hz
    have e1 : i = j := by
      have := List.getElem?_range (n := n) (i := i) (by
        obtain ⟨h1, _⟩ := List.getElem?_eq_some_iff.mp q
        simpa using h1)
      rw [q] at this
      exact (Option.some.inj this).symm
    subst e1
    have e2 : D.int (lo + i) = z := Option.some.inj hz
    subst e2
    exact ⟨G', Grow.refl e', .int _⟩
def dRng1 (fa : DA) : DI := fun X ρ Q => fa X ρ fun ss ρ' => match ss with
  | [.dat (.int j)] => (-(2 ^ 62) ≤ j ∧ j < 2 ^ 62) ∧ Q (rangeD 0 j) ρ'
  | _ => False
def dRng2 (fa : DA) : DI := fun X ρ Q => fa X ρ fun ss ρ' => match ss with
  | [.dat (.int i), .dat (.int j)] => (-(2 ^ 61) ≤ i ∧ i < 2 ^ 61 ∧ -(2 ^ 61) ≤ j ∧ j < 2 ^ 61) ∧ Q (rangeD i j) ρ'
  | _ => False
theorem di_range1 {a : Expr} {fa : DA} {p pos : Pos} (hm : X.mg "range" = none) (ha : PA X [a] (lA X.K W fa)) (hg : Gl X "range" := by rfl) (hs : starEach [a] X.env = [(false, eval a X.env)] := by rfl) : PI X tg (.Call (.Name "range" p) [a] [] pos) (lI X.K W (dRng1 fa)) :=
  pi_imp (pi_range1 hg hm ha hs) fun σ H R ⟨ρ, G, la, P, XX, r, h, q, xo⟩ => ⟨ρ, G, la, _, XX, r, h, fun xs ρ1 vs G1 la1 H1 p1 a1 z1 => by
    have p1' : (match (generalizing := false) xs with
      | [.dat (.int j)] => (-(2 ^ 62) ≤ j ∧ j < 2 ^ 62) ∧ P (rangeD 0 j) ρ1
      | _ => False) := p1
    split at p1'
    · rename_i j
      cases z1 with
      | cons a b =>
        cases b
        cases (show Dp _ _ _ (.int j) from a)
        refine ⟨j, rfl, p1'.1.1, p1'.1.2, q _ _ _ _ _ _ p1'.2 a1 ?_ (by rw [rangeD_len]; omega)⟩
        unfold rangeD
        rw [Int.sub_zero]
        exact walkD_r 0 j.toNat
    · exact p1'.elim, xo⟩
theorem di_range2 {a b : Expr} {fa : DA} {p pos : Pos} (hm : X.mg "range" = none) (ha : PA X [a, b] (lA X.K W fa)) (hg : Gl X "range" := by rfl) (hs : starEach [a, b] X.env = [(false, eval a X.env), (false, eval b X.env)] := by rfl) (hs2 : starEach [b] X.env = [(false, eval b X.env)] := by rfl) :
    PI X tg (.Call (.Name "range" p) [a, b] [] pos) (lI X.K W (dRng2 fa)) :=
  pi_imp (pi_range2 hg hm ha hs hs2) fun σ H R ⟨ρ, G, la, P, XX, r, h, q, xo⟩ => ⟨ρ, G, la, _, XX, r, h, fun xs ρ1 vs G1 la1 H1 p1 a1 z1 => by
    have p1' : (match (generalizing := false) xs with
      | [.dat (.int i), .dat (.int j)] => (-(2 ^ 61) ≤ i ∧ i < 2 ^ 61 ∧ -(2 ^ 61) ≤ j ∧ j < 2 ^ 61) ∧ P (rangeD i j) ρ1
      | _ => False) := p1
    split at p1'
    · rename_i i j
      cases z1 with
      | cons a b =>
        cases b with
        | cons b c =>
          cases c
          cases (show Dp _ _ _ (.int i) from a)
          cases (show Dp _ _ _ (.int j) from b)
          obtain ⟨⟨b1, b2, b3, b4⟩, p2⟩ := p1'
          refine ⟨i, j, rfl, ⟨by omega, by omega, by omega, by omega⟩, q _ _ _ _ _ _ p2 a1 (walkD_r i (j - i).toNat) (by rw [rangeD_len]; omega)⟩
    · exact p1'.elim, xo⟩
/-- zip of two lists, of two tuples -/
def zipD : List D → List D → List D
  | x :: xs, y :: ys => .tup [x, y] :: zipD xs ys
  | _, _ => []
theorem zipD_len : ∀ xs ys : List D, (zipD xs ys).length = min xs.length ys.length
  | [], _ => by simp [zipD]
  | _ :: _, [] => by simp [zipD]
  | _ :: xs, _ :: ys => by
    simp only [zipD, List.length_cons, zipD_len xs ys]
    omega
theorem zipD_get : ∀ (xs ys : List D) (i : Nat) (d : D), (zipD xs ys)[i]? = some d → ∃ x y, xs[i]? = some x ∧ ys[i]? = some y ∧ d = .tup [x, y]
  | [], _, i, d, h => by simp [zipD] at h
  | _ :: _, [], i, d, h => by simp [zipD] at h
  | x :: xs, y :: ys, 0, d, h => ⟨x, y, rfl, rfl, (Option.some.inj h).symm⟩
  | _ :: xs, _ :: ys, i + 1, d, h => zipD_get xs ys i d h
def dZip (fa : DA) : DI := fun X ρ Q => fa X ρ fun ss ρ' => match ss with
  | [.dat (.tup a), .dat (.tup b)] => Q (zipD a b) ρ'
  | [.dat (.lst a), .dat (.lst b)] => Q (zipD a b) ρ'
  | _ => False
theorem pair_dp {K : PySem.W.Frag} {G H : Hp} {T : Addr} {x y : V} {d e : D} (sm : Same G H) (hT : H T = none) (a : Dp K G x d) (b : Dp K G y e) : ∃ G1, Grow G H G1 (upd H T (.tup [x, y])) ∧ Dp K G1 (.ref T) (.tup [d, e]) :=
  ⟨_, Grow.new sm hT, .tup (.inl (.inl upd_same)) (by show 2 ≤ sizeLine; decide) (.cons (a.up (Grow.new sm hT).g) (.cons (b.up (Grow.new sm hT).g) .nil))⟩
theorem di_zip {e e2 : Expr} {fa : DA} {p pos tpos : Pos} {elts : List Expr} {kk : Nat} (hm : X.mg "zip" = none) (ha : PA X [e, e2] (lA X.K W fa)) (hg : Gl X "zip" := by rfl) (hs : starEach [e, e2] X.env = (false, eval e X.env) :: starEach [e2] X.env := by rfl) (hpl : (backTo pos (starEach [e2] X.env)).any (·.1) = false := by rfl) :
    PI X (.Tuple elts kk tpos) (.Call (.Name "zip" p) [e, e2] [] pos) (lI X.K W (dZip fa)) :=
  pi_imp (RZ.pi_zipA hg hm ha hs hpl) fun σ H R ⟨ρ, G, la, P, XX, r, h, q, xo⟩ => ⟨ρ, G, la, _, XX, r, h, fun xs ρ1 vs G1 la1 H1 p1 a1 z1 => by
    have p1' : (match (generalizing := false) xs with
      | [.dat (.tup a), .dat (.tup b)] => P (zipD a b) ρ1
      | [.dat (.lst a), .dat (.lst b)] => P (zipD a b) ρ1
      | _ => False) := p1
    split at p1'
    · rename_i da db
      cases z1 with
      | cons a b =>
        cases b with
        | cons b c =>
          cases c
          cases (show Dp _ _ _ (.tup da) from a) with
          | tup ha la_ ra =>
            cases (show Dp _ _ _ (.tup db) from b) with
            | tup hb lb rb =>
              rename_i pa va pb vb
              refine ⟨_, _, va, vb, rfl, .inr ⟨same_t a1.r.ext ha, same_t a1.r.ext hb, q _ _ _ _ _ _ p1' a1 ⟨fun i H hi e => ?_, fun H e => ?_, fun i G' H x H' e e' y z hz => ?_⟩ ?_⟩⟩
              · rw [zipD_len] at hi
                have h1 : i < va.length := by rw [ra.len]; omega
                have h2 : i < vb.length := by rw [rb.len]; omega
                exact ⟨va, vb, va[i], vb[i], same_t e ha, same_t e hb, by simp [h1], by simp [h2]⟩
              · refine ⟨va, vb, same_t e ha, same_t e hb, ?_⟩
                rw [zipD_len, ra.len, rb.len]
                omega
              · obtain ⟨T, u, w, rfl, hT, rfl, f1, f2⟩ := y
                obtain ⟨dx, dy, h1, h2, rfl⟩ := zipD_get _ _ _ _ hz
                obtain ⟨d1, g1, k1⟩ := ra.getV (f1 va (same_t (e.trans e') ha))
                obtain ⟨d2, g2, k2⟩ := rb.getV (f2 vb (same_t (e.trans e') hb))
                rw [h1] at g1
                rw [h2] at g2
                have q1 := Option.some.inj g1
                have q2 := Option.some.inj g2
                subst q1 q2
                exact pair_dp e' hT (k1.up e) (k2.up e)
              · rw [zipD_len, ← ra.len]
                exact Nat.le_trans (Nat.min_le_left _ _) (Nat.le_trans la_ line62)
    · rename_i da db
      cases z1 with
      | cons a b =>
        cases b with
        | cons b c =>
          cases c
          cases (show Dp _ _ _ (.lst da) from a) with
          | lst ha la_ ra =>
            cases (show Dp _ _ _ (.lst db) from b) with
            | lst hb lb rb =>
              rename_i pa va pb vb
              refine ⟨_, _, va, vb, rfl, .inl ⟨SqL.of (a1.r.ext _ _ ha), SqL.of (a1.r.ext _ _ hb), q _ _ _ _ _ _ p1' a1 ⟨fun i H hi e => ?_, fun H e => ?_, fun i G' H x H' e e' y z hz => ?_⟩ ?_⟩⟩
              · rw [zipD_len] at hi
                have h1 : i < va.length := by rw [ra.len]; omega
                have h2 : i < vb.length := by rw [rb.len]; omega
                exact ⟨va, vb, va[i], vb[i], SqL.of (e _ _ ha), SqL.of (e _ _ hb), by simp [h1], by simp [h2]⟩
              · refine ⟨va, vb, SqL.of (e _ _ ha), SqL.of (e _ _ hb), ?_⟩
                rw [zipD_len, ra.len, rb.len]
                omega
              · obtain ⟨T, u, w, rfl, hT, rfl, f1, f2⟩ := y
                obtain ⟨dx, dy, h1, h2, rfl⟩ := zipD_get _ _ _ _ hz
                obtain ⟨d1, g1, k1⟩ := ra.getV (f1 va (SqL.of (e' _ _ (e _ _ ha))))
                obtain ⟨d2, g2, k2⟩ := rb.getV (f2 vb (SqL.of (e' _ _ (e _ _ hb))))
                rw [h1] at g1
                rw [h2] at g2
                have q1 := Option.some.inj g1
                have q2 := Option.some.inj g2
                subst q1 q2
                exact pair_dp e' hT (k1.up e) (k2.up e)
              · rw [zipD_len, ← ra.len]
                exact Nat.le_trans (Nat.min_le_left _ _) (Nat.le_trans la_ line62)
    · exact p1'.elim, xo⟩
end
end DL
set_option Elab.async false
set_option linter.all false
set_option maxRecDepth 100000
set_option maxHeartbeats 4000000
set_option autoImplicit false
/-! The data level: comprehensions, statements, calls of defs, defs. -/
namespace DL
open PySem PySem.Spec PyProof.Rows L2

/-! ### comprehensions -/
def X0 : XP := fun _ _ => False
def W0 : WX := fun _ _ _ _ => False
def wipeS (s : List (Option Sl)) : List Nat → List (Option Sl)
  | [] => s
  | v :: vs => (wipeS s vs).set v none
/-- the turns of a comprehension; the list that is made stands in the table at k -/
def compD (g : DG) (t : DT) (e : DE) (own : List Nat) (k : Nat) : List D → Env → (Env → Prop) → Prop
  | [], ρ, Q => Q ρ
  | d :: ds, ρ, Q => g d ⟨ρ.T, wipeS ρ.s own⟩ fun ρ1 => t X0 ρ1 fun b ρ2 => if b = true then e X0 ρ2 fun y ρ3 => match ρ3.T[k]? with
      | some (.lst acc) => acc.length < sizeLine ∧ compD g t e own k ds ⟨ρ3.T.set k (.lst (acc ++ [y])), ρ3.s⟩ Q
      | _ => False
    else compD g t e own k ds ρ2 Q
def dYes : DT := fun _ ρ Q => Q true ρ
def lTs (K : PySem.W.Frag) (W : WX) (f : DT) : TT := lT K W f

section
variable {K : PySem.W.Frag} {G G' G2 H H' H2 : Hp} {la la' la2 : List Addr} {σ σ' : L2.St} {ρ ρ' ρ2 : Env} {W : WX} {X : XP} {T : List Ob}
theorem wipeS_len (s : List (Option Sl)) : ∀ vs : List Nat, (wipeS s vs).length = s.length
  | [] => rfl
  | v :: vs => by
    unfold wipeS
    rw [List.length_set, wipeS_len s vs]
theorem wipeS_some {s : List (Option Sl)} {i : Nat} {x : Sl} : ∀ {vs : List Nat}, (wipeS s vs)[i]? = some (some x) → s[i]? = some (some x) ∧ i ∉ vs
  | [], h => ⟨h, by simp⟩
  | v :: vs, h => by
    unfold wipeS at h
    by_cases hi : v = i
    · subst hi
      rw [List.getElem?_set] at h
      split at h
      · split at h <;> cases h
      · rename_i n
        exact absurd rfl n
    · rw [List.getElem?_set_ne hi] at h
      obtain ⟨h1, h2⟩ := wipeS_some h
      exact ⟨h1, by simp only [List.mem_cons, not_or]; exact ⟨fun e => hi e.symm, h2⟩⟩
theorem wipe_keep {i : Nat} {v : V} : ∀ {vs : List Nat}, i ∉ vs → (L2.wipe σ vs)[i]? = σ[i]?
  | [], _ => rfl
  | w :: vs, h => by
    unfold L2.wipe
    have h1 : w ≠ i := fun e => h (by rw [e]; exact List.mem_cons_self)
    rw [List.getElem?_set_ne h1]
    exact wipe_keep (v := v) fun z => h (List.mem_cons_of_mem _ z)
/-- the own slots forgotten at both -/
theorem Re.wipe (r : Re K G H la σ ρ) (vs : List Nat) : Re K G H la (L2.wipe σ vs) ⟨ρ.T, wipeS ρ.s vs⟩ :=
  ⟨r.tb, by rw [L2.wipe_length]; exact (wipeS_len _ _).trans r.sl, fun i x h => by
    obtain ⟨h1, h2⟩ := wipeS_some h
    obtain ⟨v, a, b⟩ := r.at_ i x h1
    exact ⟨v, (wipe_keep (v := v) h2).trans a, b⟩⟩
/-- back in the outer slots -/
theorem Re.unwipe {σ : L2.St} {vs : List Nat} (r : Re K G H la (L2.wipe σ vs) ρ) : Re K G H la σ ⟨ρ.T, wipeS ρ.s vs⟩ :=
  ⟨r.tb, (wipeS_len _ _).trans (r.sl.trans (L2.wipe_length _ _)), fun i x h => by
    obtain ⟨h1, h2⟩ := wipeS_some h
    obtain ⟨v, a, b⟩ := r.at_ i x h1
    exact ⟨v, (wipe_keep (v := v) h2).symm.trans a, b⟩⟩
theorem Re.dropS (r : Re K G H la σ ρ) (vs : List Nat) : Re K G H la σ ⟨ρ.T, wipeS ρ.s vs⟩ :=
  ⟨r.tb, (wipeS_len _ _).trans r.sl, fun i x h => r.at_ i x (wipeS_some h).1⟩
theorem wipe_idem (σ : L2.St) (vs : List Nat) : L2.wipe (L2.wipe σ vs) vs = L2.wipe σ vs := by
  apply List.ext_getElem?
  intro j
  rw [wipe_get, wipe_get, wipe_length]
  by_cases hm : j ∈ vs ∧ j < σ.length
  · rw [if_pos hm, if_pos hm]
  · rw [if_neg hm, if_neg hm]
theorem Rl.take (r : Rl K G H la T) (n : Nat) : Rl K G H (la.take n) (T.take n) :=
  ⟨r.ext, r.nd.sublist (List.take_sublist _ _), by simp [r.len], (fun k a o h1 h2 => by
    rw [List.getElem?_take] at h1 h2
    split at h1
    · rename_i hk
      rw [if_pos hk] at h2
      exact r.tab k a o h1 h2
    · cases h1), (fun k a h => by
      rw [List.getElem?_take] at h
      split at h
      · exact r.there k a h
      · cases h), r.nt, r.tbl⟩
theorem pre_take (p : la <+: la') : la'.take la.length = la := by
  obtain ⟨t, rfl⟩ := p
  exact List.take_left
def lowSl (n : Nat) : Sl → Bool
  | .dat _ => true
  | .ob k => decide (k < n)
  | .clo _ _ la0 => la0.isEmpty
theorem SlR.take {v : V} {n : Nat} : ∀ {x : Sl}, SlR K G la v x → lowSl n x = true → SlR K G (la.take n) v x
  | .dat d, h, _ => h
  | .ob k, ⟨a, h, e⟩, hk => ⟨a, by
    have hk' : k < n := by simpa [lowSl] using hk
    rw [List.getElem?_take, if_pos hk']
    exact h, e⟩
  | .clo _ _ la0, ⟨e, sm, _⟩, hk => ⟨e, sm, by
    have : la0 = [] := by simpa [lowSl] using hk
    rw [this]
    exact List.nil_prefix⟩
/-- the list made so far is done: it is data, the table is what it was -/
theorem comp_done {acc : List D} {n : Nat} {a : Addr} (r : Re K G H la σ ρ) (hn : n < la.length) (ha : la[n]? = some a) (hk : ρ.T[n]? = some (.lst acc)) (hs : ∀ (i : Nat) (x : Sl), ρ.s[i]? = some (some x) → lowSl n x = true) :
    ∃ G', Same G G' ∧ Dp K G' (.ref a) (.lst acc) ∧ Re K G' H (la.take n) σ ⟨ρ.T.take n, ρ.s⟩ := by
  obtain ⟨vs, hH, gn, s1, dp, rl⟩ := r.tb.freeze ha hk
  refine ⟨_, s1, dp, ?_, r.sl, fun i x h => ?_⟩
  · have q := rl.take n
    have e : (ρ.T.set n .dead).take n = ρ.T.take n := by
      rw [List.take_set]
      exact List.set_eq_of_length_le (by rw [List.length_take]; omega)
    rw [e] at q
    exact q
  · obtain ⟨v, b, c⟩ := r.at_ i x h
    exact ⟨v, b, (c.grow s1 List.prefix_rfl).take (hs i x h)⟩
end

/-- own objects that stand in no slot from n on -/
def lowS (n : Nat) (s : List (Option Sl)) : Bool := s.all fun x => match x with
  | some (.ob k) => decide (k < n)
  | some (.clo _ _ la0) => la0.isEmpty
  | _ => true
def dComp (fi : DI) (g : DG) (t : DT) (e : DE) (own : List Nat) : DE := fun X ρ Q => fi X ρ fun ds ρ1 => compD g t e own ρ1.T.length ds ⟨ρ1.T ++ [.lst []], wipeS ρ1.s own⟩ fun ρ2 => match ρ2.T[ρ1.T.length]? with
  | some (.lst acc) => lowS ρ1.T.length (wipeS ρ2.s own) = true ∧ Q (.lst acc) ⟨ρ2.T.take ρ1.T.length, wipeS ρ2.s own⟩
  | _ => False
theorem lowS_at {n : Nat} {s : List (Option Sl)} (h : lowS n s = true) : ∀ (i : Nat) (x : Sl), s[i]? = some (some x) → lowSl n x = true := fun i x e => by
  have q := List.all_eq_true.mp h _ (List.mem_of_getElem? e)
  cases x <;> simpa [lowSl] using q
section
variable {X : Cx} {W : WX}
theorem comp_core {K : PySem.W.Frag} {fi : DI} {g : DG} {t : DT} {e : DE} {own is_ : List Nat} (hio : ∀ i ∈ is_, i ∈ own) : ∀ (σ : L2.St) (H : Hp) (Q : VK), lE K W (dComp fi g t e own) σ H Q → tLc (lI K W fi) (lG K is_ g) (lT K W0 t) (lE K W0 e) own σ H Q := fun σ H Q ⟨ρ, G, la, P, XX, re, h, q, xo⟩ =>
  ⟨ρ, G, la, _, XX, re, h, fun ds ρ1 G1 la1 H1 J p1 a1 wk lz Dn hD => by
    have l1 : la1.length = ρ1.T.length := a1.r.tb.len
    have fr := a1.r.tb.fresh (xs := []) (vs := []) hD (Nat.zero_le _) .nil
    let fin : Env → Prop := fun ρ2 => match ρ2.T[ρ1.T.length]? with
      | some (.lst acc) => lowS ρ1.T.length (wipeS ρ2.s own) = true ∧ P (.lst acc) ⟨ρ2.T.take ρ1.T.length, wipeS ρ2.s own⟩
      | _ => False
    have p1' : compD g t e own ρ1.T.length ds ⟨ρ1.T ++ [.lst []], wipeS ρ1.s own⟩ fin := p1
    -- the invariant
    let Wt : Nat → Nat → Hp → Prop := fun i m H2 => m + i = ds.length ∧ ∃ ρ2 G2 la2, Aft K G1 (la1 ++ [Dn]) (L2.wipe σ own) ρ2 G2 la2 H2 ∧ compD g t e own ρ1.T.length (ds.drop i) ρ2 fin
    have r0 : Re K G1 (upd H1 Dn (.lst [])) (la1 ++ [Dn]) (L2.wipe σ own) ⟨ρ1.T ++ [.lst []], wipeS ρ1.s own⟩ := by
      have rr : Re K G1 (upd H1 Dn (.lst [])) (la1 ++ [Dn]) σ ⟨ρ1.T ++ [.lst []], ρ1.s⟩ := ⟨fr, a1.r.sl, fun i x hx => by
        obtain ⟨v, b, c⟩ := a1.r.at_ i x hx
        exact ⟨v, b, c.grow (Same.refl _) (List.prefix_append _ _)⟩⟩
      exact rr.wipe own
    refine ⟨Wt, ⟨ds.length, by simp, ⟨ρ1.T ++ [.lst []], wipeS ρ1.s own⟩, G1, la1 ++ [Dn], Aft.refl r0, by simpa using p1'⟩, ?_⟩
    rintro i m H2 ⟨hm, ρ2, G2, la2, a2, c2⟩
    by_cases hi : i < ds.length
    · right
      have ed : ds.drop i = ds[i] :: ds.drop (i + 1) := List.drop_eq_getElem_cons hi
      rw [ed] at c2
      refine ⟨wk.goes i H2 hi (a2.g.trans a2.r.ext), fun H3 => ∃ ρ3 G3 la3, Aft K G1 (la1 ++ [Dn]) (L2.wipe σ own) ρ3 G3 la3 H3 ∧ compD g t e own ρ1.T.length (ds.drop (i + 1)) ρ3 fin, fun H3 ⟨ρ3, G3, la3, a3, c3⟩ => ⟨m - 1, by omega, by omega, ρ3, G3, la3, a3, c3⟩, fun x H3 y => ?_⟩
      obtain ⟨G3, gr, dx⟩ := wk.yields i G2 H2 x H3 a2.g a2.r.ext y ds[i] (List.getElem?_eq_getElem hi)
      have a3 := a2.grow gr
      refine ⟨_, G3, la2, ds[i], _, (a3.r.dropS own), dx, c2, fun ρ4 σ4 p4 r4 w4 => ⟨?_, ρ4, G3, la2, _, X0, r4, p4, fun b ρ5 G5 la5 H5 p5 a5 => ?_, fun _ _ _ _ _ _ _ _ z => z.elim⟩⟩
      · exact (w4.wipe hio).trans (wipe_idem _ _)
      · have wso : L2.wipe σ4 own = L2.wipe σ own := by
          exact (w4.wipe hio).trans (wipe_idem _ _)
        -- behind a turn: the own slots forgotten
        have back : ∀ {ρx : Env} {Gx : Hp} {lx : List Addr} {Hx : Hp}, Same G1 Gx → la1 ++ [Dn] <+: lx → Re K Gx Hx lx σ4 ρx → Aft K G1 (la1 ++ [Dn]) (L2.wipe σ own) ⟨ρx.T, wipeS ρx.s own⟩ Gx lx Hx := fun g1 g2 g3 => ⟨g1, g2, by
          have q := g3.wipe own
          rw [wso] at q
          exact q⟩
        have p5' : if b = true then e X0 ρ5 fun y ρ3 => match ρ3.T[ρ1.T.length]? with
            | some (.lst acc) => acc.length < sizeLine ∧ compD g t e own ρ1.T.length (ds.drop (i + 1)) ⟨ρ3.T.set ρ1.T.length (.lst (acc ++ [y])), ρ3.s⟩ fin
            | _ => False
          else compD g t e own ρ1.T.length (ds.drop (i + 1)) ρ5 fin := p5
        have cw : ∀ {ρx : Env}, compD g t e own ρ1.T.length (ds.drop (i + 1)) ρx fin → compD g t e own ρ1.T.length (ds.drop (i + 1)) ⟨ρx.T, wipeS ρx.s own⟩ fin := by
          intro ρx hx
          have ww : wipeS (wipeS ρx.s own) own = wipeS ρx.s own := by
            have idem : ∀ (s : List (Option Sl)) (vs : List Nat), (∀ v ∈ vs, v < s.length → s[v]? = some none) → wipeS s vs = s := by
              intro s vs
              induction vs with
              | nil => intro _; rfl
              | cons v vs ih =>
                intro hv
                unfold wipeS
                rw [ih fun u hu => hv u (List.mem_cons_of_mem _ hu)]
                apply List.ext_getElem?
                intro j
                rw [List.getElem?_set]
                split
                · rename_i hj
                  split
                  · rename_i hl
                    rw [← hj, hv v List.mem_cons_self hl]
                  · rename_i hl
                    rw [← hj, List.getElem?_eq_none (by omega)]
                · rfl
            have at_ : ∀ (s : List (Option Sl)) (vs : List Nat), ∀ v ∈ vs, v < s.length → (wipeS s vs)[v]? = some none := by
              intro s vs
              induction vs with
              | nil => intro v hv; simp at hv
              | cons u vs ih =>
                intro v hv hl
                unfold wipeS
                rw [List.getElem?_set]
                split
                · rw [if_pos (by rw [wipeS_len]; omega)]
                · rename_i hne
                  rcases List.mem_cons.mp hv with e | hv
                  · exact absurd e.symm hne
                  · exact ih v hv hl
            exact idem _ _ fun v hv hl => at_ _ _ v hv (by rwa [wipeS_len] at hl)
          cases hd : ds.drop (i + 1) with
          | nil =>
            rw [hd] at hx
            have hx' : fin ρx := hx
            show fin ⟨ρx.T, wipeS ρx.s own⟩
            show (match ρx.T[ρ1.T.length]? with
              | some (.lst acc) => lowS ρ1.T.length (wipeS (wipeS ρx.s own) own) = true ∧ P (.lst acc) ⟨ρx.T.take ρ1.T.length, wipeS (wipeS ρx.s own) own⟩
              | _ => False)
            rw [ww]
            exact hx'
          | cons d2 ds2 =>
            rw [hd] at hx
            show g d2 ⟨ρx.T, wipeS (wipeS ρx.s own) own⟩ _
            rw [ww]
            exact hx
        cases b with
        | false =>
          refine iteF ?_
          have p6 : compD g t e own ρ1.T.length (ds.drop (i + 1)) ρ5 fin := p5'
          exact ⟨⟨ρ5.T, wipeS ρ5.s own⟩, G5, la5, back ((a2.g.trans gr.g).trans a5.g) (a2.p.trans a5.p) a5.r, cw p6⟩
        | true =>
          refine iteT ?_
          have p6 : e X0 ρ5 fun y ρ3 => match ρ3.T[ρ1.T.length]? with
            | some (.lst acc) => acc.length < sizeLine ∧ compD g t e own ρ1.T.length (ds.drop (i + 1)) ⟨ρ3.T.set ρ1.T.length (.lst (acc ++ [y])), ρ3.s⟩ fin
            | _ => False := p5'
          refine ⟨ρ5, G5, la5, _, X0, a5.r, p6, fun y ρ7 v7 G7 la7 H7 p7 a7 z7 => ?_, fun _ _ _ _ _ _ _ _ z => z.elim⟩
          have p7' : (match (generalizing := false) ρ7.T[ρ1.T.length]? with
            | some (.lst acc) => acc.length < sizeLine ∧ compD g t e own ρ1.T.length (ds.drop (i + 1)) ⟨ρ7.T.set ρ1.T.length (.lst (acc ++ [y])), ρ7.s⟩ fin
            | _ => False) := p7
          split at p7'
          · rename_i acc hk
            have pp : la1 ++ [Dn] <+: la7 := (a2.p.trans a5.p).trans a7.p
            have hla : la7[ρ1.T.length]? = some Dn := by
              obtain ⟨tl, rfl⟩ := pp
              rw [List.append_assoc, List.getElem?_append_right (by omega), ← l1, Nat.sub_self]
              rfl
            obtain ⟨gn, vs, hH, lv, dv⟩ := a7.r.tb.tab _ _ _ hla hk
            refine ⟨vs, hH, by rw [dv.len]; exact p7'.1, ?_⟩
            have wr := a7.r.tb.write (ws := vs ++ [v7]) (ys := acc ++ [y]) hla hk (by rw [List.length_append, List.length_singleton, dv.len]; exact p7'.1) (dv.app (.cons z7 .nil))
            have r8 : Re K G7 (upd H7 Dn (.lst (vs ++ [v7]))) la7 σ4 ⟨ρ7.T.set ρ1.T.length (.lst (acc ++ [y])), ρ7.s⟩ := ⟨wr, a7.r.sl, a7.r.at_⟩
            exact ⟨⟨ρ7.T.set ρ1.T.length (.lst (acc ++ [y])), wipeS ρ7.s own⟩, G7, la7, back (ρx := ⟨ρ7.T.set ρ1.T.length (.lst (acc ++ [y])), ρ7.s⟩) (((a2.g.trans gr.g).trans a5.g).trans a7.g) pp r8, cw (ρx := ⟨ρ7.T.set ρ1.T.length (.lst (acc ++ [y])), ρ7.s⟩) p7'.2⟩
          · exact p7'.elim
    · left
      have ei : i = ds.length := by omega
      subst ei
      rw [List.drop_length] at c2
      have c3 : fin ρ2 := c2
      refine ⟨wk.stops H2 (a2.g.trans a2.r.ext), ?_⟩
      have c3' : (match (generalizing := false) ρ2.T[ρ1.T.length]? with
        | some (.lst acc) => lowS ρ1.T.length (wipeS ρ2.s own) = true ∧ P (.lst acc) ⟨ρ2.T.take ρ1.T.length, wipeS ρ2.s own⟩
        | _ => False) := c3
      split at c3'
      · rename_i acc hk
        have hla : la2[ρ1.T.length]? = some Dn := by
          obtain ⟨tl, e2⟩ := a2.p
          rw [← e2, List.append_assoc, List.getElem?_append_right (by omega), ← l1, Nat.sub_self]
          rfl
        have hlt : ρ1.T.length < la2.length := (List.getElem?_eq_some_iff.mp hla).1
        obtain ⟨G3, s3, d3, r3⟩ := comp_done (ρ := ⟨ρ2.T, wipeS ρ2.s own⟩) a2.r.unwipe hlt hla hk (lowS_at c3'.1)
        have et : la2.take ρ1.T.length = la1 := by
          rw [← l1]
          exact pre_take ((List.prefix_append _ _).trans a2.p)
        rw [et] at r3
        exact q _ _ _ _ _ _ c3'.2 ⟨(a1.g.trans a2.g).trans s3, a1.p, r3⟩ d3
      · exact c3'.elim, xo⟩
end
end DL
set_option Elab.async false
set_option linter.all false
set_option maxRecDepth 100000
set_option maxHeartbeats 4000000
set_option autoImplicit false
/-! The data level: statements, calls of defs, defs. -/
namespace DL
open PySem PySem.Spec PyProof.Rows L2

/-! ### comprehensions as expressions -/
section
variable {X : Cx} {W : WX}
theorem dts_nil : PTs X [] (lT X.K W dYes) := ⟨fun pins s σ H Q I h => (pts_nil (X := X)).run pins s σ H Q I (by
  obtain ⟨ρ, G, la, P, XX, r, f, q, _⟩ := h
  exact q _ _ _ _ _ f (Aft.refl r))⟩
theorem dts_one {c : Expr} {t : DT} (h : PT X c (lT X.K W t)) : PTs X [c] (lT X.K W t) := pts_one h
theorem takes0' {X : Cx} : Takes X W0 := takes0
theorem de_comp {elt tg iter : Expr} {ifs : List Expr} {scope : Scope} {own : List (Str × Nat)} {pos : Pos} {fi : DI} {g : DG} {t : DT} {e : DE} {is_ : List Nat} (hc : X.calm = true) (hN : X.N.Nodup) (hi : PI X tg iter (lI X.K W fi)) (ok : blkC X.N X.env.scope scope own = true)
    (hg : ∀ (s : Shared) (H : Hp) (C : Addr) (cl : List (Str × Addr)) (fp : List Addr), PG (X.blk s H scope (compEnvC scope cl C X.env) fp) tg (lG X.K is_ g)) (ht : ∀ (s : Shared) (H : Hp) (C : Addr) (cl : List (Str × Addr)) (fp : List Addr), PTs (X.blk s H scope (compEnvC scope cl C X.env) fp) ifs (lT X.K W0 t))
    (he : ∀ (s : Shared) (H : Hp) (C : Addr) (cl : List (Str × Addr)) (fp : List Addr), PE (X.blk s H scope (compEnvC scope cl C X.env) fp) elt (lE X.K W0 e)) (hio : ∀ i ∈ is_, i ∈ own.map (·.2) := by decide) (hs : ∀ x, foldedSetIterable iter X.env x = pure x := by intro _; rfl) :
    PE X (.ListComp elt [⟨tg, iter, ifs, 0⟩] scope pos) (lE X.K W (dComp fi g t e (own.map (·.2)))) :=
  pe_imp (pe_lc hc hN hi (blkOk_by ok) hg ht he hs) (comp_core hio)
end

theorem pre_at {α : Type} {l l' : List α} {i : Nat} {a : α} (p : l <+: l') (h : l[i]? = some a) : l'[i]? = some a := by
  obtain ⟨t, rfl⟩ := p
  rw [List.getElem?_append_left (List.getElem?_eq_some_iff.mp h).1]
  exact h
/-! ### statements -/
def sNil : DS := fun E ρ => E.nx ρ
def sSeq (a b : DS) : DS := fun E ρ => a { E with nx := b E } ρ
def sSet (i : Nat) (f : DL') : DS := fun E ρ => f E.xn ρ fun x ρ' => E.nx ⟨ρ'.T, ρ'.s.set i (some x)⟩
def sRet (f : DL') : DS := fun E ρ => f E.xn ρ E.rt
def sRetN : DS := fun E ρ => E.rt (.dat .non) ρ
def sDrop (f : DL') : DS := fun E ρ => f E.xn ρ fun _ ρ' => E.nx ρ'
def sIf (t : DT) (a b : DS) : DS := fun E ρ => t E.xn ρ fun c ρ' => if c = true then a E ρ' else b E ρ'
def loopD (g : DG) (B : DS) (E : DN) : List D → Env → Prop
  | [], ρ => E.nx ρ
  | d :: ds, ρ => g d ρ fun ρ' => B { E with nx := loopD g B E ds, ct := loopD g B E ds, bk := E.nx } ρ'
def sFor (fi : DI) (g : DG) (B : DS) : DS := fun E ρ => fi E.xn ρ fun ds ρ' => loopD g B E ds ρ'
def sWhile (t : DT) (B : DS) : DS := fun E ρ => ∃ V : Nat → Env → Prop, (∃ m, V m ρ) ∧ ∀ m ρ, V m ρ → t E.xn ρ fun b ρ' => if b = true then B { E with nx := fun ρ2 => ∃ m', m' < m ∧ V m' ρ2, ct := fun ρ2 => ∃ m', m' < m ∧ V m' ρ2, bk := E.nx } ρ' else E.nx ρ'
def sPar2 (i j : Nat) (f g : DL') : DS := fun E ρ => f E.xn ρ fun x ρ1 => g E.xn ρ1 fun y ρ2 => E.nx ⟨ρ2.T, (ρ2.s.set i (some x)).set j (some y)⟩
def sPar3 (i j l : Nat) (f g h : DL') : DS := fun E ρ => f E.xn ρ fun x ρ1 => g E.xn ρ1 fun y ρ2 => h E.xn ρ2 fun z ρ3 => E.nx ⟨ρ3.T, ((ρ3.s.set i (some x)).set j (some y)).set l (some z)⟩
def sTo (f : DE) (g : DG) : DS := fun E ρ => f E.xn ρ fun d ρ' => g d ρ' E.nx
/-- x.append(e), x a name -/
def sApp (i : Nat) (f : DE) : DS := fun E ρ => match ρ.s[i]? with
  | some (some (.ob k)) => match ρ.T[k]? with
    | some (.lst _) => f E.xn ρ fun d ρ' => match ρ'.T[k]? with
      | some (.lst xs) => xs.length < sizeLine ∧ E.nx ⟨ρ'.T.set k (.lst (xs ++ [d])), ρ'.s⟩
      | _ => False
    | _ => False
  | _ => False
/-- x[j] = e, x a name -/
def sSetIx (i : Nat) (fj fv : DE) : DS := fun E ρ => fv E.xn ρ fun d ρ1 => match ρ1.s[i]? with
  | some (some (.ob k)) => fj E.xn ρ1 fun z ρ2 => match z, ρ2.T[k]? with
    | .int j, some (.lst xs) => match ixN xs.length j with
      | some m => E.nx ⟨ρ2.T.set k (.lst (xs.set m d)), ρ2.s⟩
      | none => False
    | _, _ => False
  | _ => False
/-- x[j] of a list that may change, x a name -/
def dIxO (i : Nat) (fj : DE) : DE := fun X ρ Q => match ρ.s[i]? with
  | some (some (.ob k)) => fj X ρ fun z ρ' => match z, ρ'.T[k]? with
    | .int j, some (.lst xs) => match atI xs j with
      | some d => Q d ρ'
      | none => False
    | _, _ => False
  | _ => False
def dLenO (i : Nat) : DE := fun X ρ Q => match ρ.s[i]? with
  | some (some (.ob k)) => match ρ.T[k]? with
    | some (.lst xs) => Q (.int xs.length) ρ
    | _ => False
  | _ => False
def sNever : DS := fun _ _ => False

section
variable {X : Cx} {W : WX} {st : Stmt} {rest : List Stmt} {pos : Pos}
theorem dss_nil : PSs X [] (lS X.K W sNil) := pss_imp pss_nil fun D σ H ⟨ρ, G, la, E, r, f, b⟩ => b.nx _ _ _ _ _ f (Aft.refl r)
theorem dss_cons {f g : DS} (h1 : PS X st (lS X.K W f)) (h2 : PSs X rest (lS X.K W g)) : PSs X (st :: rest) (lS X.K W (sSeq f g)) := pss_imp (pss_cons h1 h2) fun D σ H ⟨ρ, G, la, E, r, f, b⟩ =>
  ⟨ρ, G, la, _, r, f, ⟨fun ρ' σ' G' la' H' p a => ⟨ρ', G', la', E, a.r, p, b.up a.g a.p⟩, b.bk, b.ct, b.rt, b.xn⟩⟩
theorem dss_one {f : DS} (h : PS X st (lS X.K W f)) : PSs X [st] (lS X.K W f) := pss_one h
theorem ds_pass : PS X (.Pass pos) (lS X.K W sNil) := ps_imp ps_pass fun D σ H ⟨ρ, G, la, E, r, f, b⟩ => b.nx _ _ _ _ _ f (Aft.refl r)
theorem set_core {i : Nat} {f : DL'} : ∀ (D : Ends) (σ : L2.St) (H : Hp), lS X.K W (sSet i f) D σ H → tAsg (lL X.K W f) (gName i) D σ H := fun D σ H ⟨ρ, G, la, E, r, f, b⟩ =>
  ⟨ρ, G, la, _, _, r, f, fun x ρ' v G' la' H' p a z => b.nx _ _ _ _ _ p ⟨a.g, a.p, a.r.set z⟩, b.xn⟩
theorem ds_set (i : Nat) {x : Str} {e : Expr} {f : DL'} {pos' : Pos} (hN : X.N.Nodup) (he : PE X e (lL X.K W f)) (hi : X.N[i]? = some x := by rfl) (hx : Loc X.env.scope x := by first | exact Or.inl rfl | exact Or.inr rfl) (hs : swapsWith e (some (.Name x pos')) pos.line X.env = pure false := by rfl)
    (hf : X.fn x = true ∨ X.env.scope.names.lookup x = some .local := by first | exact .inl rfl | exact .inr rfl | assumption) : PS X (.Assign [.Name x pos'] e pos) (lS X.K W (sSet i f)) := ps_imp (ps_set hN hi hx he hs hf) set_core
theorem ds_setC (i : Nat) {y : Str} {py : Pos} {elt tg iter : Expr} {ifs : List Expr} {scope : Scope} {own : List (Str × Nat)} {pos spos : Pos} {fi : DI} {g : DG} {t : DT} {e : DE} {is_ : List Nat} (hc : X.calm = true) (hN : X.N.Nodup) (hi : PI X tg iter (lI X.K W fi)) (ok : blkC X.N X.env.scope scope own = true)
    (hg : ∀ (s : Shared) (H : Hp) (C : Addr) (cl : List (Str × Addr)) (fp : List Addr), PG (X.blk s H scope (compEnvC scope cl C X.env) fp) tg (lG X.K is_ g)) (ht : ∀ (s : Shared) (H : Hp) (C : Addr) (cl : List (Str × Addr)) (fp : List Addr), PTs (X.blk s H scope (compEnvC scope cl C X.env) fp) ifs (lT X.K W0 t))
    (he : ∀ (s : Shared) (H : Hp) (C : Addr) (cl : List (Str × Addr)) (fp : List Addr), PE (X.blk s H scope (compEnvC scope cl C X.env) fp) elt (lE X.K W0 e)) (hy : X.N[i]? = some y := by rfl) (hyl : X.env.scope.names.lookup y = some .local := by rfl)
    (hsw : swapsWith (.ListComp elt [⟨tg, iter, ifs, 0⟩] scope pos) (some (.Name y py)) spos.line X.env = pure true := by exact sw_true rfl rfl rfl (by decide +kernel)) (hio : ∀ i ∈ is_, i ∈ own.map (·.2) := by decide) (hs : ∀ x, foldedSetIterable iter X.env x = pure x := by intro _; rfl) :
    PS X (.Assign [.Name y py] (.ListComp elt [⟨tg, iter, ifs, 0⟩] scope pos) spos) (lS X.K W (sSet i (dDat (dComp fi g t e (own.map (·.2)))))) :=
  ps_imp (ps_setLc hc hN hy hyl hsw hi (blkOk_by ok) hg ht he hs) fun D σ H ⟨ρ, G, la, E, r, f, b⟩ => comp_core hio σ H _ ⟨ρ, G, la, fun d ρ' => E.nx ⟨ρ'.T, ρ'.s.set i (some (.dat d))⟩, _, r, f, fun d ρ' v G' la' H' p a z => b.nx _ _ _ _ _ p ⟨a.g, a.p, a.r.set (x := .dat d) z⟩, b.xn⟩
theorem ds_ret {e : Expr} {f : DL'} (he : PE X e (lL X.K W f)) : PS X (.Return (some e) pos) (lS X.K W (sRet f)) := ps_imp (ps_ret he) fun D σ H ⟨ρ, G, la, E, r, f, b⟩ => ⟨ρ, G, la, _, _, r, f, fun x ρ' v G' la' H' p a z => b.rt _ _ _ _ _ _ _ p a z, b.xn⟩
theorem ds_retN : PS X (.Return none pos) (lS X.K W sRetN) := ps_imp ps_retN fun D σ H ⟨ρ, G, la, E, r, f, b⟩ => b.rt _ _ _ _ _ _ _ f (Aft.refl r) (show Dp _ _ _ .non from .non)
theorem ds_expr {e : Expr} {f : DL'} (he : PE X e (lL X.K W f)) (hs : swapsWith e none pos.line X.env = pure false := by rfl) : PS X (.Expr e pos) (lS X.K W (sDrop f)) := ps_imp (ps_expr he hs) fun D σ H ⟨ρ, G, la, E, r, f, b⟩ => ⟨ρ, G, la, _, _, r, f, fun x ρ' v G' la' H' p a z => b.nx _ _ _ _ _ p a, b.xn⟩
theorem ds_doc {x j pos pos'} : PS X (.Expr (.Constant (.str x) j pos) pos') (lS X.K W sNil) := ps_imp ps_doc fun D σ H ⟨ρ, G, la, E, r, f, b⟩ => b.nx _ _ _ _ _ f (Aft.refl r)
theorem ds_if {c : Expr} {a b : List Stmt} {t : DT} {f g : DS} (hc : PT X c (lT X.K W t)) (ha : PSs X a (lS X.K W f)) (hb : PSs X b (lS X.K W g)) : PS X (.If c a b pos) (lS X.K W (sIf t f g)) := ps_imp (ps_if hc ha hb) fun D σ H ⟨ρ, G, la, E, r, h, b⟩ =>
  ⟨ρ, G, la, _, _, r, h, fun c ρ' G' la' H' p a => by
    cases c with
    | true => exact iteT ⟨ρ', G', la', E, a.r, (show f E ρ' from p), b.up a.g a.p⟩
    | false => exact iteF ⟨ρ', G', la', E, a.r, (show g E ρ' from p), b.up a.g a.p⟩, b.xn⟩
theorem ds_never : PS X st (lS X.K W sNever) := ps_imp ps_never fun D σ H ⟨ρ, G, la, E, r, h, b⟩ => h
theorem dss_never : PSs X rest (lS X.K W sNever) := pss_imp pss_never fun D σ H ⟨ρ, G, la, E, r, h, b⟩ => h
theorem ds_for {tg iter : Expr} {body : List Stmt} {fi : DI} {g : DG} {B : DS} {is_ : List Nat} (po : PassesOwn (model X.prog X.w) X.A X.env X.xe) (hc : X.calm = true) (hi : PI X tg iter (lI X.K W fi)) (hg : PG X tg (lG X.K is_ g)) (hb : PSs X body (lS X.K W B))
    (hs : ∀ x, foldedSetIterable iter X.env x = pure x := by intro _; rfl) : PS X (.For tg iter body [] pos) (lS X.K W (sFor fi g B)) := ps_imp (ps_for po hc hi hg hb hs) fun D σ H ⟨ρ, G, la, E, r, h, b⟩ =>
  ⟨ρ, G, la, _, _, r, h, fun ds ρ1 G1 la1 H1 J p1 a1 wk lz => by
    refine ⟨fun i m σ2 H2 => m + i = ds.length ∧ ∃ ρ2 G2 la2, Aft X.K G1 la1 σ2 ρ2 G2 la2 H2 ∧ loopD g B E (ds.drop i) ρ2, ⟨ds.length, by simp, ρ1, G1, la1, Aft.refl a1.r, by simpa using p1⟩, ?_⟩
    rintro i m σ2 H2 ⟨hm, ρ2, G2, la2, a2, c2⟩
    by_cases hi : i < ds.length
    · right
      have ed : ds.drop i = ds[i] :: ds.drop (i + 1) := List.drop_eq_getElem_cons hi
      rw [ed] at c2
      refine ⟨wk.goes i H2 hi (a2.g.trans a2.r.ext), fun σ3 H3 => ∃ ρ3 G3 la3, Aft X.K G1 la1 σ3 ρ3 G3 la3 H3 ∧ loopD g B E (ds.drop (i + 1)) ρ3, fun σ3 H3 ⟨ρ3, G3, la3, a3, c3⟩ => ⟨m - 1, by omega, by omega, ρ3, G3, la3, a3, c3⟩, fun x H3 y => ?_⟩
      obtain ⟨G3, gr, dx⟩ := wk.yields i G2 H2 x H3 a2.g a2.r.ext y ds[i] (List.getElem?_eq_getElem hi)
      have a3 := a2.grow gr
      refine ⟨ρ2, G3, la2, ds[i], _, a3.r, dx, c2, fun ρ4 σ4 p4 r4 _ => ⟨ρ4, G3, la2, _, r4, p4, ?_⟩⟩
      have b2 : Bk X.K G3 la2 W E D := b.up (a1.g.trans a3.g) (a1.p.trans a3.p)
      exact ⟨fun ρ5 σ5 G5 la5 H5 p5 a5 => ⟨ρ5, G5, la5, ⟨a3.g.trans a5.g, a3.p.trans a5.p, a5.r⟩, p5⟩, b2.nx, fun ρ5 σ5 G5 la5 H5 p5 a5 => ⟨ρ5, G5, la5, ⟨a3.g.trans a5.g, a3.p.trans a5.p, a5.r⟩, p5⟩, b2.rt, b2.xn⟩
    · left
      have ei : i = ds.length := by omega
      subst ei
      rw [List.drop_length] at c2
      exact ⟨wk.stops H2 (a2.g.trans a2.r.ext), b.nx ρ2 σ2 G2 la2 H2 c2 ⟨a1.g.trans a2.g, a1.p.trans a2.p, a2.r⟩⟩, b.xn⟩
theorem ds_while {c : Expr} {body : List Stmt} {t : DT} {B : DS} (po : PassesOwn (model X.prog X.w) X.A X.env X.xe) (hc : PT X c (lT X.K W t)) (hb : PSs X body (lS X.K W B)) : PS X (.While c body [] pos) (lS X.K W (sWhile t B)) := ps_imp (ps_while po hc hb) fun D σ H ⟨ρ, G, la, E, r, h, b⟩ => by
  obtain ⟨V, ⟨m0, v0⟩, turn⟩ := h
  refine ⟨fun m σ2 H2 => ∃ ρ2 G2 la2, Aft X.K G la σ2 ρ2 G2 la2 H2 ∧ V m ρ2, ⟨m0, ρ, G, la, Aft.refl r, v0⟩, ?_⟩
  rintro m σ2 H2 ⟨ρ2, G2, la2, a2, v2⟩
  have b2 := b.up a2.g a2.p
  refine ⟨ρ2, G2, la2, _, _, a2.r, turn m ρ2 v2, fun cc ρ3 G3 la3 H3 p3 a3 => ?_, b2.xn⟩
  have b3 := b2.up a3.g a3.p
  cases cc with
  | true =>
    refine iteT ⟨fun σ4 H4 => ∃ m', m' < m ∧ ∃ ρ4 G4 la4, Aft X.K G la σ4 ρ4 G4 la4 H4 ∧ V m' ρ4, fun σ4 H4 ⟨m', hm, z⟩ => ⟨m', hm, z⟩, ρ3, G3, la3, _, a3.r, p3, ?_⟩
    have next : ∀ (ρ' : Env) (σ' : L2.St) (G' : Hp) (la' : List Addr) (H' : Hp), (∃ m', m' < m ∧ V m' ρ') → Aft X.K G3 la3 σ' ρ' G' la' H' → ∃ m', m' < m ∧ ∃ ρ4 G4 la4, Aft X.K G la σ' ρ4 G4 la4 H' ∧ V m' ρ4 := fun ρ' σ' G' la' H' ⟨m', hm, hv⟩ a => ⟨m', hm, ρ', G', la', ⟨(a2.g.trans a3.g).trans a.g, (a2.p.trans a3.p).trans a.p, a.r⟩, hv⟩
    exact ⟨next, b3.nx, next, b3.rt, b3.xn⟩
  | false => exact iteF (b3.nx _ _ _ _ _ p3 (Aft.refl a3.r))
theorem ds_par2 (i j : Nat) {x y : Str} {a b : Expr} {f g : DL'} {px py pt : Pos} {kt k2 pt2} (hc : X.calm = true) (hN : X.N.Nodup) (ha : PA X [a, b] (lA X.K W (dCons f (dCons g dNil)))) (hw : swappedStores [.Tuple [.Name x px, .Name y py] kt pt] (.Tuple [a, b] k2 pt2) X.env = pure (some [x, y]) := by rfl)
    (hi : X.N[i]? = some x := by rfl) (hj : X.N[j]? = some y := by rfl) (hij : i ≠ j := by decide) (hx : X.env.scope.names.lookup x = some .local := by rfl) (hy : X.env.scope.names.lookup y = some .local := by rfl)
    (hs : swapsWithSole [.Tuple [.Name x px, .Name y py] kt pt] (.Tuple [a, b] k2 pt2) pos.line X.env = pure false := by rfl) : PS X (.Assign [.Tuple [.Name x px, .Name y py] kt pt] (.Tuple [a, b] k2 pt2) pos) (lS X.K W (sPar2 i j f g)) :=
  ps_imp (ps_par hc hN hi hj hij hx hy ha hw hs) fun D σ H ⟨ρ, G, la, E, r, h, b⟩ => ⟨ρ, G, la, fun xs ρ2 => ∃ u v, xs = [u, v] ∧ E.nx ⟨ρ2.T, (ρ2.s.set i (some u)).set j (some v)⟩, _, r, by
    show f E.xn ρ fun x ρ1 => g E.xn ρ1 fun y ρ2 => ∃ u v, [x, y] = [u, v] ∧ E.nx ⟨ρ2.T, (ρ2.s.set i (some u)).set j (some v)⟩
    have e : (fun (x : Sl) (ρ1 : Env) => g E.xn ρ1 fun y ρ2 => ∃ u v, [x, y] = [u, v] ∧ E.nx ⟨ρ2.T, (ρ2.s.set i (some u)).set j (some v)⟩) = fun x ρ1 => g E.xn ρ1 fun y ρ2 => E.nx ⟨ρ2.T, (ρ2.s.set i (some x)).set j (some y)⟩ := by
      funext x ρ1
      congr 1
      funext y ρ2
      apply propext
      constructor
      · rintro ⟨u, v, h1, h2⟩
        cases h1
        exact h2
      · intro h2
        exact ⟨x, y, rfl, h2⟩
    rw [e]
    exact h, fun xs ρ2 vs G2 la2 H2 p a z => by
    obtain ⟨u, v, rfl, p⟩ := p
    cases z with
    | cons z1 z =>
      cases z with
      | cons z2 z =>
        cases z
        exact ⟨_, _, rfl, b.nx _ _ _ _ _ p ⟨a.g, a.p, (a.r.set z1).set (ρ := ⟨ρ2.T, ρ2.s.set i (some u)⟩) z2⟩⟩, b.xn⟩
theorem ds_to {tg e : Expr} {f : DE} {g : DG} {is_ : List Nat} (he : PE X e (lE X.K W f)) (hg : PG X tg (lG X.K is_ g)) (hs : swapsWithSole [tg] e pos.line X.env = pure false := by rfl) (hw : swappedStores [tg] e X.env = pure none := by rfl)
    (h1 : (assignEach [tg] X.env).map (·.2) = [assign tg X.env] := by rfl) : PS X (.Assign [tg] e pos) (lS X.K W (sTo f g)) := ps_imp (ps_asg he hg hs hw h1) fun D σ H ⟨ρ, G, la, E, r, h, b⟩ =>
  ⟨ρ, G, la, _, _, r, h, fun d ρ' v G' la' H' p a z => ⟨ρ', G', la', d, _, a.r, z, p, fun ρ2 σ2 p2 r2 _ => b.nx _ _ _ _ _ p2 ⟨a.g, a.p, r2⟩⟩, b.xn⟩
theorem ds_app (i : Nat) {x : Str} {e : Expr} {f : DE} {p apos cpos : Pos} (he : PE X e (lE X.K W f)) (hN : X.N[i]? = some x := by rfl) (hv : Vis X.env.scope x := by first | exact Or.inl rfl | exact Or.inr (Or.inl rfl) | exact Or.inr (Or.inr rfl)) (hd : (x == ("__debug__" : Str)) = false := by decide)
    (hcd : (x == ("__classdict__" : Str)) = false := by decide) (hbase : attributeBase (.Name x p) "append" X.env (eval (.Name x p) X.env) = eval (.Name x p) X.env := by rfl)
    (hfew : ((backTo cpos (starEach [e] X.env)).all (fun x => !x.1) && (backToKw cpos (keywordEach [] X.env)).all (fun x => x.1.isSome) && decide ([e].length + ([] : List Keyword).length + (if ([] : List Keyword).isEmpty then 0 else 1) < 30)) = true := by rfl)
    (hline : (apos.endLine == cpos.line) = true := by rfl) (hs : starEach [e] X.env = (false, eval e X.env) :: starEach [] X.env := by rfl) (hsw : swapsWith (.Call (.Attribute (.Name x p) "append" apos) [e] [] cpos) none pos.line X.env = pure false := by rfl) :
    PS X (.Expr (.Call (.Attribute (.Name x p) "append" apos) [e] [] cpos) pos) (lS X.K W (sApp i f)) :=
  ps_imp (ps_expr (pe_bm (r := rAppend) PySem.F.plainAttrs_list PySem.F.slot_list_append PySem.F.type_list_append mt_append (pe_var (i := i) hN hv hd hcd) (pa_cons he pa_nil hs) hbase hfew hline hs rfl) hsw) fun D σ H ⟨ρ, G, la, E, r, h, b⟩ => by
    unfold sApp at h
    split at h
    · rename_i k hk
      obtain ⟨v, hv, a, ha, ev⟩ := r.at_ _ _ hk
      subst ev
      refine ⟨_, hv, ?_⟩
      split at h
      · rename_i xs hxs
        obtain ⟨gn, vs, hH, lv, dv⟩ := r.tb.tab k a _ ha hxs
        refine ⟨.inl ⟨rfl, _, SqL.of hH⟩, ρ, G, la, _, _, r, h, fun d ρ1 v1 G1 la1 H1 p1 a1 z1 => ?_, b.xn⟩
        have p1' : (match (generalizing := false) ρ1.T[k]? with
          | some (.lst xs) => xs.length < sizeLine ∧ E.nx ⟨ρ1.T.set k (.lst (xs ++ [d])), ρ1.s⟩
          | _ => False) := p1
        split at p1'
        · rename_i ys hys
          have ha1 := pre_at a1.p ha
          obtain ⟨gn1, ws, hH1, lw, dw⟩ := a1.r.tb.tab k a _ ha1 hys
          refine ⟨a, ws, v1, rfl, rfl, hH1, by rw [dw.len]; exact p1'.1, b.nx _ _ _ _ _ p1'.2 ⟨a1.g, a1.p, ⟨a1.r.tb.write ha1 hys (by rw [List.length_append, List.length_singleton, dw.len]; exact p1'.1) (dw.app (.cons z1 .nil)), a1.r.sl, a1.r.at_⟩⟩⟩
        · exact p1'.elim
      · exact h.elim
    · exact h.elim
theorem ixN_set {n : Nat} {j : Int} {m : Nat} (h : ixN n j = some m) : m < n := (ixN_seq h).2.1
theorem ds_setix (i : Nat) {x : Str} {e ej : Expr} {fj fv : DE} {p spos : Pos} (hv : PE X e (lE X.K W fv)) (hj : PE X ej (lE X.K W fj)) (hN : X.N[i]? = some x := by rfl) (hvis : Vis X.env.scope x := by first | exact Or.inl rfl | exact Or.inr (Or.inl rfl) | exact Or.inr (Or.inr rfl)) (hd : (x == ("__debug__" : Str)) = false := by decide)
    (hcd : (x == ("__classdict__" : Str)) = false := by decide) (ha : ∀ v, assign (.Subscript (.Name x p) ej spos) X.env v = (do
      let ov ← holding [v] (eval (.Name x p) X.env)
      let iv ← holding [v, ov] (eval ej X.env)
      standAt spos
      holding [v, ov, iv] (setItem ov iv v)
      release [v, ov, iv] []) := by intro _; rfl) (hs : swapsWithSole [.Subscript (.Name x p) ej spos] e pos.line X.env = pure false := by rfl) (hw : swappedStores [.Subscript (.Name x p) ej spos] e X.env = pure none := by rfl)
    (h1 : (assignEach [.Subscript (.Name x p) ej spos] X.env).map (·.2) = [assign (.Subscript (.Name x p) ej spos) X.env] := by rfl) : PS X (.Assign [.Subscript (.Name x p) ej spos] e pos) (lS X.K W (sSetIx i fj fv)) :=
  ps_imp (ps_asg hv (pg_sub (pe_var (i := i) hN hvis hd hcd) hj set_list ha) hs hw h1) fun D σ H ⟨ρ, G, la, E, r, h, b⟩ =>
  ⟨ρ, G, la, _, _, r, h, fun d ρ1 v G1 la1 H1 p1 a1 z1 => by
    have p1' : (match (generalizing := false) ρ1.s[i]? with
      | some (some (.ob k)) => fj E.xn ρ1 fun z ρ2 => match z, ρ2.T[k]? with
        | .int j, some (.lst xs) => match ixN xs.length j with
          | some m => E.nx ⟨ρ2.T.set k (.lst (xs.set m d)), ρ2.s⟩
          | none => False
        | _, _ => False
      | _ => False) := p1
    split at p1'
    · rename_i k hk
      obtain ⟨u, hu, a, hla, ev⟩ := a1.r.at_ _ _ hk
      subst ev
      refine ⟨_, hu, ρ1, G1, la1, _, _, a1.r, p1', fun z ρ2 w G2 la2 H2 p2 a2 z2 => ?_, b.xn.up a1.g a1.p⟩
      have p2' : (match (generalizing := false) z, ρ2.T[k]? with
        | .int j, some (.lst xs) => match ixN xs.length j with
          | some m => E.nx ⟨ρ2.T.set k (.lst (xs.set m d)), ρ2.s⟩
          | none => False
        | _, _ => False) := p2
      split at p2'
      · rename_i j xs hz
        cases z2
        split at p2'
        · rename_i m hm
          have ha2 := pre_at a2.p hla
          obtain ⟨gn1, ws, hH1, lw, dw⟩ := a2.r.tb.tab k a _ ha2 hz
          refine ⟨a, ws, j, m, rfl, rfl, hH1, by rw [dw.len]; exact hm, b.nx _ _ _ _ _ p2' ⟨a1.g.trans a2.g, a1.p.trans a2.p, ⟨a2.r.tb.write ha2 hz (by rw [List.length_set]; exact lw) (Dps.set (z1.up a2.g) m dw), a2.r.sl, a2.r.at_⟩⟩⟩
        · exact p2'.elim
      · exact p2'.elim
    · exact p1'.elim, b.xn⟩
theorem de_ixO (i : Nat) {x : Str} {ej : Expr} {fj : DE} {p : Pos} (hj : PE X ej (lE X.K W fj)) (hN : X.N[i]? = some x := by rfl) (hvis : Vis X.env.scope x := by first | exact Or.inl rfl | exact Or.inr (Or.inl rfl) | exact Or.inr (Or.inr rfl)) (hd : (x == ("__debug__" : Str)) = false := by decide)
    (hcd : (x == ("__classdict__" : Str)) = false := by decide) (hs : PlainIx ej := by exact fun _ _ => rfl) : PE X (.Subscript (.Name x p) ej pos) (lE X.K W (dIxO i fj)) :=
  pe_imp (pe_ix ix_list (pe_var (i := i) hN hvis hd hcd) hj hs) fun σ H Q ⟨ρ, G, la, P, XX, r, h, q, xo⟩ => by
    unfold dIxO at h
    split at h
    · rename_i k hk
      obtain ⟨v, hv, a, ha, ev⟩ := r.at_ _ _ hk
      subst ev
      refine ⟨_, hv, ρ, G, la, _, XX, r, h, fun z ρ2 w G2 la2 H2 p2 a2 z2 => ?_, xo⟩
      have p2' : (match (generalizing := false) z, ρ2.T[k]? with
        | .int j, some (.lst xs) => match atI xs j with
          | some d => P d ρ2
          | none => False
        | _, _ => False) := p2
      split at p2'
      · rename_i j xs hz
        cases z2
        split at p2'
        · rename_i d hd
          have ha2 := pre_at a2.p ha
          obtain ⟨gn1, ws, hH1, lw, dw⟩ := a2.r.tb.tab k a _ ha2 hz
          obtain ⟨v', hv', dv⟩ := dw.atI hd
          exact ⟨a, ws, j, v', rfl, rfl, SqL.of hH1, hv', q _ _ _ _ _ _ p2' a2 dv⟩
        · exact p2'.elim
      · exact p2'.elim
    · exact h.elim
theorem de_lenO (i : Nat) {x : Str} {p p2 : Pos} (hm : X.mg "len" = none) (hN : X.N[i]? = some x := by rfl) (hvis : Vis X.env.scope x := by first | exact Or.inl rfl | exact Or.inr (Or.inl rfl) | exact Or.inr (Or.inr rfl)) (hd : (x == ("__debug__" : Str)) = false := by decide)
    (hcd : (x == ("__classdict__" : Str)) = false := by decide) (hgl : Gl X "len" := by rfl) (he : starEach [.Name x p2] X.env = (false, eval (.Name x p2) X.env) :: starEach [] X.env := by rfl) : PE X (.Call (.Name "len" p) [.Name x p2] [] pos) (lE X.K W (dLenO i)) :=
  pe_imp (pe_callB call_len hgl hm PySem.boot_len (pa_cons (pe_var (i := i) hN hvis hd hcd) pa_nil he) (by decide) (by decide) he rfl) fun σ H Q ⟨ρ, G, la, P, XX, r, h, q, xo⟩ => by
    unfold dLenO at h
    split at h
    · rename_i k hk
      obtain ⟨v, hv, a, ha, ev⟩ := r.at_ _ _ hk
      subst ev
      split at h
      · rename_i xs hxs
        obtain ⟨gn, vs, hH, lv, dv⟩ := r.tb.tab k a _ ha hxs
        rw [← dv.len] at h
        exact ⟨_, hv, _, _, rfl, .inl ⟨_, SqL.of hH, rfl⟩, q _ _ _ _ _ _ h (Aft.refl r) (.int _)⟩
      · exact h.elim
    · exact h.elim
end

/-! ### calls of defs -/
abbrev DF := List Sl → List Ob → (Sl → List Ob → Prop) → (Xn → List Ob → Prop) → Prop
/-- a def's promise, by data: n arguments -/
def spD (K : PySem.W.Frag) (n : Nat) (F : DF) : Sp := fun vs H Q E => vs.length = n ∧ ∃ ss G la T P PX, Rl K G H la T ∧ SlsR K G la vs ss ∧ F ss T P PX ∧
  (∀ r T' v G' la' H', P r T' → Same G G' → la <+: la' → Rl K G' H' la' T' → SlR K G' la' v r → Q v H') ∧ (∀ x T' G' la' H' cls od, PX x T' → Same G G' → la <+: la' → Rl K G' H' la' T' → XR K G' H' x cls od → E cls od H')
def dCall (n : Nat) (F : DF) (fa : DA) : DL' := fun X ρ Q => fa X ρ fun ss ρ1 => ss.length = n ∧ F ss ρ1.T (fun r T' => Q r ⟨T', ρ1.s⟩) (fun x T' => X x ⟨T', ρ1.s⟩)
section
variable {X : Cx} {W : WX} {x : Str} {p pos : Pos} {e : Expr} {es : List Expr} {fa : DA} {k n : Nat} {f : Addr} {fd : FuncData} {ps : List Str} {F : DF}
theorem call_core {K : PySem.W.Frag} : ∀ (σ : L2.St) (H : Hp) (Q : VK), lL K W (dCall n F fa) σ H Q → tCallS (spD K n F) (WE W) (lA K W fa) σ H Q := fun σ H Q ⟨ρ, G, la, P, XX, r, h, q, xo⟩ =>
  ⟨ρ, G, la, _, XX, r, h, fun ss ρ1 vs G1 la1 H1 p1 a1 z1 => ⟨z1.len.trans p1.1, ss, G1, la1, ρ1.T, _, _, a1.r.tb, z1, p1.2, fun r2 T' v G' la' H' pr g pp rl sr => q _ _ _ _ _ _ pr ⟨a1.g.trans g, a1.p.trans pp, ⟨rl, a1.r.sl, fun i y hy => by
      obtain ⟨u, hu, ru⟩ := a1.r.at_ i y hy
      exact ⟨u, hu, ru.grow g pp⟩⟩⟩ sr, fun y T' G' la' H' cls od px g pp rl xr => xo y ⟨T', ρ1.s⟩ σ G' la' H' cls od px ⟨a1.g.trans g, a1.p.trans pp, ⟨rl, a1.r.sl, fun i y hy => by
      obtain ⟨u, hu, ru⟩ := a1.r.at_ i y hy
      exact ⟨u, hu, ru.grow g pp⟩⟩⟩ xr⟩, xo⟩
theorem dl_call (Fk : FnOk X.prog X.w X.K X.mg X.base (L2.CX X.prog X.w) k f fd ps (spD X.K n F)) (hr : Room k X.A) (hm : X.mg x = some (.ref f)) (hk : PySem.W.keepIn X.K (.ref f) = true) (hb : Binds X.K fd ps []) (tk : Takes X W) (ha : PA X (e :: es) (lA X.K W fa)) (hg : Gl X x := by rfl)
    (hdb : (x == ("__debug__" : Str)) = false := by decide) (he : starEach (e :: es) X.env = (false, eval e X.env) :: starEach es X.env := by rfl) (hpl : (backTo pos (starEach es X.env)).any (·.1) = false := by rfl) : PE X (.Call (.Name x p) (e :: es) [] pos) (lL X.K W (dCall n F fa)) :=
  pe_imp (pe_callS Fk hr hg hm hk hb (fun σ => passAt tk σ) ha hdb he hpl) call_core
end

/-! ### defs -/
def retD (n : Nat) (P : Sl → List Ob → Prop) : Sl → Env → Prop := fun x ρ => match x with
  | .dat d => P (.dat d) (ρ.T.take n)
  | .ob k => if k < n then P (.ob k) (ρ.T.take n) else match ρ.T[k]? with
    | some o => P (.ob n) (ρ.T.take n ++ [o])
    | none => False
  | .clo _ _ _ => False
def endsOf (n : Nat) (P : Sl → List Ob → Prop) (PX : Xn → List Ob → Prop) : DN := { nx := fun ρ => P (.dat .non) (ρ.T.take n), rt := retD n P, xn := fun x ρ => PX x (ρ.T.take n) }
def startD (m n : Nat) (ss : List Sl) (T : List Ob) : Env := ⟨T, ss.map some ++ List.replicate (m - n) none⟩
section
variable {P : Program} {w : World} {K : PySem.W.Frag} {mg : Str → Option Value} {base : Heap}
theorem start_re {G H : Hp} {la : List Addr} {T : List Ob} {vs : List V} {ss : List Sl} {m n : Nat} {N : List Str} (hm : m = N.length) (hn : n = ss.length) (rl : Rl K G H la T) (sr : SlsR K G la vs ss) : Re K G H la (L2.start N vs) (startD m n ss T) := by
  subst hm
  refine ⟨rl, ?_, fun i y hy => ?_⟩
  · show (ss.map some ++ List.replicate (N.length - n) none).length = (vs.map some ++ List.replicate (N.length - vs.length) none).length
    have e1 := sr.len
    simp only [List.length_append, List.length_map, List.length_replicate]
    omega
  · have hy' : (ss.map some ++ List.replicate (N.length - n) none)[i]? = some (some y) := hy
    by_cases hi : i < ss.length
    · rw [List.getElem?_append_left (by simpa using hi), List.getElem?_map] at hy'
      obtain ⟨z, hz, e⟩ := Option.map_eq_some_iff.mp hy'
      have e' := Option.some.inj e
      subst e'
      obtain ⟨v, hv, rv⟩ := sr.get hz
      refine ⟨v, ?_, rv⟩
      show (vs.map some ++ List.replicate (N.length - vs.length) none)[i]? = _
      rw [List.getElem?_append_left (by rw [List.length_map, sr.len]; exact hi), List.getElem?_map, hv]
      rfl
    · rw [List.getElem?_append_right (by simpa using hi), List.getElem?_replicate] at hy'
      split at hy' <;> cases hy'
theorem ends_bk {G : Hp} {la : List Addr} {T : List Ob} {Pd : Sl → List Ob → Prop} {PX : Xn → List Ob → Prop} {Q : VK} {E : XK} (lT : la.length = T.length)
    (q : ∀ r T' v G' la' H', Pd r T' → Same G G' → la <+: la' → Rl K G' H' la' T' → SlR K G' la' v r → Q v H') (qx : ∀ x T' G' la' H' cls od, PX x T' → Same G G' → la <+: la' → Rl K G' H' la' T' → XR K G' H' x cls od → E cls od H') :
    Bk K G la (fun cls d _ H => E cls d H) (endsOf T.length Pd PX) { nx := fun _ H' => Q .non H', rt := Q } := by
  have tr : ∀ {ρ' : Env} {σ' : L2.St} {G' : Hp} {la' : List Addr} {H' : Hp}, Aft K G la σ' ρ' G' la' H' → la'.take T.length = la ∧ Rl K G' H' la (ρ'.T.take T.length) := fun {ρ' σ' G' la' H'} a => by
    have e : la'.take T.length = la := by
      rw [← lT]
      exact pre_take a.p
    have z := a.r.tb.take T.length
    rw [e] at z
    exact ⟨e, z⟩
  refine ⟨fun ρ' σ' G' la' H' p a => ?_, fun ρ' σ' G' la' H' p a => p.elim, fun ρ' σ' G' la' H' p a => p.elim, fun y ρ' v σ' G' la' H' p a z => ?_, fun y ρ' σ' G' la' H' cls od p a xr => ?_⟩
  · exact q _ _ _ G' la H' p a.g List.prefix_rfl (tr a).2 (show Dp K G' .non .non from .non)
  · cases y with
    | dat d => exact q _ _ _ G' la H' p a.g List.prefix_rfl (tr a).2 z
    | clo _ _ _ => exact (show False from p).elim
    | ob j =>
      obtain ⟨b, hb, ev⟩ := z
      subst ev
      have p' : if j < T.length then Pd (.ob j) (ρ'.T.take T.length) else match ρ'.T[j]? with
        | some o => Pd (.ob T.length) (ρ'.T.take T.length ++ [o])
        | none => False := p
      by_cases hj : j < T.length
      · rw [if_pos hj] at p'
        refine q _ _ _ G' la H' p' a.g List.prefix_rfl (tr a).2 ⟨b, ?_, rfl⟩
        rw [← (tr a).1, List.getElem?_take, if_pos hj]
        exact hb
      · rw [if_neg hj] at p'
        split at p'
        · rename_i o ho
          obtain ⟨e1, r1⟩ := tr a
          have nb : b ∉ la := fun hm => by
            obtain ⟨i, hi, e2⟩ := List.getElem_of_mem hm
            have h1 : la'[i]? = some b := pre_at a.p (by rw [List.getElem?_eq_getElem hi, e2])
            obtain ⟨l1, x1⟩ := List.getElem?_eq_some_iff.mp h1
            obtain ⟨l2, x2⟩ := List.getElem?_eq_some_iff.mp hb
            have := (List.getElem_inj a.r.tb.nd).mp (x1.trans x2.symm)
            omega
          have lt2 : (ρ'.T.take T.length).length = T.length := by rw [← r1.len, lT]
          refine q _ _ _ G' (la ++ [b]) H' p' a.g (List.prefix_append _ _) ⟨r1.ext, ?_, by simp [lt2, lT], fun i c u h1 h2 => ?_, fun i c h1 => ?_, r1.nt, r1.tbl⟩ ⟨b, ?_, rfl⟩
          · rw [List.nodup_append]
            exact ⟨r1.nd, by simp, fun c hc d hd => by
              have e3 : d = b := by simpa using hd
              rw [e3]
              intro z
              exact nb (z ▸ hc)⟩
          · by_cases hi : i < la.length
            · rw [List.getElem?_append_left hi] at h1
              rw [List.getElem?_append_left (by omega)] at h2
              exact r1.tab i c u h1 h2
            · rw [List.getElem?_append_right (by omega)] at h1
              rw [List.getElem?_append_right (by omega), lt2, ← lT] at h2
              cases e4 : i - la.length with
              | zero =>
                rw [e4] at h1 h2
                have q1 := Option.some.inj h1
                have q2 := Option.some.inj h2
                subst q1 q2
                exact a.r.tb.tab j _ _ hb ho
              | succ m =>
                rw [e4] at h1
                simp at h1
          · by_cases hi : i < la.length
            · rw [List.getElem?_append_left hi] at h1
              exact r1.there i c h1
            · rw [List.getElem?_append_right (by omega)] at h1
              cases e4 : i - la.length with
              | zero =>
                rw [e4] at h1
                have q1 := Option.some.inj h1
                subst q1
                exact a.r.tb.there j _ hb
              | succ m =>
                rw [e4] at h1
                simp at h1
          · rw [← lT, List.getElem?_append_right (Nat.le_refl _)]
            simp
        · exact p'.elim
  · exact qx _ _ G' la H' cls od p a.g List.prefix_rfl (tr a).2 xr
theorem fn_D {x qual : Str} {st : Stmt} {f : Addr} {fd : FuncData} {N ps : List Str} {k n : Nat} {F : DF} {B : DS} (Fn : Fun K x qual st f fd) (S : FnScope N ps (defScope st)) (hn : ps.length = n)
    (hB : ∀ (cdv : Value) (A : Around) (outer : List PySem.Env) (s : Shared) (H : Hp) (E : XK), Room k (A.deeper (envOfC qual (defScope st) s.heap.objs.size f cdv)) →
      PSs (cxOf (L2.CX P w) P w K mg base N qual (defScope st) f cdv A outer s H E) (defBody st) (lS K (fun cls d _ H => E cls d H) B))
    (hF : ∀ (ss : List Sl) (T : List Ob) (Q : Sl → List Ob → Prop) (QX : Xn → List Ob → Prop), ss.length = n → F ss T Q QX → B (endsOf T.length Q QX) (startD N.length n ss T)) :
    FnOk P w K mg base (L2.CX P w) (k + 1) f fd ps (spD K n F) := by
  refine Fn.okX S (fun vs H Q E h => h.1.trans hn.symm) (fun cdv A outer s H vs Q E hr h => ⟨_, hB cdv A outer s H E hr, ?_⟩)
  obtain ⟨hl, ss, G, la, T, Pd, PX, rl, sr, fp, q, qx⟩ := h
  exact ⟨startD N.length n ss T, G, la, endsOf T.length Pd PX, start_re rfl (hl.symm.trans sr.len) rl sr, hF ss T Pd PX (sr.len.symm.trans hl) fp, ends_bk rl.len q qx⟩
/-- the same, the def's code object being known -/
theorem fn_DC {x qual : Str} {st : Stmt} {f : Addr} {N ps : List Str} {k n : Nat} {F : DF} {B : DS} {oc kV doc pm cdv ct : Value} {od an : Option Addr} {osl : Array (Option Value)}
    (lk : K.lookup f = some ⟨oc, od, .func (PySem.W.fnOf x qual (defArgs st) (defBody st) (defScope st) .none kV doc pm an cdv ct), osl⟩) (hcd : PySem.W.codeIn K cdv qual = true) (S : FnScope N ps (defScope st)) (hn : ps.length = n)
    (hB : ∀ (A : Around) (outer : List PySem.Env) (s : Shared) (H : Hp) (E : XK), Room k (A.deeper (envOfC qual (defScope st) s.heap.objs.size f cdv)) →
      PSs (cxOf (L2.CX P w) P w K mg base N qual (defScope st) f cdv A outer s H E) (defBody st) (lS K (fun cls d _ H => E cls d H) B))
    (hF : ∀ (ss : List Sl) (T : List Ob) (Q : Sl → List Ob → Prop) (QX : Xn → List Ob → Prop), ss.length = n → F ss T Q QX → B (endsOf T.length Q QX) (startD N.length n ss T)) :
    FnOk P w K mg base (L2.CX P w) (k + 1) f (PySem.W.fnOf x qual (defArgs st) (defBody st) (defScope st) .none kV doc pm an cdv ct) ps (spD K n F) := by
  refine fn_of lk hcd S (fun vs H Q E h => h.1.trans hn.symm) (fun A outer s H vs Q E hr h => ⟨_, hB A outer s H E hr, ?_⟩)
  obtain ⟨hl, ss, G, la, T, Pd, PX, rl, sr, fp, q, qx⟩ := h
  exact ⟨startD N.length n ss T, G, la, endsOf T.length Pd PX, start_re rfl (hl.symm.trans sr.len) rl sr, hF ss T Pd PX (sr.len.symm.trans hl) fp, ends_bk rl.len q qx⟩
end
end DL
set_option Elab.async false
set_option linter.all false
set_option maxRecDepth 100000
set_option maxHeartbeats 4000000
set_option autoImplicit false
/-! The data level: tuple * int of any size; enumerate of a tuple. -/
namespace DL
open PySem PySem.Spec PyProof.Rows L2

/-! ### tuple * int -/
theorem tmul_same (l : Addr) (items : Array Value) (n : Nat) (dd : Option Addr) (sl : Array (Option Value)) (x : Int) (u : Tok) (c0 : (decide (x < -(2 ^ 63)) || decide (x ≥ 2 ^ 63)) = false) (c1 : (items.isEmpty || x == 1) = true) :
    Meets (Builtin.«tuple.__mul__» ⟨[.ref l, .int x u], []⟩) (fun _ R s => s.heap.get? l = some { cls := .type "tuple", dict := dd, data := .seq items n, slots := sl } ∧ R (.ok (.ret (Value.ref l))) s) :=
  .of_wp fun prog w A R s h => by
    obtain ⟨hp, g, d, tk, os⟩ := s
    obtain ⟨hl, h⟩ := h
    have f1 := AutoSeq1.idx_int
    wp_walk using AutoSeq1.wpAny_loadPart' hl
    repeat (first
      | (refine wpAny_ite_false (decide_eq_false (by rw [c0]; exact Bool.false_ne_true)) ?_; wp_walk using AutoSeq1.wpAny_loadPart' hl)
      | (refine wpAny_ite_true (decide_eq_true c1) ?_; wp_walk using AutoSeq1.wpAny_loadPart' hl))
    exact ⟨_, rfl, h⟩
theorem tmul_none (l : Addr) (items : Array Value) (n : Nat) (dd : Option Addr) (sl : Array (Option Value)) (x : Int) (u : Tok) (c0 : (decide (x < -(2 ^ 63)) || decide (x ≥ 2 ^ 63)) = false) (c1 : (items.isEmpty || x == 1) = false) (c2 : (decide (x ≤ 0) || items.isEmpty) = true) :
    Meets (Builtin.«tuple.__mul__» ⟨[.ref l, .int x u], []⟩) (fun _ R s => s.heap.get? l = some { cls := .type "tuple", dict := dd, data := .seq items n, slots := sl } ∧
      R (.ok (.ret (Value.ref s.heap.objs.size))) { s with heap := s.heap.push { cls := Value.type "tuple", data := Data.seq #[] }, toks := s.toks }) :=
  .of_wp fun prog w A R s h => by
    obtain ⟨hp, g, d, tk, os⟩ := s
    obtain ⟨hl, h⟩ := h
    have f1 := AutoSeq1.idx_int
    wp_walk using AutoSeq1.wpAny_loadPart' hl
    repeat (first
      | (refine wpAny_ite_false (decide_eq_false (by rw [c0]; exact Bool.false_ne_true)) ?_; wp_walk using AutoSeq1.wpAny_loadPart' hl)
      | (refine wpAny_ite_false (decide_eq_false (by rw [c1]; exact Bool.false_ne_true)) ?_; wp_walk using AutoSeq1.wpAny_loadPart' hl)
      | (refine wpAny_ite_true (decide_eq_true c2) ?_; wp_walk using AutoSeq1.wpAny_loadPart' hl))
    exact ⟨_, rfl, h⟩
/-- t * k: k = 1 gives t itself, k ≤ 0 the empty one -/
def rRepA (K : PySem.W.Frag) : R2 := fun x y H Q => ∃ l k xs, x = .ref l ∧ y = .int k ∧ SqT K H l xs ∧ -1000 ≤ k ∧ k ≤ 1000 ∧ xs.length ≤ 1000 ∧ ((xs = [] ∨ k = 1) → Q (.ref l) H) ∧ (¬ (xs = [] ∨ k = 1) → ∀ p, H p = none → Q (.ref p) (upd H p (.tup (List.replicate k.toNat xs).flatten)))
section
variable {X : Cx}
theorem op_repA : OpR X (binaryOp .Mult) (rRepA X.K) := by
  intro pins s σ H x y v u Q I rx ry h
  obtain ⟨l, k, xs, rfl, rfl, hT, h0, h1, hz, q1, q2⟩ := h
  by_cases big : xs ≠ [] ∧ 2 ≤ k
  · exact op_repT pins s σ H _ _ v u Q I rx ry ⟨l, k, xs, rfl, rfl, hT, big.1, big.2, h1, hz, q2 fun z => z.elim big.1 fun e => by omega⟩
  cases rx
  obtain ⟨t, rfl⟩ := ry
  obtain ⟨its, r, ⟨⟨cls, dd, data, sl⟩, ho, hc, n, hd⟩, hs⟩ := I.tuple hT
  simp only at hc hd
  subst hc hd
  have nil_eq : its = [] ↔ xs = [] := r.nil_iff
  have c0 : (decide (k < -(2 ^ 63)) || decide (k ≥ 2 ^ 63)) = false := by
    rw [decide_eq_false (by omega), decide_eq_false (by omega)] <;> rfl
  have emp : its.toArray.isEmpty = decide (xs = []) := by
    cases its with
    | nil => rw [decide_eq_true (nil_eq.mp rfl)]; rfl
    | cons a b => rw [decide_eq_false fun z => nomatch nil_eq.mpr z]; rfl
  by_cases same : xs = [] ∨ k = 1
  · have c1 : (its.toArray.isEmpty || k == 1) = true := by
      rw [emp]
      rcases same with e | e
      · rw [decide_eq_true e, Bool.true_or]
      · rw [e]
        simp
    exact wpAny_binaryOp_repeat_ref (T := "tuple") (U := "int") (by decide) ⟨_, ho, rfl⟩ (fun s' => typeIs_int s' k t) noFill_tuple_mul F.fills_int_mul F.slot_int_rmul repeat_tuple F.slot_int_index.lookup
      (call_meets F.slot_int_rmul (typeIs_int s k t) F.entry_int_rmul (F.args_int_rmul_2 _ _) (int_rmul_tuple k t l its.toArray n dd sl)
        ⟨ho, rfl, ⟨_, ho, rfl⟩, call_meets F.slot_tuple_mul ⟨_, ho, rfl⟩ F.entry_tuple_mul (F.args_tuple_mul_2 _ _) (tmul_same l its.toArray n dd sl k t c0 c1) ⟨ho, ⟨.ref l, H, I, rfl, q1 same⟩⟩⟩)
  · have hk : k ≤ 0 := by
      have n1 : xs ≠ [] := fun e => same (.inl e)
      have n2 : ¬ 2 ≤ k := fun e => big ⟨n1, e⟩
      have n3 : k ≠ 1 := fun e => same (.inr e)
      omega
    have c1 : (its.toArray.isEmpty || k == 1) = false := by
      rw [emp, decide_eq_false fun e => same (.inl e), Bool.false_or]
      exact beq_eq_false_iff_ne.mpr fun e => same (.inr e)
    have c2 : (decide (k ≤ 0) || its.toArray.isEmpty) = true := by rw [decide_eq_true hk, Bool.true_or]
    have ek : (List.replicate k.toNat xs).flatten = [] := by
      rw [show k.toNat = 0 by omega]
      rfl
    rw [ek] at q2
    refine wpAny_binaryOp_repeat_ref (T := "tuple") (U := "int") (by decide) ⟨_, ho, rfl⟩ (fun s' => typeIs_int s' k t) noFill_tuple_mul F.fills_int_mul F.slot_int_rmul repeat_tuple F.slot_int_index.lookup
      (call_meets F.slot_int_rmul (typeIs_int s k t) F.entry_int_rmul (F.args_int_rmul_2 _ _) (int_rmul_tuple k t l its.toArray n dd sl)
        ⟨ho, rfl, ⟨_, ho, rfl⟩, call_meets F.slot_tuple_mul ⟨_, ho, rfl⟩ F.entry_tuple_mul (F.args_tuple_mul_2 _ _) (tmul_none l its.toArray n dd sl k t c0 c1 c2) ⟨ho, ?_⟩⟩)
    refine ⟨.ref s.heap.objs.size, _, I.laid (t' := s.toks) (o := .tup []) (fun b ob q => Heap.get?_push_of_some _ q) (Nat.le_refl _) ⟨Nat.zero_le _, [], .nil, IsTup.new _ _⟩, rfl, q2 same _ (I.hok.fresh (Nat.le_refl _))⟩
/-- * of ints, tuple * int -/
def rMulA (K : PySem.W.Frag) : R2 := fun x y H Q => rI CMulW (fun i j => .int (i * j)) x y H Q ∨ rRepA K x y H Q
theorem op_mulA : OpR X (binaryOp .Mult) (rMulA X.K) := op_mulW.or op_repA
end
def gMulA : D → D → (D → Prop) → Prop
  | .int i, .int j, P => CMulW i j ∧ P (.int (i * j))
  | .tup xs, .int k, P => (-1000 ≤ k ∧ k ≤ 1000 ∧ xs.length ≤ 1000) ∧ P (.tup (List.replicate k.toNat xs).flatten)
  | _, _, _ => False
theorem rep_len {xs : List V} {k : Int} (h1 : k ≤ 1000) (hz : xs.length ≤ 1000) : (List.replicate k.toNat xs).flatten.length ≤ sizeLine := by
  rw [PyProof.Rows.lm_len_rep_flat, sizeLine_eq]
  have a1 : k.toNat * xs.length ≤ 1000 * 1000 := Nat.mul_le_mul (by omega) hz
  omega
theorem g_mulA {K : PySem.W.Frag} : GOp K (rMulA K) gMulA := by
  intro G H x y d e P Q sm dx dy gp k
  unfold gMulA at gp
  split at gp
  · cases dx
    cases dy
    exact .inl ⟨_, _, rfl, rfl, gp.1, k _ _ _ _ gp.2 (Grow.refl sm) (.int _)⟩
  · cases dy
    cases dx with
    | tup a l r =>
      rename_i xs kk p vs
      obtain ⟨⟨b1, b2, b3⟩, p1⟩ := gp
      refine .inr ⟨_, kk, vs, rfl, rfl, same_t sm a, b1, b2, by rw [r.len]; exact b3, fun z => ?_, fun z q hq => ?_⟩
      · have e1 : (List.replicate kk.toNat xs).flatten = xs := by
          rcases z with z | z
          · rw [(nil_iff r).mp z]
            simp
          · rw [z]
            simp
        rw [e1] at p1
        exact k _ _ _ _ p1 (Grow.refl sm) (.tup a l r)
      · exact k _ _ _ _ p1 (Grow.new sm hq) (.tup (.inl (.inl upd_same)) (rep_len b2 (by rw [r.len]; exact b3)) ((r.rep _).up (Grow.new sm hq).g))
  · exact gp.elim

/-! ### enumerate of a tuple -/
section
variable {prog : Program} {w : World} {A : Around} {E : Value → Shared → Prop} {s : Shared}
theorem en_new (l : Addr) (items : Array Value) :
    Meets (Builtin.«enumerate.__new__» ⟨[.type "enumerate", .ref l], []⟩) (fun _ R s => s.heap.IsTuple l items ∧
      R (.ok (.ret (.ref (s.heap.push { cls := .type "tuple_iterator", data := .fields #[.ref l, .int 0 0] }).objs.size)))
        { s with heap := (s.heap.push { cls := .type "tuple_iterator", data := .fields #[.ref l, .int 0 0] }).push { cls := .type "enumerate", data := .fields #[.none, .bool false, .ref s.heap.objs.size, rawInt 0, .none, .none] } }) :=
  .of_wp fun prog w A R s h => by
    obtain ⟨hp, g, d, tk, os⟩ := s
    obtain ⟨hT, h⟩ := h
    have hsub := sub_enumerate
    have hL : Heap.IsTuple (Shared.heap ⟨hp, g, d, tk, os⟩) l items := hT
    wp_walk
    refine wpAny_stack_any fun st => wpAny_pure ?_
    split
    · rename_i c _ _ _ _ _
      cases (c == Value.type "enumerate") <;> (wp_walk using wpAny_pyIter_tuple hL; exact ⟨_, rfl, h⟩)
    · wp_walk using wpAny_pyIter_tuple hL
      exact ⟨_, rfl, h⟩
theorem en_call {l : Addr} {items : Array Value} {Q : Value → Shared → Prop} (hT : s.heap.IsTuple l items)
    (h : ∀ h', IsEnum h' (s.heap.objs.size + 1) s.heap.objs.size 0 .none → h'.IsTupleIter s.heap.objs.size l 0 → h'.objs.size = s.heap.objs.size + 2 → (∀ b o, s.heap.get? b = some o → h'.get? b = some o) → Q (.ref (s.heap.objs.size + 1)) { s with heap := h' }) :
    wpAny (model prog w) A (call (.type "enumerate") [.ref l]) Q E s := by
  refine callType_new F.called_enumerate (by decide) (F.typeCall_enumerate_1 _) (F.newCall_enumerate_1 _) (fun obj => F.args_object_init_2 obj _) F.entry_enumerate_new (en_new l items) ⟨hT, ?_⟩
  generalize e1 : s.heap.push { cls := .type "tuple_iterator", data := .fields #[.ref l, .int 0 0] } = h1
  have z1 : h1.objs.size = s.heap.objs.size + 1 := by rw [← e1]; exact Heap.size_push ..
  have g1 : h1.get? s.heap.objs.size = some { cls := .type "tuple_iterator", data := .fields #[.ref l, .int 0 0] } := by rw [← e1]; exact Heap.get?_push_size _ rfl
  have k1 : ∀ b o, s.heap.get? b = some o → h1.get? b = some o := fun b o x => by rw [← e1]; exact Heap.get?_push_of_some _ x
  have g2 : (h1.push { cls := .type "enumerate", data := .fields #[.none, .bool false, .ref s.heap.objs.size, rawInt 0, .none, .none] }).get? h1.objs.size = some _ := Heap.get?_push_size _ rfl
  rw [z1] at g2
  show _ ∧ _
  rw [z1]
  exact ⟨⟨_, g2, rfl⟩, h _ g2 ⟨_, Heap.get?_push_of_some _ g1, rfl, rfl⟩ (by rw [Heap.size_push, z1]) fun b o x => Heap.get?_push_of_some _ (k1 b o x)⟩
theorem en_item {e it l : Addr} {i : Nat} {items : Array Value} {x old : Value} {Q : Option Value → Shared → Prop} (he : IsEnum s.heap e it i old) (hit : s.heap.IsTupleIter it l i) (hl : s.heap.IsTuple l items) (hx : items[i]? = some x) (hne : e ≠ it)
    (hQ : ∀ h', IsEnumOut h' e it ((i : Int) + 1) x s.heap.objs.size → h'.IsTupleIter it l (i + 1) → h'.get? s.heap.objs.size = some { cls := .type "tuple", data := .seq #[.int i s.toks, x] } → h'.objs.size = s.heap.objs.size + 1 →
      (∀ b o, b ≠ e → b ≠ it → s.heap.get? b = some o → h'.get? b = some o) → Q (some (.ref s.heap.objs.size)) { s with heap := h', toks := s.toks + 1 }) :
    wpAny (model prog w) A (pyNext (.ref e)) Q E s := by
  have hT : s.TypeIs (.ref e) "enumerate" := ⟨_, he, rfl⟩
  have core : ∀ E' : Value → Shared → Prop, wpAny (model prog w) A.in1 (Builtin.«enumerate.__next__» ⟨[.ref e], []⟩) (fun fin s' => ∃ v, fin = .done (.ret v) ∧ Q (some v) s') E' s := by
    intro E'
    obtain ⟨hp, g, d, tk, os⟩ := s
    show wpAny _ _ (field (.ref e) 2 >>= _) _ _ _
    refine wpAny_bind (wpAny_field he rfl (x := .ref it) rfl ?_)
    refine wpAny_bind (RZ.nextOf_tuple_item hit hl hx fun m1 it1 b1 => ?_)
    have b1' : Heap.SameBut it hp m1 := b1
    have e1 : IsEnum m1 e it i old := (b1'.2 e hne).trans he
    show wpAny _ _ (field (.ref e) 3 >>= _) _ _ ⟨m1, g, d, tk, os⟩
    refine wpAny_bind (wpAny_field e1 rfl (x := rawInt i) rfl ?_)
    show wpAny _ _ (field (.ref e) 4 >>= _) _ _ ⟨m1, g, d, tk, os⟩
    refine wpAny_bind (wpAny_field e1 rfl (x := .none) rfl ?_)
    show wpAny _ _ (mkInt i >>= _) _ _ ⟨m1, g, d, tk, os⟩
    refine wpAny_bind (wpAny_mkInt ?_)
    show wpAny _ _ (setField (.ref e) 3 (rawInt ((i : Int) + 1)) >>= _) _ _ ⟨m1, g, d, tk + 1, os⟩
    refine wpAny_bind (wpAny_setField_rec e1 (by simp) fun m2 e2 b2 => ?_)
    have b2' : Heap.SameBut e m1 m2 := b2
    have e2' : IsEnum m2 e it ((i : Int) + 1) old := e2
    show wpAny _ _ (setField (.ref e) 4 .none >>= _) _ _ ⟨m2, g, d, tk + 1, os⟩
    refine wpAny_bind (wpAny_setField_rec e2' (by simp) fun m3 e3 b3 => ?_)
    have b3' : Heap.SameBut e m2 m3 := b3
    have e3' : IsEnum m3 e it ((i : Int) + 1) old := e3
    show wpAny _ _ (newTuple [.int i tk, x] >>= _) _ _ ⟨m3, g, d, tk + 1, os⟩
    refine wpAny_bind (wpAny_newTuple ?_)
    have sz3 : m3.objs.size = hp.objs.size := by rw [b3'.1, b2'.1, b1'.1]
    have elt : e < hp.objs.size := Heap.lt_size he
    have up3 : ∀ b o, b ≠ e → b ≠ it → hp.get? b = some o → m3.get? b = some o := fun b o n1 n2 q => b3'.extBut b o n1 (b2'.extBut b o n1 (b1'.extBut b o n2 q))
    have it3 : m3.IsTupleIter it l (i + 1) := (it1.extBut b2'.extBut (Ne.symm hne)).extBut b3'.extBut (Ne.symm hne)
    generalize q4 : m3.push { cls := .type "tuple", data := .seq #[.int i tk, x] } = m4
    have e4 : IsEnum m4 e it ((i : Int) + 1) old := by rw [← q4]; exact Heap.get?_push_of_some _ e3'
    have t4 : m4.get? hp.objs.size = some { cls := .type "tuple", data := .seq #[.int i tk, x] } := by rw [← q4, ← sz3]; exact Heap.get?_push_size _ rfl
    have sz4 : m4.objs.size = hp.objs.size + 1 := by rw [← q4, Heap.size_push, sz3]
    have up4 : ∀ b o, b ≠ e → b ≠ it → hp.get? b = some o → m4.get? b = some o := fun b o n1 n2 q => by rw [← q4]; exact Heap.get?_push_of_some _ (up3 b o n1 n2 q)
    have it4 : m4.IsTupleIter it l (i + 1) := by
      obtain ⟨o, ho, rr⟩ := it3
      exact ⟨o, by rw [← q4]; exact Heap.get?_push_of_some _ ho, rr⟩
    show wpAny _ _ (Builtin.SmallTypes.ownedTupleIsFree (.ref e) >>= _) _ _ ⟨m4, g, d, tk + 1, os⟩
    rw [sz3]
    refine wpAny_bind ?_
    unfold Builtin.SmallTypes.ownedTupleIsFree
    refine wpAny_bind (wpAny_field e4 rfl (x := .none) rfl (wpAny_pure ?_))
    simp only [if_true]
    refine wpAny_bind (wpAny_rule ?_)
    refine wpAny_bind (wpAny_field e4 rfl (x := old) rfl ?_)
    refine wpAny_bind (wpAny_setField_rec e4 (by simp) fun m5 e5 b5 => ?_)
    have b5' : Heap.SameBut e m4 m5 := b5
    have e5' : IsEnum m5 e it ((i : Int) + 1) x := e5
    show wpAny _ _ (Builtin.SmallTypes.ownedTupleHandOut (.ref e) (.ref hp.objs.size) >>= _) _ _ ⟨m5, g, d, tk + 1, os⟩
    refine wpAny_bind ?_
    unfold Builtin.SmallTypes.ownedTupleHandOut
    refine wpAny_bind (wpAny_setField_rec e5' (by simp) fun m6 e6 b6 => ?_)
    have b6' : Heap.SameBut e m5 m6 := b6
    have e6' : IsEnumOut m6 e it ((i : Int) + 1) x hp.objs.size := e6
    refine wpAny_setField_rec e6' (by simp) fun m7 e7 b7 => ?_
    have b7' : Heap.SameBut e m6 m7 := b7
    have e7' : IsEnumOut m7 e it ((i : Int) + 1) x hp.objs.size := e7
    have up7 : ∀ b o, b ≠ e → m4.get? b = some o → m7.get? b = some o := fun b o n q => b7'.extBut b o n (b6'.extBut b o n (b5'.extBut b o n q))
    refine wpAny_bind (wpAny_letGo (wpAny_pure ⟨_, rfl, hQ m7 e7' (it4.at fun o q => up7 it o (Ne.symm hne) q) (up7 _ _ (Nat.ne_of_gt elt) t4) (by rw [b7'.1, b6'.1, b5'.1, sz4]) fun b o n1 n2 q => up7 b o n1 (up4 b o n1 n2 q)⟩))
  unfold pyNext
  refine wpAny_bind (wpAny_attempt (wpAny_callSpecial?_slot (name := Str.ofString "__next__") hT F.slot_enumerate_next (wpAny_call_entry F.slot_enumerate_next hT F.entry_enumerate_next ?_ (F.args_enumerate_next_1 _))))
  exact wpAny_mono (core _) (fun fin s' ⟨v, e1, q⟩ => ⟨v, e1, wpAny_pure q⟩) fun _ _ z => z
theorem en_end {e it l : Addr} {i : Nat} {items : Array Value} {old : Value} {Q : Option Value → Shared → Prop} (hh : A.handled = none) (he : IsEnum s.heap e it i old) (hit : s.heap.IsTupleIter it l i) (hl : s.heap.IsTuple l items) (hx : items[i]? = none)
    (hQ : ∀ h', Heap.ExtBut it s.heap h' → Q none { s with heap := h' }) : wpAny (model prog w) A (pyNext (.ref e)) Q E s := by
  have hT : s.TypeIs (.ref e) "enumerate" := ⟨_, he, rfl⟩
  unfold pyNext
  refine wpAny_bind (wpAny_attempt (wpAny_callSpecial?_slot (name := Str.ofString "__next__") hT F.slot_enumerate_next (wpAny_call_entry F.slot_enumerate_next hT F.entry_enumerate_next ?_ (F.args_enumerate_next_1 _))))
  show wpAny _ _ (field (.ref e) 2 >>= _) _ _ _
  refine wpAny_bind (wpAny_field he rfl (x := .ref it) rfl ?_)
  refine wpAny_bind (RZ.nextOf_tuple_end hh hit hl hx fun h' x he' ⟨o, ho, hc⟩ => ?_)
  exact wpAny_bind (wpAny_isInstance (T := "StopIteration") (b := true) ⟨o, ho, hc⟩ isSubtype_stop (wpAny_pure (hQ _ he')))
end
/-- the tuple at a, each item with its number in a new pair -/
def IteT (K : PySem.W.Frag) (a : Addr) : It :=
  ⟨fun i H => ∃ (xs : List V) (x : V), SqT K H a xs ∧ xs[i]? = some x, fun i H v H' => ∃ T x, v = .ref T ∧ H T = none ∧ H' = upd H T (.tup [.int (i : Nat), x]) ∧ ∀ xs, SqT K H a xs → xs[i]? = some x, fun i H => ∃ xs : List V, SqT K H a xs ∧ xs.length ≤ i⟩
theorem en_turn {P : Program} {w : World} {K : PySem.W.Frag} {elts : List Expr} {kk : Nat} {tpos : Pos} (a e it : Addr) : Turn P w K (.Tuple elts kk tpos) (IteT K a) [e, it] e (fun i h => (∃ old, IsEnum h e it ((i : Nat) : Int) old) ∧ h.IsTupleIter it a i ∧ e ≠ it) where
  mem := by simp
  obj := fun i h st b hb => by
    obtain ⟨⟨old, he⟩, ⟨o, ho, hc, hd⟩, _⟩ := st
    rcases (show b = e ∨ b = it by simpa using hb) with rfl | rfl
    · exact ⟨_, he, fun v q => nomatch q⟩
    · exact ⟨o, ho, fun v q => by rw [hd] at q; cases q⟩
  keep := fun i h h' ⟨⟨old, he⟩, hi, hne⟩ k => ⟨⟨old, k e (by simp) _ he⟩, hi.at fun o q => k it (by simp) o q, hne⟩
  item := by
    intro X hP hw hK hc i pins s σ H E I hf st hg
    subst hP hw hK
    obtain ⟨⟨old, he⟩, hit, hne⟩ := st
    obtain ⟨xs, x, hq, hx⟩ := hg
    obtain ⟨its, rv, p, hz⟩ := I.tuple hq
    obtain ⟨u, hu, ru⟩ := rv.get hx
    have hel : e < s.heap.objs.size := Heap.lt_size he
    have hil : it < s.heap.objs.size := by obtain ⟨_, q, _⟩ := hit; exact Heap.lt_size q
    refine en_item he hit (show s.heap.IsTuple a its.toArray from p) (x := u) (by simpa using hu) hne fun h1 ho hit' hT hsz hk => ⟨_, rfl, wpAny_letOwnedTupleGo_enum (s := { s with heap := h1, toks := s.toks + 1 }) ho fun h2 he' sb => ?_⟩
    have hT2 : h2.get? s.heap.objs.size = some { cls := .type "tuple", data := .seq #[.int i s.toks, u] } := (sb.2 _ (Nat.ne_of_gt hel)).trans hT
    have new : ObjOk X.prog X.w (upd H s.heap.objs.size (.tup [.int (i : Nat), x])) h2 s.heap.objs.size (.tup [.int (i : Nat), x]) := ⟨by show 2 ≤ sizeLine; decide, [.int i s.toks, u], .cons ⟨_, rfl⟩ (.cons ru .nil), ⟨_, hT2, rfl, _, rfl⟩⟩
    have I1 : Inv X pins σ (upd H s.heap.objs.size (.tup [.int (i : Nat), x])) { s with heap := h2, toks := s.toks + 1 } :=
      I.turnedNew (ch := [e, it]) (fun b ob hb q => (sb.2 b (fun z => hb (by simp [z]))).trans (hk b ob (fun z => hb (by simp [z])) (fun z => hb (by simp [z])) q)) hf (Nat.le_refl _) new
    refine ⟨.ref s.heap.objs.size, _, I1, rfl, ⟨_, x, rfl, I.hok.fresh (Nat.le_refl _), rfl, fun ys hy => by rw [I.tuple_inj hy hq]; exact hx⟩, ⟨⟨u, ?_⟩, hit'.at fun o q => (sb.2 it (Ne.symm hne)).trans q, hne⟩, fun b hb => ?_⟩
    · have e1 : ((i + 1 : Nat) : Int) = (i : Int) + 1 := by omega
      rw [e1]
      exact he'
    · have hb' : b < s.heap.objs.size := by
        rcases (show b = e ∨ b = it by simpa using hb) with rfl | rfl
        · exact hel
        · exact hil
      rw [upd_ne (Nat.ne_of_lt hb')]
      exact (hf b hb).1
  done := by
    intro X hP hw hK hc i pins s σ H E I hf st hg
    subst hP hw hK
    obtain ⟨⟨old, he⟩, hit, hne⟩ := st
    obtain ⟨xs, hq, hx⟩ := hg
    obtain ⟨its, rv, p, hz⟩ := I.tuple hq
    obtain ⟨f0, f1, f2, f3, f4, f5⟩ := hf it (by simp)
    have hl := rv.length
    exact en_end (I.ok.hd hc) he hit (show s.heap.IsTuple a its.toArray from p) (by simp; omega) fun h' eb => ⟨rfl, I.turned (t' := s.toks) (fun b o hb q => eb b o hb q) f0 f1 f3 f4 f5⟩
  self := fun A i s Q E ⟨⟨_, he⟩, _⟩ h => wpAny_pyIter_enum he h
/-- enumerate of a list, of a tuple -/
def iEnA (K : PySem.W.Frag) (ta : TA) : TI := fun σ H R => ta σ H fun vs H1 => ∃ a xs, vs = [.ref a] ∧ ((SqL K H1 a xs ∧ R (Ite K a) H1) ∨ (SqT K H1 a xs ∧ R (IteT K a) H1))
theorem pi_enA {X : Cx} {e : Expr} {ta : TA} {p pos tpos : Pos} {elts : List Expr} {kk : Nat} (hg : Gl X "enumerate") (hm : X.mg "enumerate" = none) (ha : PA X [e] ta) (hs : starEach [e] X.env = [(false, eval e X.env)] := by rfl) : PI X (.Tuple elts kk tpos) (.Call (.Name "enumerate" p) [e] [] pos) (iEnA X.K ta) := by
  constructor
  intro pins s σ H R I h
  refine Call_ (ld_blt I hg hm boot_enumerate (PyProof.Rows.callWith_type1 (thn (ha.run pos pins s σ H _ I h) ?_) hs rfl))
  rintro us s1 ⟨vs, H1, I1, r1, a, xs, rfl, q⟩
  cases r1 with
  | cons r rr =>
    cases rr
    cases r
    have fp : ∀ b ∈ [s1.heap.objs.size + 1, s1.heap.objs.size], FpOk X pins H1 b := fun b hb => by
      have hle : s1.heap.objs.size ≤ b := by
        rcases (show b = s1.heap.objs.size + 1 ∨ b = s1.heap.objs.size by simpa using hb) with z | z <;> omega
      exact I1.fpOk hle (I1.hok.fresh hle)
    rcases q with ⟨hq, q⟩ | ⟨hq, q⟩
    · obtain ⟨its, rv, p', hz⟩ := I1.list hq
      exact call_enumerate_list p'.isList fun h' he hit hsz hk => wpAny_pyIter_enum he ⟨_, _, _, _, H1, rfl, I1.kept (t' := s1.toks) hk, turn_enum a (s1.heap.objs.size + 1) s1.heap.objs.size, ⟨⟨.none, he⟩, hit, Nat.succ_ne_self _⟩, fp, q⟩
    · obtain ⟨its, rv, p', hz⟩ := I1.tuple hq
      exact en_call (show s1.heap.IsTuple a its.toArray from p') fun h' he hit hsz hk => wpAny_pyIter_enum he ⟨_, _, _, _, H1, rfl, I1.kept (t' := s1.toks) hk, en_turn a (s1.heap.objs.size + 1) s1.heap.objs.size, ⟨⟨.none, he⟩, hit, Nat.succ_ne_self _⟩, fp, q⟩
/-- pairs of a number and an item -/
def enumD : Nat → List D → List D
  | _, [] => []
  | n, x :: xs => .tup [.int n, x] :: enumD (n + 1) xs
theorem enumD_len : ∀ (xs : List D) (n : Nat), (enumD n xs).length = xs.length
  | [], _ => rfl
  | _ :: xs, n => congrArg (· + 1) (enumD_len xs (n + 1))
theorem enumD_get : ∀ (xs : List D) (n i : Nat) (d : D), (enumD n xs)[i]? = some d → ∃ x, xs[i]? = some x ∧ d = .tup [.int ((n + i : Nat) : Int), x]
  | [], n, i, d, h => by simp [enumD] at h
  | x :: xs, n, 0, d, h => ⟨x, rfl, (Option.some.inj h).symm⟩
  | x :: xs, n, i + 1, d, h => by
    obtain ⟨y, h1, h2⟩ := enumD_get xs (n + 1) i d h
    exact ⟨y, h1, by rw [h2, show n + 1 + i = n + (i + 1) by omega]⟩
def dEnum (fa : DA) : DI := fun X ρ Q => fa X ρ fun ss ρ' => match ss with
  | [.dat (.tup a)] => Q (enumD 0 a) ρ'
  | [.dat (.lst a)] => Q (enumD 0 a) ρ'
  | _ => False
theorem di_enum {X : Cx} {W : WX} {e : Expr} {fa : DA} {p pos tpos : Pos} {elts : List Expr} {kk : Nat} (hm : X.mg "enumerate" = none) (ha : PA X [e] (lA X.K W fa)) (hg : Gl X "enumerate" := by rfl) (hs : starEach [e] X.env = [(false, eval e X.env)] := by rfl) :
    PI X (.Tuple elts kk tpos) (.Call (.Name "enumerate" p) [e] [] pos) (lI X.K W (dEnum fa)) :=
  pi_imp (pi_enA hg hm ha hs) fun σ H R ⟨ρ, G, la, P, XX, r, h, q, xo⟩ => ⟨ρ, G, la, _, XX, r, h, fun xs ρ1 vs G1 la1 H1 p1 a1 z1 => by
    have p1' : (match (generalizing := false) xs with
      | [.dat (.tup a)] => P (enumD 0 a) ρ1
      | [.dat (.lst a)] => P (enumD 0 a) ρ1
      | _ => False) := p1
    split at p1'
    · rename_i da
      cases z1 with
      | cons a b =>
        cases b
        cases (show Dp _ _ _ (.tup da) from a) with
        | tup ha lz ra =>
          rename_i pa va
          refine ⟨pa, va, rfl, .inr ⟨same_t a1.r.ext ha, q _ _ _ _ _ _ p1' a1 ⟨fun i H hi e => ?_, fun H e => ?_, fun i G' H x H' e e' y z hz => ?_⟩ ?_⟩⟩
          · rw [enumD_len] at hi
            have h1 : i < va.length := by rw [ra.len]; exact hi
            exact ⟨va, va[i], same_t e ha, by simp [h1]⟩
          · exact ⟨va, same_t e ha, by rw [enumD_len, ra.len]; exact Nat.le_refl _⟩
          · obtain ⟨T, u, rfl, hT, rfl, f1⟩ := y
            obtain ⟨dx, h1, rfl⟩ := enumD_get _ _ _ _ hz
            obtain ⟨d1, g1, k1⟩ := ra.getV (f1 va (same_t (e.trans e') ha))
            rw [h1] at g1
            have q1 := Option.some.inj g1
            subst q1
            rw [Nat.zero_add]
            exact pair_dp e' hT (.int _) (k1.up e)
          · rw [enumD_len, ← ra.len]
            exact Nat.le_trans lz line62
    · rename_i da
      cases z1 with
      | cons a b =>
        cases b
        cases (show Dp _ _ _ (.lst da) from a) with
        | lst ha lz ra =>
          rename_i pa va
          refine ⟨pa, va, rfl, .inl ⟨SqL.of (a1.r.ext _ _ ha), q _ _ _ _ _ _ p1' a1 ⟨fun i H hi e => ?_, fun H e => ?_, fun i G' H x H' e e' y z hz => ?_⟩ ?_⟩⟩
          · rw [enumD_len] at hi
            have h1 : i < va.length := by rw [ra.len]; exact hi
            exact ⟨va, va[i], SqL.of (e _ _ ha), by simp [h1]⟩
          · exact ⟨va, SqL.of (e _ _ ha), by rw [enumD_len, ra.len]; exact Nat.le_refl _⟩
          · obtain ⟨T, u, rfl, hT, rfl, f1⟩ := y
            obtain ⟨dx, h1, rfl⟩ := enumD_get _ _ _ _ hz
            obtain ⟨d1, g1, k1⟩ := ra.getV (f1 va (SqL.of (e' _ _ (e _ _ ha))))
            rw [h1] at g1
            have q1 := Option.some.inj g1
            subst q1
            rw [Nat.zero_add]
            exact pair_dp e' hT (.int _) (k1.up e)
          · rw [enumD_len, ← ra.len]
            exact Nat.le_trans lz line62
    · exact p1'.elim, xo⟩
end DL
set_option Elab.async false
set_option linter.all false
set_option maxRecDepth 100000
set_option maxHeartbeats 4000000
set_option autoImplicit false
/-! The data level: what was left: - of ints, is of bools, list * int, max with a default, fresh lists, three names at once; names of built-ins. -/
namespace DL
open PySem PySem.Spec PyProof.Rows L2

theorem bt_int : bootBuiltins "int" = some (.type "int") := by decide +kernel
theorem bt_bool : bootBuiltins "bool" = some (.type "bool") := by decide +kernel
theorem bt_str : bootBuiltins "str" = some (.type "str") := by decide +kernel
theorem bt_tuple : bootBuiltins "tuple" = some (.type "tuple") := by decide +kernel
theorem bt_list : bootBuiltins "list" = some (.type "list") := by decide +kernel
theorem bt_isinstance : bootBuiltins "isinstance" = some (.builtin "isinstance") := by decide +kernel
theorem bt_abs : bootBuiltins "abs" = some (.builtin "abs") := by decide +kernel
theorem bt_max : bootBuiltins "max" = some (.builtin "max") := by decide +kernel
theorem bt_min : bootBuiltins "min" = some (.builtin "min") := by decide +kernel

section
variable {X : Cx} {W : WX}
theorem de_neg {a : Expr} {fa : DE} {pos : Pos} (ha : PE X a (lE X.K W fa)) : PE X (.UnaryOp .USub a pos) (lE X.K W (dUn gNeg fa)) := de_un un_neg (fun G H x d P Q sm dx gp k => by
  unfold gNeg at gp
  split at gp
  · cases dx
    exact ⟨_, rfl, k _ _ _ _ gp (Grow.refl sm) (.int _)⟩
  · exact gp.elim) ha
end
/-! ### is, is not of bools -/
def gIsB : D → D → (D → Prop) → Prop
  | .bl a, .bl b, P => P (.bl (decide (a = b)))
  | _, _, _ => False
def gNotB : D → D → (D → Prop) → Prop
  | .bl a, .bl b, P => P (.bl (!decide (a = b)))
  | _, _, _ => False
theorem g_isB {K : PySem.W.Frag} : GOp K rIsB gIsB := by
  intro G H x y d e P Q sm dx dy gp k
  unfold gIsB at gp
  split at gp
  · cases dx
    cases dy
    exact ⟨_, _, rfl, rfl, k _ _ _ _ gp (Grow.refl sm) (.bl _)⟩
  · exact gp.elim
theorem g_notB {K : PySem.W.Frag} : GOp K rNotB gNotB := by
  intro G H x y d e P Q sm dx dy gp k
  unfold gNotB at gp
  split at gp
  · cases dx
    cases dy
    exact ⟨_, _, rfl, rfl, k _ _ _ _ gp (Grow.refl sm) (.bl _)⟩
  · exact gp.elim
/-! ### * : ints, tuples, lists -/
def rMulB (K : PySem.W.Frag) : R2 := fun x y H Q => rMulA K x y H Q ∨ rRep x y H Q
theorem op_mulB {X : Cx} : OpR X (binaryOp .Mult) (rMulB X.K) := op_mulA.or op_rep
def gMulB : D → D → (D → Prop) → Prop
  | .int i, .int j, P => CMulW i j ∧ P (.int (i * j))
  | .tup xs, .int k, P => (-1000 ≤ k ∧ k ≤ 1000 ∧ xs.length ≤ 1000) ∧ P (.tup (List.replicate k.toNat xs).flatten)
  | .lst xs, .int k, P => (-1000 ≤ k ∧ k ≤ 1000 ∧ xs.length ≤ 1000) ∧ P (.lst (List.replicate k.toNat xs).flatten)
  | _, _, _ => False
theorem g_mulB {K : PySem.W.Frag} : GOp K (rMulB K) gMulB := by
  intro G H x y d e P Q sm dx dy gp k
  unfold gMulB at gp
  split at gp
  · exact .inl (g_mulA G H x y _ _ P Q sm dx dy gp k)
  · exact .inl (g_mulA G H x y _ _ P Q sm dx dy gp k)
  · cases dy
    cases dx with
    | lst a l r =>
      rename_i xs kk p vs
      obtain ⟨⟨b1, b2, b3⟩, p1⟩ := gp
      have lz := rep_len (xs := vs) b2 (by rw [r.len]; exact b3)
      refine .inr ⟨_, kk, vs, rfl, rfl, sm _ _ a, by omega, by omega, ?_, fun q hq => k _ _ _ _ p1 (Grow.new sm hq) (.lst upd_same lz ((r.rep _).up (Grow.new sm hq).g))⟩
      rw [PyProof.Rows.lm_len_rep_flat, Nat.mul_comm] at lz
      exact lz
  · exact gp.elim
/-! ### a list that may be changed, by list(..) -/
def dNewOf (fa : DA) : DL' := fun X ρ Q => fa X ρ fun xs ρ' => match xs with
  | [.dat (.tup ds)] => Q (.ob ρ'.T.length) ⟨ρ'.T ++ [.lst ds], ρ'.s⟩
  | [.dat (.lst ds)] => Q (.ob ρ'.T.length) ⟨ρ'.T ++ [.lst ds], ρ'.s⟩
  | _ => False
section
variable {X : Cx} {W : WX}
theorem newOf_core {K : PySem.W.Frag} {G1 H1 : Hp} {la1 : List Addr} {σ : L2.St} {ρ1 : Env} {p : Addr} {vs : List V} {ds : List D} (r : Re K G1 H1 la1 σ ρ1) (hp : H1 p = none) (l : vs.length ≤ sizeLine) (d : Dps K G1 vs ds) :
    Re K G1 (upd H1 p (.lst vs)) (la1 ++ [p]) σ ⟨ρ1.T ++ [.lst ds], ρ1.s⟩ ∧ SlR K G1 (la1 ++ [p]) (.ref p) (.ob ρ1.T.length) := by
  refine ⟨⟨r.tb.fresh hp l d, r.sl, fun j y hj => ?_⟩, p, ?_, rfl⟩
  · obtain ⟨u, hu, ru⟩ := r.at_ j y hj
    exact ⟨u, hu, ru.grow (Same.refl _) (List.prefix_append _ _)⟩
  · rw [← r.tb.len, List.getElem?_append_right (Nat.le_refl _)]
    simp
theorem dl_listN {e : Expr} {p pos : Pos} {fa : DA} (hm : X.mg "list" = none) (ha : PA X [e] (lA X.K W fa)) (hgl : Gl X "list" := by rfl) (he : starEach [e] X.env = (false, eval e X.env) :: starEach [] X.env := by rfl) (hpl : (backTo pos (starEach [] X.env)).any (·.1) = false := by rfl) :
    PE X (.Call (.Name "list" p) [e] [] pos) (lL X.K W (dNewOf fa)) :=
  pe_imp (pe_callTy call_list_of hgl hm bt_list ha (by decide) (by decide) he hpl) fun σ H Q ⟨ρ, G, la, P, XX, re, h, q, xo⟩ =>
  ⟨ρ, G, la, _, XX, re, h, fun xs ρ1 vs G1 la1 H1 p1 a1 z1 => by
    have p1' : (match (generalizing := false) xs with
      | [.dat (.tup ds)] => P (.ob ρ1.T.length) ⟨ρ1.T ++ [.lst ds], ρ1.s⟩
      | [.dat (.lst ds)] => P (.ob ρ1.T.length) ⟨ρ1.T ++ [.lst ds], ρ1.s⟩
      | _ => False) := p1
    split at p1'
    · rename_i ds
      cases z1 with
      | cons a b =>
        cases b
        cases (show Dp _ _ _ (.tup ds) from a) with
        | tup ha l r =>
          refine ⟨_, _, rfl, .inr (same_t a1.r.ext ha), fun p hp => ?_⟩
          obtain ⟨c1, c2⟩ := newOf_core a1.r hp l r
          exact q _ _ _ G1 (la1 ++ [p]) _ p1' ⟨a1.g, a1.p.trans (List.prefix_append _ _), c1⟩ c2
    · rename_i ds
      cases z1 with
      | cons a b =>
        cases b
        cases (show Dp _ _ _ (.lst ds) from a) with
        | lst ha l r =>
          refine ⟨_, _, rfl, .inl (SqL.of (a1.r.ext _ _ ha)), fun p hp => ?_⟩
          obtain ⟨c1, c2⟩ := newOf_core a1.r hp l r
          exact q _ _ _ G1 (la1 ++ [p]) _ p1' ⟨a1.g, a1.p.trans (List.prefix_append _ _), c1⟩ c2
    · exact p1'.elim, xo⟩
/-- three names at once -/
theorem ds_par3 (i j l : Nat) {x y z : Str} {a b c : Expr} {f g h : DL'} {px py pz pt pos : Pos} {kt k2 pt2} (hc : X.calm = true) (hN : X.N.Nodup) (ha : PA X [a, b, c] (lA X.K W (dCons f (dCons g (dCons h dNil))))) (hw : swappedStores [.Tuple [.Name x px, .Name y py, .Name z pz] kt pt] (.Tuple [a, b, c] k2 pt2) X.env = pure (some [x, y, z]) := by rfl)
    (hi : X.N[i]? = some x := by rfl) (hj : X.N[j]? = some y := by rfl) (hl : X.N[l]? = some z := by rfl) (hij : i ≠ j := by decide) (hil : i ≠ l := by decide) (hjl : j ≠ l := by decide) (hx : X.env.scope.names.lookup x = some .local := by rfl) (hy : X.env.scope.names.lookup y = some .local := by rfl) (hz : X.env.scope.names.lookup z = some .local := by rfl)
    (hs : swapsWithSole [.Tuple [.Name x px, .Name y py, .Name z pz] kt pt] (.Tuple [a, b, c] k2 pt2) pos.line X.env = pure false := by rfl) : PS X (.Assign [.Tuple [.Name x px, .Name y py, .Name z pz] kt pt] (.Tuple [a, b, c] k2 pt2) pos) (lS X.K W (sPar3 i j l f g h)) :=
  ps_imp (ps_par3 hc hN hi hj hl hij hil hjl hx hy hz ha hw hs) fun D σ H ⟨ρ, G, la, E, r, hh, b⟩ => ⟨ρ, G, la, fun xs ρ2 => ∃ u v w, xs = [u, v, w] ∧ E.nx ⟨ρ2.T, ((ρ2.s.set i (some u)).set j (some v)).set l (some w)⟩, _, r, by
    show f E.xn ρ fun x ρ1 => g E.xn ρ1 fun y ρ2 => h E.xn ρ2 fun z ρ3 => ∃ u v w, [x, y, z] = [u, v, w] ∧ E.nx ⟨ρ3.T, ((ρ3.s.set i (some u)).set j (some v)).set l (some w)⟩
    have e : (fun (x : Sl) (ρ1 : Env) => g E.xn ρ1 fun y ρ2 => h E.xn ρ2 fun z ρ3 => ∃ u v w, [x, y, z] = [u, v, w] ∧ E.nx ⟨ρ3.T, ((ρ3.s.set i (some u)).set j (some v)).set l (some w)⟩) = fun x ρ1 => g E.xn ρ1 fun y ρ2 => h E.xn ρ2 fun z ρ3 => E.nx ⟨ρ3.T, ((ρ3.s.set i (some x)).set j (some y)).set l (some z)⟩ := by
      funext x ρ1
      congr 1
      funext y ρ2
      congr 1
      funext z ρ3
      apply propext
      constructor
      · rintro ⟨u, v, w, h1, h2⟩
        cases h1
        exact h2
      · intro h2
        exact ⟨x, y, z, rfl, h2⟩
    rw [e]
    exact hh, fun xs ρ2 vs G2 la2 H2 p a z => by
    obtain ⟨u, v, w, rfl, p⟩ := p
    cases z with
    | cons z1 z =>
      cases z with
      | cons z2 z =>
        cases z with
        | cons z3 z =>
          cases z
          exact ⟨_, _, _, rfl, b.nx _ _ _ _ _ p ⟨a.g, a.p, ((a.r.set z1).set (ρ := ⟨ρ2.T, ρ2.s.set i (some u)⟩) z2).set (ρ := ⟨ρ2.T, (ρ2.s.set i (some u)).set j (some v)⟩) z3⟩⟩, b.xn⟩
end
end DL
set_option Elab.async false
set_option linter.all false
set_option maxRecDepth 100000
set_option maxHeartbeats 4000000
set_option autoImplicit false
/-! The data level: lemmas for walking by simp. -/
namespace DL
open PySem PySem.Spec PyProof.Rows L2
theorem valK_dat (Q : D → Env → Prop) (d : D) (ρ : Env) : @valK ⟨Q⟩ (.dat d) ρ = Q d ρ := rfl
theorem valK_ob (Q : D → Env → Prop) (k : Nat) (ρ : Env) : @valK ⟨Q⟩ (.ob k) ρ = match ρ.T[k]? with
    | some (.lst xs) => Q (.lst xs) ⟨ρ.T.set k .dead, ρ.s⟩
    | _ => False := rfl
/-! ### places of short lists -/
section
variable {α : Type}
theorem atI_nat (xs : List α) (i : Nat) : atI xs (i : Int) = xs[i]? := by
  unfold atI ixN
  by_cases h : (i : Int) < xs.length
  · rw [if_pos (by omega), if_pos h]
    rfl
  · rw [if_pos (by omega), if_neg h]
    show none = _
    rw [List.getElem?_eq_none (by omega)]
theorem atI_0 (x : α) (r : List α) : atI (x :: r) 0 = some x := atI_nat (x :: r) 0
theorem atI_1 (x y : α) (r : List α) : atI (x :: y :: r) 1 = some y := atI_nat (x :: y :: r) 1
theorem atI_2 (x y z : α) (r : List α) : atI (x :: y :: z :: r) 2 = some z := atI_nat (x :: y :: z :: r) 2
theorem atI_last (xs : List α) (x : α) : atI (xs ++ [x]) (-1) = some x := by
  unfold atI ixN
  rw [if_neg (by omega), if_pos (by simp; omega)]
  show (xs ++ [x])[(((xs ++ [x]).length : Int) + -1).toNat]? = some x
  rw [show (((xs ++ [x]).length : Int) + -1).toNat = xs.length by simp; omega]
  simp
theorem atI_pos {xs : List α} {i : Int} (h : 0 ≤ i) : atI xs i = xs[i.toNat]? := by
  have := atI_nat xs i.toNat
  rwa [Int.toNat_of_nonneg h] at this
theorem atI_some {xs : List α} {i : Int} (h : 0 ≤ i) (h2 : i < xs.length) : atI xs i = some (xs[i.toNat]'(by omega)) := by
  rw [atI_pos h, List.getElem?_eq_getElem]
theorem ixN_pos {n : Nat} {i : Int} (h : 0 ≤ i) (h2 : i < n) : ixN n i = some i.toNat := by
  unfold ixN
  rw [if_pos h, if_pos h2]
theorem ixN_20 : ixN 2 0 = some 0 := rfl
theorem ixN_21 : ixN 2 1 = some 1 := rfl
theorem atI_map' (f : Int → D) (xs : List Int) (i : Int) : atI (xs.map f) i = (atI xs i).map f := by
  unfold atI
  rw [List.length_map]
  cases ixN xs.length i with
  | none => rfl
  | some j => simp
theorem set_last (T : List α) (x y : α) : (T ++ [x]).set T.length y = T ++ [y] := by simp
theorem get_last (T : List α) (x : α) : (T ++ [x])[T.length]? = some x := by simp
theorem take_last (T : List α) (x : α) : (T ++ [x]).take T.length = T := by simp
end
/-! ### equality of data -/
theorem deq_str (a b : Str) : deq (.str a) (.str b) = (a == b) := by simp [deq, toP, PyData.eqv]
theorem deq_int (a b : Int) : deq (.int a) (.int b) = (a == b) := by simp [deq, toP, PyData.eqv]
theorem deq_non : deq .non .non = true := by simp [deq, toP, PyData.eqv]
theorem deq_bl (a b : Bool) : deq (.bl a) (.bl b) = (a == b) := by simp [deq, toP, PyData.eqv]
theorem deq_tt (a b : List D) : deq (.tup a) (.tup b) = deqs a b := by simp [deq, deqs, toP, PyData.eqv]
theorem deq_ll (a b : List D) : deq (.lst a) (.lst b) = deqs a b := by simp [deq, deqs, toP, PyData.eqv]
theorem deqs_nn : deqs [] [] = true := by simp [deqs, toPs, PyData.eqvAll]
theorem deqs_cc (a b : D) (r s : List D) : deqs (a :: r) (b :: s) = (deq a b && deqs r s) := by simp [deq, deqs, toPs, PyData.eqvAll]
theorem deqs_nc (b : D) (s : List D) : deqs [] (b :: s) = false := by simp [deqs, toPs, PyData.eqvAll]
theorem deqs_cn (b : D) (s : List D) : deqs (b :: s) [] = false := by simp [deqs, toPs, PyData.eqvAll]
theorem deq_sn (a : Str) : deq (.str a) .non = false := by simp [deq, toP, PyData.eqv]
theorem deq_ni (a : Int) : deq .non (.int a) = false := by simp [deq, toP, PyData.eqv]
theorem deq_in (a : Int) : deq (.int a) .non = false := by simp [deq, toP, PyData.eqv]
theorem deq_tn (a : List D) : deq (.tup a) .non = false := by simp [deq, toP, PyData.eqv]
theorem deq_nt (a : List D) : deq .non (.tup a) = false := by simp [deq, toP, PyData.eqv]
mutual
theorem eqvP_refl : ∀ (n : Nat) (d : D), okd n d = true → PyData.eqv (toP d) (toP d) = true
  | _, .non, _ => by simp [toP, PyData.eqv]
  | _, .bl b, _ => by simp [toP, PyData.eqv]
  | _, .int b, _ => by simp [toP, PyData.eqv]
  | _, .str b, _ => by simp [toP, PyData.eqv]
  | n, .raw _, h => by simp [okd] at h
  | 0, .tup xs, h => by simp [okd] at h
  | n + 1, .tup xs, h => by
    simp only [okd] at h
    simp only [toP, PyData.eqv]
    exact eqvPs_refl n xs h
  | 0, .lst xs, h => by simp [okd] at h
  | n + 1, .lst xs, h => by
    simp only [okd] at h
    simp only [toP, PyData.eqv]
    exact eqvPs_refl n xs h
  | n, .scr ns, h => by
    simp only [toP, PyData.eqv]
    clear h
    induction ns with
    | nil => simp [PyData.eqvAll]
    | cons x r ih => simp [PyData.eqvAll, PyData.eqv, ih]
theorem eqvPs_refl : ∀ (n : Nat) (ds : List D), okds n ds = true → PyData.eqvAll (toPs ds) (toPs ds) = true
  | _, [], _ => by simp [toPs, PyData.eqvAll]
  | n, d :: ds, h => by
    simp only [okds, Bool.and_eq_true] at h
    simp only [toPs, PyData.eqvAll, Bool.and_eq_true]
    exact ⟨eqvP_refl n d h.1, eqvPs_refl n ds h.2⟩
end
theorem deq_refl {d : D} (n : Nat) (h : okd n d = true) : deq d d = true := eqvP_refl n d h
mutual
theorem okd_up : ∀ (n : Nat) (d : D), okd n d = true → okd (n + 1) d = true
  | _, .non, _ => by simp [okd]
  | _, .bl b, _ => by simp [okd]
  | _, .int b, _ => by simp [okd]
  | _, .str b, _ => by simp [okd]
  | n, .raw _, h => by simp [okd] at h
  | 0, .tup xs, h => by simp [okd] at h
  | n + 1, .tup xs, h => by
    simp only [okd] at h ⊢
    exact okds_up n xs h
  | 0, .lst xs, h => by simp [okd] at h
  | n + 1, .lst xs, h => by
    simp only [okd] at h ⊢
    exact okds_up n xs h
  | n, .scr ns, h => by simp [okd] at h
theorem okds_up : ∀ (n : Nat) (ds : List D), okds n ds = true → okds (n + 1) ds = true
  | _, [], _ => by simp [okds]
  | n, d :: ds, h => by
    simp only [okds, Bool.and_eq_true] at h ⊢
    exact ⟨okd_up n d h.1, okds_up n ds h.2⟩
end
theorem okd_le {n m : Nat} {d : D} (h : okd n d = true) (l : n ≤ m) : okd m d = true := by
  induction l with
  | refl => exact h
  | step _ ih => exact okd_up _ _ ih
theorem okds_iff (n : Nat) : ∀ ds : List D, okds n ds = true ↔ ∀ d ∈ ds, okd n d = true
  | [] => by simp [okds]
  | d :: ds => by simp [okds, okds_iff n ds]
theorem okd_item {n : Nat} {ds : List D} {d : D} (h : okd (n + 1) (.tup ds) = true) (m : d ∈ ds) : okd (n + 1) d = true := by
  simp only [okd] at h
  exact okd_up _ _ ((okds_iff n ds).mp h d m)
theorem okd_itemL {n : Nat} {ds : List D} {d : D} (h : okd (n + 1) (.lst ds) = true) (m : d ∈ ds) : okd (n + 1) d = true := by
  simp only [okd] at h
  exact okd_up _ _ ((okds_iff n ds).mp h d m)
theorem okd_non (n : Nat) : okd n .non = true := by simp [okd]
theorem okd_bl (n : Nat) (b : Bool) : okd n (.bl b) = true := by simp [okd]
theorem okd_int (n : Nat) (i : Int) : okd n (.int i) = true := by simp [okd]
theorem okd_str (n : Nat) (x : Str) : okd n (.str x) = true := by simp [okd]
theorem okds_nil (n : Nat) : okds n [] = true := by simp [okds]
theorem okds_cons (n : Nat) (d : D) (r : List D) : okds n (d :: r) = (okd n d && okds n r) := by simp [okds]
theorem okd_60t (xs : List D) : okd 60 (.tup xs) = okds 59 xs := by simp [okd]
theorem okd_59t (xs : List D) : okd 59 (.tup xs) = okds 58 xs := by simp [okd]
theorem okd_58t (xs : List D) : okd 58 (.tup xs) = okds 57 xs := by simp [okd]
theorem okd_60l (xs : List D) : okd 60 (.lst xs) = okds 59 xs := by simp [okd]
theorem okd_59l (xs : List D) : okd 59 (.lst xs) = okds 58 xs := by simp [okd]
theorem okd_58l (xs : List D) : okd 58 (.lst xs) = okds 57 xs := by simp [okd]
theorem st_tk : (("to" : Str) == ("bark" : Str)) = false := by decide
theorem st_tb : (("to" : Str) == ("back" : Str)) = false := by decide
theorem st_tf : (("to" : Str) == ("front" : Str)) = false := by decide
theorem st_kt : (("bark" : Str) == ("to" : Str)) = false := by decide
theorem st_kb : (("bark" : Str) == ("back" : Str)) = false := by decide
theorem st_kf : (("bark" : Str) == ("front" : Str)) = false := by decide
theorem st_bt : (("back" : Str) == ("to" : Str)) = false := by decide
theorem st_bk : (("back" : Str) == ("bark" : Str)) = false := by decide
theorem st_bf : (("back" : Str) == ("front" : Str)) = false := by decide
theorem st_ft : (("front" : Str) == ("to" : Str)) = false := by decide
theorem st_fk : (("front" : Str) == ("bark" : Str)) = false := by decide
theorem st_fb : (("front" : Str) == ("back" : Str)) = false := by decide
theorem nat_num (n : Nat) : ((@OfNat.ofNat Nat n (instOfNatNat n) : Nat) : Int) = (@OfNat.ofNat Int n (@instOfNat n)) := rfl
/-! ### tuples of whole numbers -/
def tupI (xs : List Int) : D := .tup (xs.map .int)
theorem okds_ints (n : Nat) (xs : List Int) : okds n (xs.map .int) = true := by
  rw [okds_iff]
  intro d hd
  obtain ⟨x, _, rfl⟩ := List.mem_map.mp hd
  simp [okd]
theorem okd_tupI (n : Nat) (xs : List Int) : okd (n + 1) (tupI xs) = true := by
  simp only [tupI, okd]
  exact okds_ints n xs
theorem okd_tI (n : Nat) (xs : List Int) : okd (n + 1) (.tup (xs.map .int)) = true := okd_tupI n xs
theorem dat_tI (xs : List Int) : D.tup (xs.map .int) = tupI xs := rfl
theorem intsOf_map : ∀ xs : List Int, intsOf (xs.map .int) = some xs
  | [] => rfl
  | x :: r => by
    show (intsOf (r.map .int)).map (x :: ·) = _
    rw [intsOf_map r]
    rfl
theorem gIx_tupI (xs : List Int) (i : Int) (P : D → Prop) : gIx (tupI xs) (.int i) P = (match atI xs i with | some n => P (.int n) | none => False) := by
  show (match atI (xs.map .int) i with | some d => P d | none => False) = _
  rw [atI_map']
  cases atI xs i <;> rfl
theorem gLen_tupI (xs : List Int) (P : D → Prop) : gLen [tupI xs] P = P (.int xs.length) := by
  show P (.int (xs.map D.int).length) = _
  rw [List.length_map]
theorem cutL_map {α β : Type} (f : α → β) (xs : List α) (lo hi : Option Int) : cutL (xs.map f) lo hi = (cutL xs lo hi).map f := by
  unfold cutL
  rw [List.length_map, List.map_take, List.map_drop]
theorem gSl_tupI (xs : List Int) (lo hi : Option Int) (P : D → Prop) : gSl (tupI xs) lo hi P = P (tupI (cutL xs lo hi)) := by
  show P (.tup (cutL (xs.map D.int) lo hi)) = _
  rw [cutL_map]
  rfl
theorem gAdd_tupI (xs ys : List Int) (P : D → Prop) : gAdd (tupI xs) (tupI ys) P = (xs.length + ys.length ≤ sizeLine ∧ P (tupI (xs ++ ys))) := by
  show ((xs.map D.int).length + (ys.map D.int).length ≤ sizeLine ∧ P (.tup (xs.map D.int ++ ys.map D.int))) = _
  rw [List.length_map, List.length_map, ← List.map_append]
  rfl
theorem cut_to {α : Type} (xs : List α) {i : Int} (h : 0 ≤ i) (h2 : i ≤ xs.length) : cutL xs none (some i) = xs.take i.toNat := by
  unfold cutL
  rw [HT.sIx_none, show HT.sIx xs.length xs.length (some i) = min i.toNat xs.length by
    have := HT.sIx_nat xs.length xs.length i.toNat
    rwa [Int.toNat_of_nonneg h] at this]
  rw [show min i.toNat xs.length = i.toNat by omega]
  simp
theorem cut_from {α : Type} (xs : List α) {i : Int} (h : 0 ≤ i) : cutL xs (some i) none = xs.drop i.toNat := by
  unfold cutL
  rw [HT.sIx_none, show HT.sIx xs.length 0 (some i) = min i.toNat xs.length by
    have := HT.sIx_nat xs.length 0 i.toNat
    rwa [Int.toNat_of_nonneg h] at this]
  by_cases q : i.toNat ≤ xs.length
  · rw [Nat.min_eq_left q]
    rw [List.take_of_length_le]
    simp
  · rw [Nat.min_eq_right (by omega)]
    simp
    omega
/-! ### walks -/
theorem loop_inv {g : DG} {B : DS} {E : DN} (I : List D → Env → Prop) (step : ∀ d r ρ, I (d :: r) ρ → ∀ N : Env → Prop, (∀ ρ', I r ρ' → N ρ') → g d ρ fun ρ' => B { E with nx := N, ct := N, bk := E.nx } ρ') (done : ∀ ρ, I [] ρ → E.nx ρ) : ∀ (ds : List D) (ρ : Env), I ds ρ → loopD g B E ds ρ
  | [], ρ, h => done ρ h
  | d :: ds, ρ, h => step d ds ρ h (loopD g B E ds) fun ρ' h' => loop_inv I step done ds ρ' h'
theorem comp_inv {g : DG} {t : DT} {e : DE} {own : List Nat} {k : Nat} {T : List Ob} {s0 : List (Option Sl)} {Q : Env → Prop} (hk : k = T.length) (I : List D → List D → List Ob → Prop)
    (step : ∀ d r acc T', T'.length = k → acc.length + (d :: r).length ≤ sizeLine → I (d :: r) acc T' → ∀ R : Option D → Env → Prop, (∀ o T'' s', T''.length = k → I r (acc ++ o.toList) T'' → wipeS s' own = s0 → R o ⟨T'' ++ [.lst acc], s'⟩) →
      g d ⟨T' ++ [.lst acc], s0⟩ fun ρ1 => t X0 ρ1 fun b ρ2 => if b = true then e X0 ρ2 fun y ρ3 => R (some y) ρ3 else R none ρ2)
    (done : ∀ acc T' s', T'.length = k → I [] acc T' → wipeS s' own = s0 → Q ⟨T' ++ [.lst acc], s'⟩) : ∀ (ds acc : List D) (T' : List Ob) (s' : List (Option Sl)), T'.length = k → acc.length + ds.length ≤ sizeLine → I ds acc T' → wipeS s' own = s0 → compD g t e own k ds ⟨T' ++ [.lst acc], s'⟩ Q
  | [], acc, T', s', hl, _, h, hs => done acc T' s' hl h hs
  | d :: ds, acc, T', s', hl, hz, h, hs => by
    unfold compD
    simp only
    rw [hs]
    refine step d ds acc T' hl hz h (fun o ρ3 => match o with
      | some y => match ρ3.T[k]? with
        | some (.lst acc) => acc.length < sizeLine ∧ compD g t e own k ds ⟨ρ3.T.set k (.lst (acc ++ [y])), ρ3.s⟩ Q
        | _ => False
      | none => compD g t e own k ds ρ3 Q) ?_
    intro o T'' s'' hl2 h2 hs2
    rw [List.length_cons] at hz
    cases o with
    | none => exact comp_inv hk I step done ds acc T'' s'' hl2 (by omega) (by simpa using h2) hs2
    | some y =>
      show (match (T'' ++ [Ob.lst acc])[k]? with
        | some (.lst acc) => acc.length < sizeLine ∧ compD g t e own k ds ⟨(T'' ++ [Ob.lst _]).set k (.lst (acc ++ [y])), s''⟩ Q
        | _ => False)
      rw [← hl2, get_last]
      simp only
      rw [set_last, hl2]
      exact ⟨by omega, comp_inv hk I step done ds (acc ++ [y]) T'' s'' hl2 (by rw [List.length_append]; simp; omega) h2 hs2⟩
/-- a comprehension whose turns change nothing else -/
theorem dComp_pure {fi : DI} {g : DG} {t : DT} {e : DE} {own : List Nat} {X : XP} {ρ : Env} {Q : D → Env → Prop} (h : D → Option D) (ds : List D) (T : List Ob) (s s0 : List (Option Sl)) (hfi : ∀ P : List D → Env → Prop, P ds ⟨T, s⟩ → fi X ρ P)
    (hs : wipeS s own = s0) (hs2 : wipeS s0 own = s0) (hlow : lowS T.length s0 = true) (hz : ds.length ≤ sizeLine)
    (step : ∀ d ∈ ds, ∀ acc, ∀ R : Option D → Env → Prop, (∀ s', wipeS s' own = s0 → R (h d) ⟨T ++ [.lst acc], s'⟩) → g d ⟨T ++ [.lst acc], s0⟩ fun ρ1 => t X0 ρ1 fun b ρ2 => if b = true then e X0 ρ2 fun y ρ3 => R (some y) ρ3 else R none ρ2)
    (q : Q (.lst (ds.filterMap h)) ⟨T, s0⟩) : dComp fi g t e own X ρ Q := by
  unfold dComp
  apply hfi
  simp only
  rw [hs]
  refine comp_inv rfl (fun r acc T' => T' = T ∧ (∀ d ∈ r, d ∈ ds) ∧ acc ++ r.filterMap h = ds.filterMap h) ?_ ?_ ds [] T s0 rfl (by simpa using hz) ⟨rfl, fun d h => h, rfl⟩ hs2
  · rintro d r acc T' hl hz ⟨rfl, hm, he⟩ R hR
    refine step d (hm d List.mem_cons_self) acc R fun s' hs' => hR _ _ _ rfl ⟨rfl, fun d' m => hm d' (List.mem_cons_of_mem _ m), ?_⟩ hs'
    rw [← he, List.filterMap_cons]
    cases h d <;> simp
  · rintro acc T' s' hl ⟨rfl, hm, he⟩ hs'
    simp only [List.filterMap_nil, List.append_nil] at he
    rw [get_last]
    simp only
    rw [hs', take_last, he]
    exact ⟨hlow, q⟩
/-- a comprehension whose turns change lists -/
theorem dComp_any {fi : DI} {g : DG} {t : DT} {e : DE} {own : List Nat} {X : XP} {ρ : Env} {Q : D → Env → Prop} (I : List D → List D → List Ob → Prop) (ds : List D) (T : List Ob) (s s0 : List (Option Sl)) (hfi : ∀ P : List D → Env → Prop, P ds ⟨T, s⟩ → fi X ρ P)
    (hs : wipeS s own = s0) (hs2 : wipeS s0 own = s0) (hlow : lowS T.length s0 = true) (hz : ds.length ≤ sizeLine) (h0 : I ds [] T)
    (step : ∀ d r acc T', T'.length = T.length → acc.length + (d :: r).length ≤ sizeLine → I (d :: r) acc T' → ∀ R : Option D → Env → Prop, (∀ o T'' s', T''.length = T.length → I r (acc ++ o.toList) T'' → wipeS s' own = s0 → R o ⟨T'' ++ [.lst acc], s'⟩) →
      g d ⟨T' ++ [.lst acc], s0⟩ fun ρ1 => t X0 ρ1 fun b ρ2 => if b = true then e X0 ρ2 fun y ρ3 => R (some y) ρ3 else R none ρ2)
    (q : ∀ acc T', T'.length = T.length → I [] acc T' → Q (.lst acc) ⟨T', s0⟩) : dComp fi g t e own X ρ Q := by
  unfold dComp
  apply hfi
  simp only
  rw [hs]
  refine comp_inv rfl I step ?_ ds [] T s0 rfl (by simpa using hz) h0 hs2
  intro acc T' s' hl hI hs'
  simp only
  rw [← hl, get_last]
  simp only
  rw [hs', take_last, hl]
  exact ⟨hlow, q acc T' hl hI⟩
def compK (g : DG) (t : DT) (e : DE) (own : List Nat) (Q : D → Env → Prop) : List D → Env → Prop := fun ds ρ1 => compD g t e own ρ1.T.length ds ⟨ρ1.T ++ [.lst []], wipeS ρ1.s own⟩ fun ρ2 => match ρ2.T[ρ1.T.length]? with
  | some (.lst acc) => lowS ρ1.T.length (wipeS ρ2.s own) = true ∧ Q (.lst acc) ⟨ρ2.T.take ρ1.T.length, wipeS ρ2.s own⟩
  | _ => False
def compC [h : Kept (D → Env → Prop)] (g : DG) (t : DT) (e : DE) (own : List Nat) : List D → Env → Prop := compK g t e own h.q
theorem dComp_eq (fi : DI) (g : DG) (t : DT) (e : DE) (own : List Nat) (X : XP) (ρ : Env) (Q : D → Env → Prop) : dComp fi g t e own X ρ Q = fi X ρ (@compC ⟨Q⟩ g t e own) := rfl
theorem compK_any {g : DG} {t : DT} {e : DE} {own : List Nat} {Q : D → Env → Prop} (I : List D → List D → List Ob → Prop) {ds : List D} {T : List Ob} {s : List (Option Sl)} (s0 : List (Option Sl))
    (hs : wipeS s own = s0) (hs2 : wipeS s0 own = s0) (hlow : lowS T.length s0 = true) (hz : ds.length ≤ sizeLine) (h0 : I ds [] T)
    (step : ∀ d r acc T', T'.length = T.length → acc.length + (d :: r).length ≤ sizeLine → I (d :: r) acc T' → ∀ R : Option D → Env → Prop, (∀ o T'' s', T''.length = T.length → I r (acc ++ o.toList) T'' → wipeS s' own = s0 → R o ⟨T'' ++ [.lst acc], s'⟩) →
      g d ⟨T' ++ [.lst acc], s0⟩ fun ρ1 => t X0 ρ1 fun b ρ2 => if b = true then e X0 ρ2 fun y ρ3 => R (some y) ρ3 else R none ρ2)
    (q : ∀ acc T', T'.length = T.length → I [] acc T' → Q (.lst acc) ⟨T', s0⟩) : compK g t e own Q ds ⟨T, s⟩ :=
  dComp_any (fi := fun _ ρ P => P ds ⟨T, s⟩) (X := X0) (ρ := ⟨T, s⟩) I ds T s s0 (fun _ h => h) hs hs2 hlow hz h0 step q
theorem compK_pure {g : DG} {t : DT} {e : DE} {own : List Nat} {Q : D → Env → Prop} (h : D → Option D) {ds : List D} {T : List Ob} {s : List (Option Sl)} (s0 : List (Option Sl))
    (hs : wipeS s own = s0) (hs2 : wipeS s0 own = s0) (hlow : lowS T.length s0 = true) (hz : ds.length ≤ sizeLine)
    (step : ∀ d ∈ ds, ∀ acc, ∀ R : Option D → Env → Prop, (∀ s', wipeS s' own = s0 → R (h d) ⟨T ++ [.lst acc], s'⟩) → g d ⟨T ++ [.lst acc], s0⟩ fun ρ1 => t X0 ρ1 fun b ρ2 => if b = true then e X0 ρ2 fun y ρ3 => R (some y) ρ3 else R none ρ2)
    (q : Q (.lst (ds.filterMap h)) ⟨T, s0⟩) : compK g t e own Q ds ⟨T, s⟩ :=
  dComp_pure (fi := fun _ ρ P => P ds ⟨T, s⟩) (X := X0) (ρ := ⟨T, s⟩) h ds T s s0 (fun _ h => h) hs hs2 hlow hz step q
theorem take_len {α : Type} {T T' : List α} (h : T'.length = T.length) : T'.take T.length = T' := List.take_of_length_le (by omega)
end DL
set_option Elab.async false
set_option linter.all false
set_option maxRecDepth 100000
set_option maxHeartbeats 4000000
set_option autoImplicit false
/-! max(xs, default=d). -/
namespace PySem
theorem mxd_args (a d : Value) : argsOk "max" ⟨[a], [("default", d)]⟩ := by
  unfold argsOk
  kernel_rfl
section
variable {prog : Program} {w : World} {A : Around} {R : Result → Shared → Prop} {I : Addr} {fp wr : List Addr} {n : Nat} {P : Nat → Value → Prop} {St : Nat → Heap → Prop}
theorem mxd_loop (Wk : Walks prog w A.in1 I fp wr n P St) (lt : Nat → Nat → Bool) (cmp : CmpOf prog w A.in1 .Gt P lt) (S : Addr) (nS : S ∉ fp) (d : Value) :
    ∀ (m j : Nat) (s : Shared) (its : Array Value) (cc : Nat), n - j = m → j ≤ n → St j s.heap → ((j = 0 ∧ its = #[]) ∨ (∃ vb, 0 < j ∧ P (argBest lt (j - 1)) vb ∧ its = #[vb, vb])) → s.heap.get? S = some { cls := .type "list", dict := none, data := .seq its cc, slots := #[] } →
    (∀ (v : Value) (h2 : Heap) (tk : Nat), ((n = 0 ∧ v = d) ∨ (0 < n ∧ P (argBest lt (n - 1)) v)) → (∀ b o, b ∉ wr → b ≠ S → s.heap.get? b = some o → h2.get? b = some o) → R (.ok (.ret v)) { s with heap := h2, toks := tk }) →
    codeAny (model prog w) A (.builtin "max.loop" ⟨[.ref I, .none, .ref S], [("default", d)]⟩) R s := by
  have nw : S ∉ wr := fun z => nS (Wk.sub _ z)
  have nm : (toString "max" ++ toString ".loop" : String) = "max.loop" := by decide
  intro m
  induction m with
  | zero =>
    intro j s its cc hm hj st hb hS hR
    have hn : j = n := by omega
    subst hn
    refine codeAny_builtin F.entry_max_loop ?_
    rw [Around.under_plainId F.plain_max_loop _]
    show wpAny _ A.in1 (seqItems? (.ref S) >>= _) _ _ s
    refine wpAny_bind (wpAny_seqItems hS rfl ?_)
    show wpAny _ A.in1 (tryCatch (pyNext (.ref I)) _ >>= _) _ _ s
    refine wpAny_bind (wpAny_tryCatch (Wk.done s _ _ st fun h2 tk kp => ?_))
    have hS2 := kp S _ nw hS
    rcases hb with ⟨rfl, rfl⟩ | ⟨vb, j0, hp, rfl⟩
    · show wpAny _ A.in1 (rule _ >>= _) _ _ _
      refine wpAny_bind (wpAny_rule (wpAny_pure ?_))
      exact hR d h2 tk (.inl ⟨rfl, rfl⟩) fun b o x1 x2 e => kp b o x1 e
    · show wpAny _ A.in1 (updateSeq S (fun _ => #[]) >>= _) _ _ _
      refine wpAny_bind ?_
      refine wpAny_updateSeq hS2 rfl (wpAny_bind (wpAny_letGo (wpAny_pure ?_)))
      exact hR vb _ tk (.inr ⟨j0, hp⟩) fun b o x1 x2 e => (Heap.get?_update_other _ _ (Ne.symm x2)).trans (kp b o x1 e)
  | succ m ih =>
    intro j s its cc hm hj st hb hS hR
    have jn : j < n := by omega
    refine codeAny_builtin F.entry_max_loop ?_
    rw [Around.under_plainId F.plain_max_loop _]
    show wpAny _ A.in1 (seqItems? (.ref S) >>= _) _ _ s
    refine wpAny_bind (wpAny_seqItems hS rfl ?_)
    show wpAny _ A.in1 (tryCatch (pyNext (.ref I)) _ >>= _) _ _ s
    refine wpAny_bind (wpAny_tryCatch (Wk.item j s _ _ jn st fun v h2 tk pv st2 kp => ?_))
    have hS2 := kp S _ nw hS
    rcases hb with ⟨rfl, rfl⟩ | ⟨vb, j0, hp, rfl⟩
    · show wpAny _ A.in1 (updateSeq S (fun _ => #[v, v]) >>= _) _ _ _
      refine wpAny_bind ?_
      refine wpAny_updateSeq hS2 rfl ?_
      rw [nm]
      refine wpAny_pure ⟨plainId_quiet F.plain_max_loop _, ih 1 _ #[v, v] _ (by omega) (by omega) (Wk.frame _ _ _ st2 fun b hbf o e => ?_) (.inr ⟨v, Nat.one_pos, pv, rfl⟩) (Heap.get?_update_self _ hS2 rfl) fun u h3 tk3 hu kp3 => ?_⟩
      · exact (Heap.get?_update_other _ _ (fun z : S = b => nS (z ▸ hbf))).trans e
      · exact hR u h3 tk3 hu fun b o x1 x2 e => kp3 b o x1 x2 ((Heap.get?_update_other _ _ (Ne.symm x2)).trans (kp b o x1 e))
    · show wpAny _ A.in1 (tryCatch (holding [v, v] (richCompare .Gt v vb >>= _)) _ >>= _) _ _ _
      refine wpAny_bind (wpAny_tryCatch (wpAny_holding (wpAny_bind (cmp j (argBest lt (j - 1)) v vb _ _ _ pv hp ?_))))
      refine wpAny_bind (wpAny_holding (wpAny_truthy_bool ?_))
      refine wpAny_bind (wpAny_letGo (wpAny_pure ?_))
      obtain ⟨i, rfl⟩ : ∃ i, j = i + 1 := ⟨j - 1, by omega⟩
      simp only [Nat.add_sub_cancel] at hp ⊢
      cases hq : lt (i + 1) (argBest lt i) with
      | true =>
        simp only [if_true]
        refine wpAny_bind ?_
        refine wpAny_updateSeq hS2 rfl (wpAny_bind (wpAny_letGo ?_))
        rw [nm]
        refine wpAny_pure ⟨plainId_quiet F.plain_max_loop _, ih (i + 2) _ #[v, v] _ (by omega) (by omega) (Wk.frame _ _ _ st2 fun b hbf o e => ?_) (.inr ⟨v, by omega, (show P (argBest lt (i + 1)) v by simp only [argBest, hq, if_true]; exact pv), rfl⟩) (Heap.get?_update_self _ hS2 rfl) fun u h3 tk3 hu kp3 => ?_⟩
        · exact (Heap.get?_update_other _ _ (fun z : S = b => nS (z ▸ hbf))).trans e
        · exact hR u h3 tk3 hu fun b o x1 x2 e => kp3 b o x1 x2 ((Heap.get?_update_other _ _ (Ne.symm x2)).trans (kp b o x1 e))
      | false =>
        simp only [Bool.false_eq_true, if_false]
        refine wpAny_bind (wpAny_letGo ?_)
        rw [nm]
        refine wpAny_pure ⟨plainId_quiet F.plain_max_loop _, ih (i + 2) _ #[vb, vb] cc (by omega) (by omega) st2 (.inr ⟨vb, by omega, (show P (argBest lt (i + 1)) vb by simp only [argBest, hq, Bool.false_eq_true, if_false]; exact hp), rfl⟩) hS2 fun u h3 tk3 hu kp3 => ?_⟩
        exact hR u h3 tk3 hu fun b o x1 x2 e => kp3 b o x1 x2 (kp b o x1 e)
end
section
variable {prog : Program} {w : World} {A : Around} {E : Value → Shared → Prop} {s : Shared} {l : Addr} {xs : Array (Int × Tok)}
theorem mxd_call {Q : Value → Shared → Prop} (a d : Value) (hc : wpAny (model prog w) A.in1 (Builtin.«max» ⟨[a], [("default", d)]⟩) (fun fin s' => match fin with
      | .done f => (match (Except.ok f : Result) with
        | .ok (.ret v) => Q v s'
        | .ok _ => False
        | .error e => E e s')
      | .again c' => c'.quiet = true ∧ codeAny (model prog w) A c' (fun r s' => match r with
        | .ok (.ret v) => Q v s'
        | .ok _ => False
        | .error e => E e s') s') E s) : wpAny (model prog w) A (call (.builtin "max") [a] [("default", d)]) Q E s := by
  refine wpAny_call (codeAny_call_builtin F.plain_max F.entry_max ?_)
  have ha := mxd_args a d
  simp only [checkBuiltinCall, F.kind_max]
  cases hsig : Manifest.signature? "max" with
  | none => exact wpAny_pure hc
  | some sg =>
    have ha2 : Bind.checkArgs "max" sg ⟨[a], [("default", d)]⟩ = pure () := by simpa only [argsOk, hsig] using ha
    simp only [ha2]
    exact wpAny_pure hc
theorem mxd_ints {Q : Value → Shared → Prop} (d : Value) (hh : A.handled = none) (hl : s.heap.IsList l (intItems xs))
    (h : ∀ v h' tk, ((xs.size = 0 ∧ v = d) ∨ (0 < xs.size ∧ (intItems xs)[argBest (fun i j => decide (numAt xs i > numAt xs j)) (xs.size - 1)]? = some v)) → (∀ b o, s.heap.get? b = some o → h'.get? b = some o) → Q v { s with heap := h', toks := tk }) :
    wpAny (model prog w) A (call (.builtin "max") [.ref l] [("default", d)]) Q E s := by
  have nm : (toString "max" ++ toString ".loop" : String) = "max.loop" := by decide
  refine mxd_call _ d ?_
  show wpAny _ A.in1 (Builtin.Builtins.bindParams "max" ["key", "default"] 0 ⟨[], [("default", d)]⟩ >>= _) _ _ s
  refine wpAny_bind (wpAny_of_eq (show Builtin.Builtins.bindParams "max" ["key", "default"] 0 ⟨[], [("default", d)]⟩ = pure [none, some d] from rfl) ?_)
  refine wpAny_bind (wpAny_pure ?_)
  refine wpAny_bind (iter_intList hl fun s2 e st hfp hlI => ?_)
  subst e
  have Wk := Walks.list (prog := prog) (w := w) (A := A.in1) hh s.heap.objs.size l hlI (intItems xs)
  refine wpAny_bind (wpAny_newObj_type ?_)
  have nS : (s.heap.push { cls := .type "list_iterator", data := .fields #[.ref l, .int 0 0] }).objs.size ∉ [s.heap.objs.size, l] := fun hm => Nat.lt_irrefl _ (hfp _ hm)
  rw [nm]
  refine wpAny_pure ⟨plainId_quiet F.plain_max_loop _, mxd_loop Wk (fun i j => decide (numAt xs i > numAt xs j)) (CmpOf.ints_gt (numAt xs) (fun _ _ => intItems_at)) _ nS d _ 0 _ #[] _ rfl (Nat.zero_le _) (Wk.frame _ _ _ st fun b _ o e => Heap.get?_push_of_some _ e) (.inl ⟨rfl, rfl⟩) (Heap.get?_push_size _ rfl) fun v h2 tk hv kp => ?_⟩
  refine h v h2 tk (by simpa [intItems] using hv) fun b o e => ?_
  exact old_kept (fun b o hbw e => kp b o hbw (Nat.ne_of_lt (Heap.lt_size e)) (Heap.get?_push_of_some _ e)) b o e
end
end PySem
namespace DL
open PySem PySem.Spec PyProof.Rows L2
def rMaxDef (K : PySem.W.Frag) : List V → List V → Hp → VK → Prop := fun vs zs H Q => ∃ (a : Addr) (ns : List Int) (d : V), vs = [V.ref a] ∧ zs = [d] ∧ SqL K H a (ns.map V.int) ∧ (ns = [] → Q d H) ∧ (0 < ns.length → ∀ m, m ∈ ns → (∀ y ∈ ns, y ≤ m) → Q (.int m) H)
theorem cr_maxDef {X : Cx} (hc : X.calm = true) : CallRK X (.builtin "max") [Str.ofString "default"] (rMaxDef X.K) := by
  intro pins s σ H vs zs us ws Q I r rz h
  obtain ⟨a, ns, d, rfl, rfl, hs, q0, q1⟩ := h
  obtain rfl := Vals.ref1 r
  obtain ⟨w1, rfl, e1⟩ := vals1 rz
  obtain ⟨its, rv, hl, _⟩ := I.list hs
  have hi := rv.ints
  obtain ⟨xs, e⟩ := hi.allInts.items
  have hn : numsOf (intItems xs).toList = ns := by rw [← e]; exact hi.numsOf
  rw [nums_intItems] at hn
  have hl' := hl.isList
  rw [e] at hl'
  refine mxd_ints w1 (I.ok.hd hc) hl' fun v h' tk hv kp => ?_
  rcases hv with ⟨h0, rfl⟩ | ⟨h0, hv⟩
  · refine ⟨d, H, I.kept kp, e1, q0 ?_⟩
    rw [← hn]
    simpa using h0
  · obtain ⟨t, rfl⟩ := intItems_at hv
    obtain ⟨h1, h2⟩ := argBest_gt (numAt xs) (xs.size - 1)
    refine ⟨.int _, H, I.kept kp, ⟨_, rfl⟩, q1 (by rw [← hn]; simpa using h0) _ ?_ fun y hy => ?_⟩
    · rw [numAt_eq, ← hn]
      exact PySem.getD_mem (by rw [List.length_map, Array.length_toList]; omega)
    · rw [← hn] at hy
      obtain ⟨j, hj, rfl⟩ := mem_getD hy
      rw [List.length_map, Array.length_toList] at hj
      rw [← numAt_eq]
      exact h2 j (by omega)
def dMaxD (fa : DA) (fd : DE) : DE := fun X ρ Q => fa X ρ fun xs ρ1 => match dats xs with
  | some [.lst ds] => fd X ρ1 fun e ρ2 => match intsOf ds with
    | some [] => Q e ρ2
    | some (n :: ns) => Q (.int (maxOf n ns)) ρ2
    | none => False
  | _ => False
section
variable {X : Cx} {W : WX}
theorem de_maxd {e d : Expr} {p pos kpos : Pos} {fa : DA} {fd : DE} (hc : X.calm = true) (hm : X.mg "max" = none) (ha : PA X [e] (lA X.K W fa)) (hd : PE X d (lE X.K W fd)) (hg : Gl X "max" := by rfl)
    (he : backTo pos (starEach [e] X.env) = (false, eval e X.env) :: backTo pos (starEach [] X.env) := by rfl) (hpl : (backTo pos (starEach [e] X.env)).any (·.1) = false := by rfl)
    (hall : (backToKw pos (keywordEach [⟨some "default", d, kpos⟩] X.env)).all (·.1.isSome) = true := by rfl) (hnone : (backToKw pos (keywordEach [⟨some "default", d, kpos⟩] X.env)).any (·.1.isNone) = false := by rfl) (hks : (backToKw pos (keywordEach [⟨some "default", d, kpos⟩] X.env)).filterMap (·.1) = [Str.ofString "default"] := by rfl) :
    PE X (.Call (.Name "max" p) [e] [⟨some "default", d, kpos⟩] pos) (lE X.K W (dMaxD fa fd)) :=
  pe_imp (pe_callBK (cr_maxDef hc) hg hm bt_max ha (pk_cons hd pk_nil) (by decide) (by decide) he hpl hall hnone hks) fun σ H Q ⟨ρ, G, la, P, XX, re, h, q, xo⟩ =>
  ⟨ρ, G, la, _, XX, re, h, fun xs ρ1 vs G1 la1 H1 p1 a1 z1 => by
    have p1' : (match (generalizing := false) dats xs with
      | some [.lst ds] => fd XX ρ1 fun e ρ2 => match intsOf ds with
        | some [] => P e ρ2
        | some (n :: ns) => P (.int (maxOf n ns)) ρ2
        | none => False
      | _ => False) := p1
    split at p1'
    · rename_i ds hds
      have dp := dats_of z1 hds
      cases dp with
      | cons a b =>
        cases b
        cases a with
        | lst a l r =>
          refine ⟨ρ1, G1, la1, _, XX, a1.r, p1', fun e2 ρ2 v G2 la2 H2 p2 a2 z2 => ?_, xo.up a1.g a1.p⟩
          have p2' : (match (generalizing := false) intsOf ds with
            | some [] => P e2 ρ2
            | some (n :: ns) => P (.int (maxOf n ns)) ρ2
            | none => False) := p2
          split at p2'
          · rename_i hn
            have e := intsOf_of r hn
            subst e
            exact ⟨_, [], v, rfl, rfl, SqL.of (a2.r.ext _ _ (a2.g _ _ a)), fun _ => q _ _ _ _ _ _ p2' (a1.trans a2) z2, fun h0 => absurd h0 (by simp)⟩
          · rename_i n ns hn
            have e := intsOf_of r hn
            subst e
            refine ⟨_, n :: ns, v, rfl, rfl, SqL.of (a2.r.ext _ _ (a2.g _ _ a)), fun h0 => (nomatch h0), fun _ m hm2 hle => ?_⟩
            obtain ⟨c1, c2, c3⟩ := maxOf_ge ns n
            have em : m = maxOf n ns := by
              have h1 : maxOf n ns ≤ m := by
                rcases c3 with c3 | c3
                · rw [c3]
                  exact hle _ (by simp)
                · exact hle _ (by simp [c3])
              have h2 : m ≤ maxOf n ns := by
                rcases List.mem_cons.mp hm2 with z | z
                · rw [z]
                  exact c1
                · exact c2 _ z
              omega
            rw [em]
            exact q _ _ _ _ _ _ p2' (a1.trans a2) (.int _)
          · exact p2'.elim
    · exact p1'.elim, xo⟩
end
end DL
set_option Elab.async false
set_option linter.all false
set_option maxRecDepth 100000
set_option maxHeartbeats 4000000
set_option autoImplicit false
/-! {"a": i, "b": j}.get(e, d). -/
namespace DL
open PySem PySem.Spec PyProof.Rows L2
def dGetP (k1 k2 : Str) (i1 i2 : Int) (fe fd : DE) : DE := fun X ρ Q => fe X ρ fun k ρ1 => fd X ρ1 fun z ρ2 => match k with
  | .str w => if w = k1 then Q (.int i1) ρ2 else if w = k2 then Q (.int i2) ρ2 else Q z ρ2
  | _ => False
theorem fn_none {P : Program} {w : World} {K : PySem.W.Frag} {mg : Str → Option Value} {base : Heap} {CX : CXT} {k n : Nat} {f : Addr} {fd : FuncData} {ps : List Str} {F : DF} (h : ∀ ss T Q QX, F ss T Q QX → False) : FnOk P w K mg base CX k f fd ps (spD K n F) :=
  ⟨fun vs H Q E ⟨_, ss, G, la, T, Pd, PX, _, _, fp, _⟩ => (h _ _ _ _ fp).elim, fun A outer s H args us vs Q E _ _ _ _ ⟨_, ss, G, la, T, Pd, PX, _, _, fp, _⟩ => (h _ _ _ _ fp).elim⟩
theorem upd_twice {H : Hp} {p : Addr} {x y : HO} : upd (upd H p x) p y = upd H p y := by
  funext b
  by_cases hb : b = p
  · subst hb
    rw [upd_same, upd_same]
  · rw [upd_ne hb, upd_ne hb, upd_ne hb]
theorem Grow.hid {G H : Hp} {p : Addr} {o : HO} (e : Same G H) (h : H p = none) : Grow G H G (upd H p o) :=
  ⟨Same.refl _, same_new h, e.trans (same_new h), fun _ ga _ => ga, fun h => h⟩
section
variable {X : Cx} {W : WX}
theorem de_getP {k1 k2 : Str} {i1 i2 : Int} {a1 a2 b1 b2 : Nat} {p1 p2 q1 q2 dpos apos cpos : Pos} {e f : Expr} {fe fd : DE} (hu : X.A.units + 1 < cLine) (hk : k1 ≠ k2) (he : PE X e (lE X.K W fe)) (hf : PE X f (lE X.K W fd))
    (m : M2 X (.Dict [some (.Constant (.str k1) a1 p1), some (.Constant (.str k2) a2 p2)] [.Constant (.int i1) b1 q1, .Constant (.int i2) b2 q2] dpos) "get" apos e f cpos := by exact ⟨rfl, rfl, rfl, rfl⟩) :
    PE X (.Call (.Attribute (.Dict [some (.Constant (.str k1) a1 p1), some (.Constant (.str k2) a2 p2)] [.Constant (.int i1) b1 q1, .Constant (.int i2) b2 q2] dpos) "get" apos) [e, f] [] cpos) (lE X.K W (dGetP k1 k2 i1 i2 fe fd)) :=
  pe_imp (pe_dget2 hu (pe_disp (pps_cons pe_str pe_int (pps_cons pe_str pe_int pps_nil)) rfl rfl (by simp) (by simp)) he hf m) fun σ H Q ⟨ρ, G, la, P, XX, re, h, q, xo⟩ => by
  intro p hp
  refine ⟨upd_same, [(.inr k1, .int i1), (.inr k2, .int i2)], rfl, by simp, ?_⟩
  rw [upd_twice]
  have hm : mergeK [] [((.inr k1 : Key), V.int i1), (.inr k2, .int i2)] = [(.inr k1, .int i1), (.inr k2, .int i2)] := by
    have hne : ¬ ((Sum.inr k1 : Key) = .inr k2) := fun z => hk (Sum.inr.inj z)
    simp [mergeK, putK, hne]
  rw [hm]
  refine ⟨p, rfl, .inl ⟨_, .inl upd_same⟩, ?_⟩
  have w0 : Grow G H (upd G p (.dK [(.inr k1, .int i1), (.inr k2, .int i2)])) (upd H p (.dK [(.inr k1, .int i1), (.inr k2, .int i2)])) := Grow.new re.tb.ext hp
  have gp : upd G p (.dK [(.inr k1, .int i1), (.inr k2, .int i2)]) p = some (.dK [(.inr k1, .int i1), (.inr k2, .int i2)]) := upd_same
  have rg := re.grow w0
  have s0 := w0.g
  generalize upd G p (.dK [(.inr k1, .int i1), (.inr k2, .int i2)]) = G0 at gp rg s0
  refine ⟨ρ, G0, la, _, XX, rg, h, fun k ρ1 v G1 la1 H1 e1 r1 z1 => ⟨ρ1, G1, la1, _, XX, r1.r, e1, fun z ρ2 u G2 la2 H2 e2 r2 z2 => ?_, xo.up (s0.trans r1.g) r1.p⟩, xo.up s0 List.prefix_rfl⟩
  have e2' : (match (generalizing := false) k with
    | .str w => if w = k1 then P (.int i1) ρ2 else if w = k2 then P (.int i2) ρ2 else P z ρ2
    | _ => False) := e2
  cases k with
  | str w =>
    cases z1
    have hp2 : H2 p = some (.dK [(.inr k1, .int i1), (.inr k2, .int i2)]) := r2.r.ext _ _ (r2.g _ _ (r1.g _ _ gp))
    have af : Aft X.K G la σ ρ2 G2 la2 H2 := ⟨s0.trans (r1.g.trans r2.g), r1.p.trans r2.p, r2.r⟩
    refine ⟨_, DGet.k (k := .inr w) hp2, ?_⟩
    by_cases w1 : w = k1
    · subst w1
      rw [valV_pos rfl]
      simp only [if_true] at e2'
      exact q _ _ _ _ _ _ e2' af (.int _)
    · rw [valV_neg (fun z => w1 (Sum.inr.inj z).symm)]
      simp only [if_neg w1] at e2'
      by_cases w2 : w = k2
      · subst w2
        rw [valV_pos rfl]
        simp only [if_true] at e2'
        exact q _ _ _ _ _ _ e2' af (.int _)
      · rw [valV_neg (fun z => w2 (Sum.inr.inj z).symm), valV_nil]
        simp only [if_neg w2] at e2'
        exact q _ _ _ _ _ _ e2' af z2
  | _ => exact e2'.elim
end
end DL
set_option Elab.async false
set_option linter.all false
set_option maxRecDepth 100000
set_option maxHeartbeats 4000000
set_option autoImplicit false
/-! The data level: raise, try, defs as values, lambdas that are handed to a def. -/
namespace DL
open PySem PySem.Spec PyProof.Rows L2

/-! ### raise -/
/-- what is known of an own class of errors -/
structure ExcC (K : PySem.W.Frag) (mg : Str → Option Value) (x : Str) (C : Addr) : Prop where
  g : mg x = some (.ref C)
  n : PySem.W.nsIn K mainGlobals x = some (some (.ref C))
  x : PySem.W.excIn K C [.type "ValueError", .type "Exception", .type "BaseException", .type "object"] "ValueError.__new__" = true
  k : PySem.W.keepIn K (.ref C) = true
  b : PySem.W.subIn K (.ref C) (.type "BaseException") = some true
  t : PySem.W.typeIn K (.ref C) = some (.type "type")
def sRaise (n : Str) : DS := fun E ρ => E.xn ⟨n, none⟩ ρ
section
variable {X : Cx} {W : WX}
theorem ds_raise {x m : Str} {C : Addr} {j : Nat} {p p2 p3 pos : Pos} (hc : X.calm = true) (tk : Takes X W) (ex : ExcC X.K X.mg x C) (hg : Gl X x := by rfl) (hdb : (x == ("__debug__" : Str)) = false := by decide) :
    PS X (.Raise (some (.Call (.Name x p) [.Constant (.str m) j p2] [] p3)) none pos) (lS X.K W (sRaise x)) :=
  ps_imp (ps_raise hc tk (pmk_own PySem.F.excBase_ValueError ex.x ex.g ex.k (raises_own ex.b ex.t) hg hdb)) fun D σ H ⟨ρ, G, la, E, r, f, b⟩ => b.xn ⟨x, none⟩ ρ σ G la H (.ref C) none f (Aft.refl r) ⟨ex.n, True.intro⟩
end

/-! ### try -/
/-- whether an error of the class x is one of the class c -/
def isaN (x c : Str) : Bool := x == c || c == ("DogError" : Str)
def hndl (R : List Str) (E : DN) : List (Str × DS) → XP
  | [] => E.xn
  | (c, S) :: r => fun x ρ => R.contains x.n = true ∧ if isaN x.n c = true then S { E with xn := X0 } ρ else hndl R E r x ρ
def sTry (R : List Str) (B : DS) (cl : List (Str × DS)) : DS := fun E ρ => B { E with xn := hndl R E cl } ρ
inductive DCl (X : Cx) (R : List Str) : List ExceptHandler → List Cl → List (Str × DS) → Prop
  | nil : DCl X R [] [] []
  | only {c : Str} {A : Addr} {S : DS} {b : Stmt} {su : List Stmt} {np p : Pos} {hs : List ExceptHandler} {ks : List Cl} {cl : List (Str × DS)} (nm : Names X c (.ref A))
      (ex : ∀ n ∈ R, ∀ cls, PySem.W.nsIn X.K mainGlobals n = some (some cls) → PySem.W.exmOne X.K cls (.ref A) = some (isaN n c))
      (run : ∀ (a : Addr) (o : Obj) (pn : List (Addr × Obj)), PSs (X.suite a ((a, o) :: pn)) (b :: su) (lS X.K W0 S)) (r : DCl X R hs ks cl) :
      DCl X R (.ExceptHandler (some (.Name c np)) none (b :: su) p :: hs) (⟨.ref A, none, fun _ _ _ => lS X.K W0 S⟩ :: ks) ((c, S) :: cl)
  | skip {c n : Str} {i : Nat} {A : Addr} {b : Stmt} {su : List Stmt} {np p : Pos} {hs : List ExceptHandler} {ks : List Cl} {cl : List (Str × DS)} (nm : Names X c (.ref A)) (nd : X.N.Nodup) (hi : X.N[i]? = some n) (hl : X.env.kindOf n = some .local)
      (ex : ∀ n ∈ R, ∀ cls, PySem.W.nsIn X.K mainGlobals n = some (some cls) → PySem.W.exmOne X.K cls (.ref A) = some false) (r : DCl X R hs ks cl) :
      DCl X R (.ExceptHandler (some (.Name c np)) (some n) (b :: su) p :: hs) (⟨.ref A, some i, fun _ _ _ => tNever⟩ :: ks) cl
section
variable {X : Cx} {W : WX} {R : List Str}
theorem DCl.ok {hs : List ExceptHandler} {ks : List Cl} {cl : List (Str × DS)} (h : DCl X R hs ks cl) : ClsOk X hs ks := by
  induction h with
  | nil => exact .nil
  | only nm ex run r ih => exact .cons (.only nm fun a o cls d pn _ _ => run a o pn) ih
  | skip nm nd hi hl ex r ih => exact .cons (.named nm nd hi hl fun a o cls d pn _ _ => pss_never) ih
theorem DCl.wish {G : Hp} {la : List Addr} {E : DN} {D : Ends} (b : Bk X.K G la W E D) : ∀ {hs : List ExceptHandler} {ks : List Cl} {cl : List (Str × DS)}, DCl X R hs ks cl → ∀ (x : Xn) (ρ' : Env) (σ' : L2.St) (G' : Hp) (la' : List Addr) (H' : Hp) (cls : Value) (od : Option Addr),
    hndl R E cl x ρ' → (cl ≠ [] → True) → Aft X.K G la σ' ρ' G' la' H' → XR X.K G' H' x cls od → (R.contains x.n = true) → wMix X.K W D ks cls od σ' H' := by
  intro hs ks cl h
  induction h with
  | nil =>
    intro x ρ' σ' G' la' H' cls od p _ a z _
    exact b.xn x ρ' σ' G' la' H' cls od p a z
  | @only c A S b0 su np p0 hs ks cl nm ex run r ih =>
    intro x ρ' σ' G' la' H' cls od p t a z hR
    obtain ⟨_, p⟩ := p
    refine ⟨isaN x.n c, ex x.n (by simpa using hR) cls z.1, fun e => ?_, fun e => ?_⟩
    · rw [if_pos e] at p
      intro q hq
      have bb := b.up a.g a.p
      exact ⟨ρ', G', la', _, a.r, p, ⟨bb.nx, bb.bk, bb.ct, bb.rt, fun _ _ _ _ _ _ _ _ f => f.elim⟩⟩
    · rw [if_neg (by rw [e]; exact Bool.false_ne_true)] at p
      exact ih x ρ' σ' G' la' H' cls od p (fun _ => True.intro) a z hR
  | @skip c n i A b0 su np p0 hs ks cl nm nd hi hl ex r ih =>
    intro x ρ' σ' G' la' H' cls od p t a z hR
    exact ⟨false, ex x.n (by simpa using hR) cls z.1, (fun e => by cases e), fun _ => ih x ρ' σ' G' la' H' cls od p t a z hR⟩
theorem hndl_R {E : DN} {c : Str × DS} {cl : List (Str × DS)} {x : Xn} {ρ : Env} (h : hndl R E (c :: cl) x ρ) : R.contains x.n = true := h.1
theorem ds_try {body : List Stmt} {h0 : ExceptHandler} {hds : List ExceptHandler} {ks : List Cl} {pos : Pos} {B : DS} {c : Str × DS} {cl : List (Str × DS)} (hs : X.stack = X.env :: X.outer) (hf : X.env.frame = some X.env.locals) (tk : Takes X W)
    (hb : ∀ (W' : WX) (pn : List (Addr × Obj)) (xe : Value → Shared → Prop), Takes (X.tr pn xe) W' → PassesOwn (model X.prog X.w) X.A X.env xe → PSs (X.tr pn xe) body (lS X.K W' B))
    (hk : DCl X R (h0 :: hds) ks (c :: cl)) : PS X (.Try body (h0 :: hds) [] [] pos) (lS X.K W (sTry R B (c :: cl))) :=
  ps_imp (ps_tryC (tb := fun W' => lS X.K W' B) hs hf tk hb hk.ok) fun D σ H ⟨ρ, G, la, E, r, f, b⟩ =>
    ⟨ρ, G, la, { E with xn := hndl R E (c :: cl) }, r, f, ⟨b.nx, b.bk, b.ct, b.rt, fun x ρ' σ' G' la' H' cls od p a z => DCl.wish b hk x ρ' σ' G' la' H' cls od p (fun _ => True.intro) a z (hndl_R p)⟩⟩
end

/-! ### defs as values -/
section
variable {X : Cx} {W : WX}
theorem de_fn {x : Str} {a : Addr} {pos : Pos} (hm : X.mg x = some (.ref a)) (hn : PySem.W.nsIn X.K mainGlobals x = some (some (.ref a))) (hg : Gl X x := by rfl) (hd : (x == ("__debug__" : Str)) = false := by decide) : PE X (.Name x pos) (lE X.K W (dC (.fn x))) :=
  pe_imp (pe_glob hg hm (v := .ref a) rfl hd) fun σ H Q ⟨ρ, G, la, P, XX, r, f, q, _⟩ => q _ _ _ _ _ _ f (Aft.refl r) (.fn hn)
/-- x(e, ..), x a name of the def that holds a def of the module -/
def dCallV (i n : Nat) (F : Str → Option DF) (fa : DA) : DL' := fun X ρ Q => match ρ.s[i]? with
  | some (some (.dat (.fn x))) => match F x with
    | some S => fa X ρ fun ss ρ1 => ss.length = n ∧ S ss ρ1.T (fun r T' => Q r ⟨T', ρ1.s⟩) (fun x T' => X x ⟨T', ρ1.s⟩)
    | none => False
  | _ => False
structure Kept1 (X : Cx) (k n : Nat) (x : Str) (S : DF) : Prop where
  ex : ∃ (f : Addr) (fd : FuncData) (ps : List Str), PySem.W.nsIn X.K mainGlobals x = some (some (.ref f)) ∧ FnOk X.prog X.w X.K X.mg X.base (L2.CX X.prog X.w) k f fd ps (spD X.K n S) ∧ PySem.W.keepIn X.K (.ref f) = true ∧ Binds X.K fd ps []
theorem dl_callV (i : Nat) {x : Str} {p pos : Pos} {e : Expr} {es : List Expr} {fa : DA} {k n : Nat} {F : Str → Option DF} (hF : ∀ y S, F y = some S → Kept1 X k n y S) (hr : Room k X.A) (tk : Takes X W) (ha : PA X (e :: es) (lA X.K W fa)) (hN : X.N[i]? = some x := by rfl)
    (hv : Vis X.env.scope x := by first | exact Or.inl rfl | exact Or.inr (Or.inl rfl) | exact Or.inr (Or.inr rfl)) (hdb : (x == ("__debug__" : Str)) = false := by decide) (hcd : (x == ("__classdict__" : Str)) = false := by decide)
    (he : starEach (e :: es) X.env = (false, eval e X.env) :: starEach es X.env := by rfl) (hpl : (backTo pos (starEach es X.env)).any (·.1) = false := by rfl) : PE X (.Call (.Name x p) (e :: es) [] pos) (lL X.K W (dCallV i n F fa)) := by
  constructor
  rintro pins s σ H Q I ⟨ρ, G, la, P, XX, re, h, q, xo⟩
  unfold dCallV at h
  split at h
  · rename_i y hy
    split at h
    · rename_i S hS
      obtain ⟨f, fd, ps, hn, Fk, hk, hb⟩ := (hF y S hS).ex
      obtain ⟨v, hσ, rv⟩ := re.at_ i _ hy
      have rv' : Dp X.K G v (.fn y) := rv
      cases rv' with
      | fn hn2 =>
      rename_i a
      have ea : a = f := by
        rw [hn] at hn2
        cases hn2
        rfl
      subst ea
      refine wpAny_Call_Name_kw (thn ((pe_var (pos := p) hN hv hdb hcd).run pins s σ H (fun v H1 => v = .ref a ∧ H1 = H) I ⟨_, hσ, rfl, rfl⟩) ?_)
      rintro u s1 ⟨v, H1, I1, r1, rfl, rfl⟩
      cases r1
      refine PySem.W.callWith_K (h₀ := X.base) I.ok.mod.kin hk (thn (ha.run pos pins s1 σ H1 _ I1 ⟨ρ, G, la, _, XX, re, h, fun ss ρ1 vs G1 la1 H1 p1 a1 z1 => ?_, xo⟩) fun us s2 ⟨vs, H2, I2, r, q2⟩ => ⟨I2.kIn, run_fnS Fk hr hb (passAt tk σ) I2 r q2⟩) he hpl
      exact ⟨z1.len.trans p1.1, ss, G1, la1, ρ1.T, _, _, a1.r.tb, z1, p1.2, fun r2 T' v G' la' H' pr g pp rl sr => q _ _ _ _ _ _ pr ⟨a1.g.trans g, a1.p.trans pp, ⟨rl, a1.r.sl, fun i y hy => by
          obtain ⟨u, hu, ru⟩ := a1.r.at_ i y hy
          exact ⟨u, hu, ru.grow g pp⟩⟩⟩ sr, fun y T' G' la' H' cls od px g pp rl xr => xo y ⟨T', ρ1.s⟩ σ G' la' H' cls od px ⟨a1.g.trans g, a1.p.trans pp, ⟨rl, a1.r.sl, fun i y hy => by
          obtain ⟨u, hu, ru⟩ := a1.r.at_ i y hy
          exact ⟨u, hu, ru.grow g pp⟩⟩⟩ xr⟩
    · exact h.elim
  · exact h.elim
end

/-! ### lambdas -/
abbrev CallF := List Ob → (Sl → List Ob → Prop) → (Xn → List Ob → Prop) → Prop
/-- a(), a the lambda that was handed over; n: how many names the def has -/
def dAct (n : Nat) (f : Addr) (G0 : Hp) (la0 : List Addr) (c : CallF) : DL' := fun X ρ Q => ρ.s[0]? = some (some (.clo f G0 la0)) ∧ c ρ.T (fun r T' => Q r ⟨T', ρ.s⟩) (fun x T' => X x ⟨T', List.replicate n none⟩)
/-- tl does what c says, from what was known at the lambda's making on -/
def Real (K : PySem.W.Frag) (G0 : Hp) (la0 : List Addr) (c : CallF) (tl : XK → Hp → VK → Prop) : Prop := ∀ (G : Hp) (la : List Addr) (H : Hp) (T : List Ob) (Q : Sl → List Ob → Prop) (QX : Xn → List Ob → Prop) (Qv : VK) (E : XK), c T Q QX → Rl K G H la T → Same G0 G → la0 <+: la →
  (∀ r T' v G' la' H', Q r T' → Same G G' → la <+: la' → Rl K G' H' la' T' → SlR K G' la' v r → Qv v H') → (∀ x T' G' la' H' cls od, QX x T' → Same G G' → la <+: la' → Rl K G' H' la' T' → XR K G' H' x cls od → E cls od H') → tl E H Qv
/-- what the def promises that the lambda is handed to -/
abbrev WF := CallF → List Ob → (Sl → List Ob → Prop) → Prop
def TTd (K : PySem.W.Frag) (F : WF) : (XK → Hp → VK → Prop) → Hp → VK → Prop := fun tl H Q => ∃ (G0 : Hp) (la0 : List Addr) (T : List Ob) (c : CallF) (P : Sl → List Ob → Prop), Rl K G0 H la0 T ∧ Real K G0 la0 c tl ∧ F c T P ∧
  (∀ r T' v G' la' H', P r T' → Same G0 G' → la0 <+: la' → Rl K G' H' la' T' → SlR K G' la' v r → Q v H')
theorem Takes.len {X : Cx} {W : WX} (tk : Takes X W) : Takes X (fun cls d σ H => σ.length = X.N.length → W cls d σ H) := fun u s' ⟨a, B, sI, pins, σ, H, cls, d, e, I, nb, up, sky, na, os, ag, w⟩ =>
  tk u s' ⟨a, B, sI, pins, σ, H, cls, d, e, I, nb, up, sky, na, os, ag, w I.len⟩
theorem codeO_tbl {c : Addr} {q : Str} : ∀ ps, LamX.CodeO c q ≠ .tbl ps := fun ps z => by
  unfold LamX.CodeO at z
  cases z
/-- what is known grows by the lambda's code object -/
theorem Rl.code {K : PySem.W.Frag} {G H : Hp} {la : List Addr} {T : List Ob} {c : Addr} {q : Str} (r : Rl K G H la T) (hc : H c = some (LamX.CodeO c q)) : Same G (upd G c (LamX.CodeO c q)) ∧ Rl K (upd G c (LamX.CodeO c q)) H la T := by
  have s1 : Same G (upd G c (LamX.CodeO c q)) := fun b o e => by
    by_cases hb : b = c
    · subst hb
      rw [upd_same]
      have := r.ext b o e
      rw [hc] at this
      exact this
    · rw [upd_ne hb]
      exact e
  have ne : ∀ {b : Addr} {o : HO}, H b = some o → (∀ d, o ≠ LamX.CodeO c q) → b ≠ c := fun {b o} e n z => by
    rw [z, hc] at e
    exact n c (Option.some.inj e).symm
  refine ⟨s1, ⟨fun b o e => ?_, r.nd, r.len, fun k a o h1 h2 => ?_, r.there, r.nt.upd codeO_tbl, fun p hp => ⟨?_, (r.tbl p hp).2⟩⟩⟩
  · by_cases hb : b = c
    · subst hb
      rw [upd_same] at e
      rw [← e]
      exact hc
    · rw [upd_ne hb] at e
      exact r.ext b o e
  · have z := r.tab k a o h1 h2
    cases o with
    | dead => exact True.intro
    | lst ds =>
      obtain ⟨g, vs, e, l, d⟩ := z
      refine ⟨?_, vs, e, l, d.up s1⟩
      rw [upd_ne (ne e fun _ z => by unfold LamX.CodeO at z; cases z)]
      exact g
    | dic ks ds =>
      obtain ⟨g, vs, e, l0, l, d⟩ := z
      refine ⟨?_, vs, e, l0, l, d.up s1⟩
      rw [upd_ne (ne e fun _ z => by unfold LamX.CodeO at z; cases z)]
      exact g
    | ins C fs =>
      obtain ⟨g, Ca, dx, vs, n, e, o, m, d⟩ := z
      refine ⟨?_, Ca, dx, vs, n, e, o, m, d.up s1⟩
      rw [upd_ne (ne e fun _ z => by unfold LamX.CodeO at z; cases z)]
      exact g
  · obtain ⟨g, ps, e, _⟩ := r.tbl p hp
    rw [upd_ne (ne e fun _ z => codeO_tbl ps z.symm)]
    exact g
/-- what is known stays where only tables grow -/
theorem Rl.extN {K : PySem.W.Frag} {G H H1 : Hp} {la : List Addr} {T : List Ob} (r : Rl K G H la T) (e : LamX.ExtN H H1) (t : LamX.Tabs (tabsOf K) H1) : Rl K G H1 la T := by
  refine ⟨fun b o h => e b o (r.ext b o h) fun ps z => r.nt b ps (by rw [h, z]), r.nd, r.len, fun k a o h1 h2 => ?_, fun k a h => ?_, r.nt, fun p hp => ⟨(r.tbl p hp).1, t p hp⟩⟩
  · have z := r.tab k a o h1 h2
    cases o with
    | dead => exact True.intro
    | lst ds =>
      obtain ⟨g, vs, h, l, d⟩ := z
      exact ⟨g, vs, e a _ h (fun ps z => by cases z), l, d⟩
    | dic ks ds =>
      obtain ⟨g, vs, h, l0, l, d⟩ := z
      exact ⟨g, vs, e a _ h (fun ps z => by cases z), l0, l, d⟩
    | ins C fs =>
      obtain ⟨g, Ca, dx, vs, n, h, o, m, d⟩ := z
      exact ⟨g, Ca, dx, vs, n, e a _ h (fun ps z => by cases z), e dx _ o (fun ps z => by cases z), m, d⟩
  · obtain ⟨o, h1, h2⟩ := r.there k a h
    exact ⟨o, e a o h1 h2, h2⟩
end DL
set_option Elab.async false
set_option linter.all false
set_option maxRecDepth 100000
set_option maxHeartbeats 4000000
set_option autoImplicit false
/-! The data level: a def that calls the lambda it got; x(lambda: e); the end of a law. -/
namespace DL
open PySem PySem.Spec PyProof.Rows L2

abbrev wordCx (X : Cx) (Ng : List Str) (x : Str) (sg : Scope) (g : Addr) (cdg : Value) (s : Shared) (H : Hp) : Cx := cxOf C8.CX0 X.prog X.w X.K X.mg X.base Ng x sg g cdg X.A X.stack s H C8.E0
theorem gives_D {X : Cx} {Ng : List Str} {x : Str} {sg : Scope} {g : Addr} {cdg : Value} {bg : List Stmt} {a q : Str} {n : Nat} {F : WF} {B : Addr → Hp → List Addr → CallF → DS} (hn : n = Ng.length)
    (hB : ∀ (s : Shared) (H : Hp) (f : Addr) (G0 : Hp) (la0 : List Addr) (c : CallF), (∀ (W : WX) (pn : List (Addr × Obj)) (xe : Value → Shared → Prop) (p1 p2 : Pos), Takes ((wordCx X Ng x sg g cdg s H).tr pn xe) W →
      PE ((wordCx X Ng x sg g cdg s H).tr pn xe) (.Call (.Name a p1) [] [] p2) (lL X.K W (dAct n f G0 la0 c))) → PSs (wordCx X Ng x sg g cdg s H).nox bg (lS X.K W0 (B f G0 la0 c)))
    (hF : ∀ (f : Addr) (G0 : Hp) (la0 : List Addr) (c : CallF) (T : List Ob) (Q : Sl → List Ob → Prop), F c T Q → B f G0 la0 c (endsOf T.length Q (fun _ _ => False)) (startD n 1 [.clo f G0 la0] T)) :
    LamX.GivesTo X Ng x sg g cdg bg a q (TTd X.K F) := by
  intro f c' s H Q tl act hc h
  obtain ⟨G0, la0, T, c, P, rl, real, fp, post⟩ := h
  obtain ⟨s1, rl1⟩ := rl.code hc
  refine ⟨lS X.K W0 (B f (upd G0 c' (LamX.CodeO c' q)) la0 c), hB s H f _ la0 c (fun W pn xe p1 p2 tk => ?_), startD n 1 [.clo f (upd G0 c' (LamX.CodeO c' q)) la0] T, _, la0, endsOf T.length P (fun _ _ => False),
    start_re hn rfl rl1 (.cons ⟨rfl, Same.refl _, List.prefix_rfl⟩ .nil), hF f _ la0 c T P fp, ends_bk rl1.len (fun r T' v G' la' H' p g pp r1 sr => post r T' v G' la' H' p (s1.trans g) pp r1 sr) (fun _ _ _ _ _ _ _ z _ _ _ _ => z.elim)⟩
  refine pe_imp (act (fun cls d σ H => σ.length = ((wordCx X Ng x sg g cdg s H).tr pn xe).N.length → W cls d σ H) pn xe (fun cls d H' => ∀ σ', σ'.length = Ng.length → W cls d σ' H') p1 p2 (Takes.len tk) (fun cls d σ' H' e h => e σ' h)) fun σZ HZ QZ ⟨ρ, G, la, P2, XX, re, hh, q2, xo⟩ => ?_
  obtain ⟨hs, hcall⟩ := hh
  obtain ⟨v, hv, ev, sg2, pl⟩ := re.at_ 0 _ hs
  subst ev
  refine ⟨hv, re.ext _ _ (sg2 _ _ upd_same), real G la HZ ρ.T _ _ QZ _ hcall re.tb (s1.trans sg2) pl (fun r T' v G' la' H' p g pp r1 sr => q2 _ _ v G' la' H' p ⟨g, pp, ⟨r1, re.sl, fun i y hy => ?_⟩⟩ sr) (fun y T' G' la' H' cls od p g pp r1 xr σ' hl => xo y _ σ' G' la' H' cls od p ⟨g, pp, ⟨r1, ?_, fun i y hy => ?_⟩⟩ xr)⟩
  · obtain ⟨u, hu, ru⟩ := re.at_ i y hy
    exact ⟨u, hu, ru.grow g pp⟩
  · show (List.replicate n none).length = σ'.length
    rw [List.length_replicate, hl, hn]
  · have hy' : (List.replicate n (none : Option Sl))[i]? = some (some y) := hy
    rw [List.getElem?_replicate] at hy'
    split at hy' <;> cases hy'

/-- x(lambda: e): F is what x does with what it gets -/
def dLam (F : WF) (fb : DL') : DL' := fun X ρ Q => F (fun T Q' QX' => fb (fun x ρ' => QX' x ρ'.T) ⟨T, ρ.s⟩ (fun r ρ' => Q' r ρ'.T)) ρ.T (fun r T' => Q r ⟨T', ρ.s⟩)
/-- the def that gets lambdas, as it stands -/
structure LWord (K : PySem.W.Frag) (mg : Str → Option Value) (x a : Str) (st : Stmt) (Ng : List Str) (g : Addr) (cdv : Value) : Prop where
  ex : ∃ (oc : Value) (od an : Option Addr) (osl : Array (Option Value)) (kV doc pm ct : Value), K.lookup g = some ⟨oc, od, .func (PySem.W.fnOf x x (defArgs st) (defBody st) (defScope st) .none kV doc pm an cdv ct), osl⟩ ∧
    Binds K (PySem.W.fnOf x x (defArgs st) (defBody st) (defScope st) .none kV doc pm an cdv ct) [a] []
  code : PySem.W.codeIn K cdv x = true
  keep : PySem.W.keepIn K (.ref g) = true
  mg : mg x = some (.ref g)
  sc : FnScope Ng [a] (defScope st)
  at0 : Ng[0]? = some a
  vis : Vis (defScope st) a
theorem dl_lam {X : Cx} {W : WX} {x a : Str} {st : Stmt} {Ng : List Str} {g c P : Addr} {cdv : Value} {k : Nat} {params : Arguments} {body : Expr} {scope : Scope} {F : WF} {fb : DL'} {p lpos pos : Pos} (Wd : LWord X.K X.mg x a st Ng g cdv)
    (hG : LamX.GivesTo X Ng x (defScope st) g cdv (defBody st) a (X.env.qual ++ "<lambda>") (TTd X.K F)) (TB : LamX.TabB X.base X.mg c P) (hcode : X.env.code = .ref c) (hmT : (P, X.env.qual ++ "<lambda>") ∈ tabsOf X.K)
    (hu : ∀ p ∈ tabsOf X.K, p.1 = P → p.2 = X.env.qual ++ "<lambda>") (hr : Room (k + 2) X.A) (L : LamX.LamS X.env.scope scope)
    (hbody : ∀ (A : Around) (outer : List PySem.Env) (s : Shared) (H : Hp) (E : XK) (f c' : Addr), Room k (A.deeper (LamX.lamEnv X scope s.heap.objs.size f c')) → PE (LamX.lamCx X A outer s H E scope f c') body (lL X.K (fun cls d _ H => E cls d H) fb))
    (hbind : ∀ (q : Str) (cl : List (Str × Addr)) (pm cv ctv : Value), bindArgs (PySem.W.kla_fn "<lambda>" q params body scope cl pm cv ctv) ⟨[], []⟩ = pure [] := by intros; rfl) (hdef : defaultsOf params X.env = ([], []) := by rfl)
    (hg : Gl X x := by rfl) (hdb : (x == ("__debug__" : Str)) = false := by decide) (hd : (a == ("__debug__" : Str)) = false := by decide) (hcd : (a == ("__classdict__" : Str)) = false := by decide) :
    PE X (.Call (.Name x p) [.Lambda params body scope lpos] [] pos) (lL X.K W (dLam F fb)) := by
  obtain ⟨oc, od, an, osl, kV, doc, pm, ct, lk, hb⟩ := Wd.ex
  refine pe_imp (LamX.pe_lamcall (T := tabsOf X.K) (TT := TTd X.K F) (t := fun E => lL X.K (fun cls d _ H => E cls d H) fb) hg Wd.mg Wd.keep lk Wd.code hb Wd.sc Wd.at0 Wd.vis hG TB hcode hmT hu hr L hdef hbind hbody hdb hd hcd) fun σ H Q ⟨ρ, G, la, P2, XX, r, hF, q, xo⟩ => ?_
  have gr : ∀ {G' : Hp} {la' : List Addr} {i : Nat} {y : Sl}, Same G G' → la <+: la' → ρ.s[i]? = some (some y) → ∃ v, σ[i]? = some (some v) ∧ SlR X.K G' la' v y := fun {G' la' i y} g pp hy => by
    obtain ⟨u, hu, ru⟩ := r.at_ i y hy
    exact ⟨u, hu, ru.grow g pp⟩
  refine ⟨fun p hp => (r.tb.tbl p hp).2, fun H1 eN T1 => ⟨G, la, ρ.T, _, _, r.tb.extN eN T1, ?_, hF, fun r2 T' v G' la' H' p g pp rl sr => q _ _ v G' la' H' p ⟨g, pp, ⟨rl, r.sl, fun i y hy => gr g pp hy⟩⟩ sr⟩⟩
  intro G' la' H' T' Q' QX' Qv E hc rl sg pl kq kx
  exact ⟨⟨T', ρ.s⟩, G', la', _, _, ⟨rl, r.sl, fun i y hy => gr sg pl hy⟩, hc, fun r2 ρ' v G2 la2 H2 p a z => kq r2 ρ'.T v G2 la2 H2 p a.g a.p a.r.tb z, fun y ρ' σ' G2 la2 H2 cls od p a z => kx y ρ'.T G2 la2 H2 cls od p a.g a.p a.r.tb z⟩

/-! ### a name that is one of several defs -/
def lookF : List (Str × DF) → Str → Option DF
  | [], _ => none
  | (x, S) :: r, y => if (y == x) = true then some S else lookF r y
theorem lookF_nil {X : Cx} {k n : Nat} : ∀ y S, lookF [] y = some S → Kept1 X k n y S := fun y S h => by cases h
theorem lookF_cons {X : Cx} {k n : Nat} {x : Str} {S : DF} {l : List (Str × DF)} (h : Kept1 X k n x S) (r : ∀ y S, lookF l y = some S → Kept1 X k n y S) : ∀ y S', lookF ((x, S) :: l) y = some S' → Kept1 X k n y S' := fun y S' e => by
  unfold lookF at e
  split at e
  · rename_i q
    have e1 : y = x := by simpa using q
    have e2 := Option.some.inj e
    subst e1 e2
    exact h
  · exact r y S' e
theorem kept_up {X : Cx} {j k n : Nat} {x : Str} {S : DF} {f : Addr} {fd : FuncData} {ps : List Str} (F : FnOk X.prog X.w X.K X.mg X.base (L2.CX X.prog X.w) j f fd ps (spD X.K n S)) (h : j ≤ k) (hn : PySem.W.nsIn X.K mainGlobals x = some (some (.ref f))) (hk : PySem.W.keepIn X.K (.ref f) = true) (hb : Binds X.K fd ps []) : Kept1 X k n x S :=
  ⟨f, fd, ps, hn, ⟨F.len, fun A outer s H args us vs Q E hr => F.run A outer s H args us vs Q E (hr.mono h)⟩, hk, hb⟩

/-! ### which errors a clause takes -/
theorem exq_nil {K : PySem.W.Frag} {c : Value} {f : Str → Bool} : ∀ n ∈ ([] : List Str), ∀ cls, PySem.W.nsIn K mainGlobals n = some (some cls) → PySem.W.exmOne K cls c = some (f n) := fun n h => by simp at h
theorem exq_cons {K : PySem.W.Frag} {c : Value} {f : Str → Bool} {n : Str} {R : List Str} {C : Addr} {b : Bool} (hn : PySem.W.nsIn K mainGlobals n = some (some (.ref C))) (hx : PySem.W.exmOne K (.ref C) c = some b) (hb : b = f n)
    (r : ∀ n ∈ R, ∀ cls, PySem.W.nsIn K mainGlobals n = some (some cls) → PySem.W.exmOne K cls c = some (f n)) : ∀ m ∈ n :: R, ∀ cls, PySem.W.nsIn K mainGlobals m = some (some cls) → PySem.W.exmOne K cls c = some (f m) := fun m h cls hc => by
  rcases List.mem_cons.mp h with rfl | h
  · rw [hn] at hc
    cases hc
    rw [hx, hb]
  · exact r m h cls hc

/-! ### the end of a law -/
theorem walk_ofD {l : PySem.W.OpenLaw} {n k : Nat} {q : Program} {loose : List Str} {XP : (Str → Option Value) → Heap → Prop} {YP : World → Heap → Prop} {d : DefRec} {K : Params → PySem.W.Frag} {CX : World → CXT} {x : Str}
    (hn : l.most = some n) (hn2 : n ≤ sizeLine) (hdf : d.params.defaults = []) (hr : Room k callerA) (hY : ∀ (w : World) (h : Heap), YP w h → (K w.params).In h)
    (F : ∀ (w : World) (mg mb : Str → Option Value) (fa : Addr) (h : Heap) (lo : List Str) (mean : ExcName → Option Value), YP w h → (K w.params).In h → Top q lo mean mg mb h → mg d.name = some (.ref fa) → LamX.LawAtS l w (K w.params) (CX w) k n x mg fa h)
    (hCX : ∀ (w : World) (H : Hp) (s : Shared) (e : Value) (s' : Shared), CX w [] H s (fun _ _ _ => False) e s' → False) : PySem.W.WalkO q loose XP YP l.row.toRowW d [] (fun f vs => PySem.call f vs) := by
  refine Att.attach_callB hn hdf fun w s0 s1 mg mb fa o pm cd doc a vs ns G Y ho hd hcd hmg hobj hints hlen hbits hg => ?_
  have KX := hY w _ Y
  obtain ⟨fd, cs, sp, hT, nT, C, hb, hsp, hF⟩ := F w mg mb fa _ _ _ Y KX G.T hmg
  exact LamX.law_callTs KX G.T.g G.T.b G.T.builtins G.T.nolimit hg hT nT C G.T.bmain hobj hints (Nat.le_trans hlen hn2) hr hF hb (fun H hH hS => hsp H a ns hlen hbits hH hS) fun H e s' => hCX w H s1 e s'
/-- the known part at the start: all but the tables -/
def lessTbl (H : Hp) : Hp := fun b => match H b with
  | some (.tbl _) => none
  | o => o
theorem less_same (H : Hp) : Same (lessTbl H) H := fun b o e => by
  unfold lessTbl at e
  split at e
  · cases e
  · exact e
theorem less_nt (H : Hp) : NoTbl (lessTbl H) := fun b ps e => by
  unfold lessTbl at e
  split at e
  · cases e
  · rename_i z
    exact z ps e
theorem less_at {H : Hp} {b : Addr} {o : HO} (e : H b = some o) (n : ∀ ps, o ≠ .tbl ps) : lessTbl H b = some o := by
  unfold lessTbl
  rw [e]
  cases o <;> first | rfl | exact absurd rfl (n _)
theorem less_none {H : Hp} {b : Addr} {ps : Array Value} (e : H b = some (.tbl ps)) : lessTbl H b = none := by
  unfold lessTbl
  rw [e]
theorem less_seq {K : PySem.W.Frag} {H : Hp} {a : Addr} {vs : List V} (h : SqL K H a vs) : SqL K (lessTbl H) a vs := by
  rcases h with (h | ⟨o, h⟩) | h
  · exact .inl (.inl (less_at h fun ps z => by cases z))
  · exact .inl (.inr ⟨o, less_at h fun ps z => by cases z⟩)
  · exact .inr h
theorem law_spT {K : PySem.W.Frag} {S : DF} {cs : List (Addr × Addr)} (ht : ∀ p ∈ tabsOf K, ∃ c, (c, p.1) ∈ cs) (hlaw : ∀ (ns : List Int) (T : List Ob) (Q : Sl → List Ob → Prop) (QX : Xn → List Ob → Prop), ns.length ≤ 63 → (∀ T', Q (.dat (.bl true)) T') → S [.dat (.scr ns)] T Q QX) (H : Hp) (a : Addr) (ns : List Int) (hl : ns.length ≤ 63)
    (hH : ∀ p ∈ cs, H p.2 = some (.tbl #[])) (hS : SqL K H a (ns.map V.int)) : spD K 1 S [.ref a] H (fun v _ => v = .bl true) fun _ _ _ => False :=
  ⟨rfl, [.dat (.scr ns)], lessTbl H, [], [], fun r _ => r = .dat (.bl true), fun _ _ => False, ⟨less_same H, List.nodup_nil, rfl, fun k a o h => by simp at h, fun k a h => by simp at h, less_nt H, fun p hp => by
    obtain ⟨c, hc⟩ := ht p hp
    exact ⟨less_none (hH _ hc), LamX.TabS.nil (hH _ hc)⟩⟩, .cons (.scr (less_seq hS)) .nil, hlaw ns [] _ _ hl (fun _ => rfl), fun r T' v G' la' H' e _ _ _ z => by
    subst e
    cases z
    rfl, fun _ _ _ _ _ _ _ f _ _ _ _ => f.elim⟩
theorem cx_none {P : Program} {w : World} {H : Hp} {s s' : Shared} {e : Value} (h : L2.CX P w [] H s (fun _ _ _ => False) e s') : False := by
  obtain ⟨a, B, H', cls, d, _, _, _, _, _, _, _, hE⟩ := h
  exact hE
end DL
set_option Elab.async false
set_option linter.all false
set_option maxRecDepth 100000
set_option maxHeartbeats 4000000
set_option autoImplicit false
/-! The data level: two names at once, by a tuple that is built. -/
namespace DL
open PySem PySem.Spec PyProof.Rows L2
theorem ds_par2T (i j : Nat) {X : Cx} {W : WX} {x y : Str} {a b : Expr} {f g : DL'} {px py pt pos : Pos} {kt k2 pt2} (hc : X.calm = true) (hN : X.N.Nodup) (ha : PA X [a, b] (lA X.K W (dCons f (dCons g dNil))))
    (hi : X.N[i]? = some x := by rfl) (hj : X.N[j]? = some y := by rfl) (hx : Loc X.env.scope x := by first | exact Or.inl rfl | exact Or.inr rfl) (hy : Loc X.env.scope y := by first | exact Or.inl rfl | exact Or.inr rfl)
    (hfx : X.fn x = true ∨ X.env.scope.names.lookup x = some .local := by first | exact .inl rfl | exact .inr rfl | assumption) (hfy : X.fn y = true ∨ X.env.scope.names.lookup y = some .local := by first | exact .inl rfl | exact .inr rfl | assumption)
    (hs : swapsWithSole [.Tuple [.Name x px, .Name y py] kt pt] (.Tuple [a, b] k2 pt2) pos.line X.env = pure false := by rfl) (hw : swappedStores [.Tuple [.Name x px, .Name y py] kt pt] (.Tuple [a, b] k2 pt2) X.env = pure none := by rfl)
    (h1 : (assignEach [.Tuple [.Name x px, .Name y py] kt pt] X.env).map (·.2) = [assign (.Tuple [.Name x px, .Name y py] kt pt) X.env] := by rfl) (h2 : (assignEach [.Name x px, .Name y py] X.env).map (·.2) = assign (.Name x px) X.env :: (assignEach [.Name y py] X.env).map (·.2) := by rfl)
    (h3 : (assignEach [.Name y py] X.env).map (·.2) = assign (.Name y py) X.env :: (assignEach [] X.env).map (·.2) := by rfl) (hn : (assignEach [.Name x px, .Name y py] X.env).length = 2 := by rfl) (hst : (assignEach [.Name x px, .Name y py] X.env).findIdx? (·.1) = none := by rfl) :
    PS X (.Assign [.Tuple [.Name x px, .Name y py] kt pt] (.Tuple [a, b] k2 pt2) pos) (lS X.K W (sPar2 i j f g)) :=
  ps_imp (ps_asg (pe_tup ha) (pg_tup hc (pgs_cons (pg_name (i := i) hN hi hx hfx) (pgs_cons (pg_name (i := j) hN hj hy hfy) pgs_nil h3) h2) hn hst) hs hw h1) fun D σ H ⟨ρ, G, la, E, r, h, b⟩ => ⟨ρ, G, la, fun xs ρ2 => ∃ u v, xs = [u, v] ∧ E.nx ⟨ρ2.T, (ρ2.s.set i (some u)).set j (some v)⟩, _, r, by
    show f E.xn ρ fun x ρ1 => g E.xn ρ1 fun y ρ2 => ∃ u v, [x, y] = [u, v] ∧ E.nx ⟨ρ2.T, (ρ2.s.set i (some u)).set j (some v)⟩
    have e : (fun (x : Sl) (ρ1 : Env) => g E.xn ρ1 fun y ρ2 => ∃ u v, [x, y] = [u, v] ∧ E.nx ⟨ρ2.T, (ρ2.s.set i (some u)).set j (some v)⟩) = fun x ρ1 => g E.xn ρ1 fun y ρ2 => E.nx ⟨ρ2.T, (ρ2.s.set i (some x)).set j (some y)⟩ := by
      funext x ρ1
      congr 1
      funext y ρ2
      exact propext ⟨fun ⟨u, v, h1, h2⟩ => by cases h1; exact h2, fun h2 => ⟨x, y, rfl, h2⟩⟩
    rw [e]
    exact h, fun xs ρ2 vs G2 la2 H2 p a z => by
    obtain ⟨u, v, rfl, p⟩ := p
    cases z with
    | cons z1 z =>
      cases z with
      | cons z2 z =>
        cases z
        rename_i v1 v2
        refine ⟨by show 2 ≤ sizeLine; decide, fun q hq => ⟨_, _, rfl, .inl (.inl upd_same), rfl, _, _, rfl, _, _, rfl, rfl, ?_⟩⟩
        have a2 := a.grow (Grow.hid (o := .tup [v1, v2]) a.r.ext hq)
        exact b.nx _ _ _ _ _ p ⟨a2.g, a2.p, (a2.r.set z1).set (ρ := ⟨ρ2.T, ρ2.s.set i (some u)⟩) z2⟩, b.xn⟩
end DL
set_option Elab.async false
set_option linter.all false
set_option maxRecDepth 100000
set_option maxHeartbeats 4000000
set_option autoImplicit false
/-! Errors with a field: their own __init__, raised, caught by name. -/
namespace DL
open PySem PySem.Spec PyProof.Rows L2

/-! ### B.__init__(self, ..), B an own class of errors -/
/-- what the text says of the base class -/
structure BaseC (K : PySem.W.Frag) (mg : Str → Option Value) (x : Str) (B : Addr) : Prop where
  g : mg x = some (.ref B)
  k : PySem.W.keepIn K (.ref B) = true
  rd : PySem.W.readsIn K B (.type "type") = true
  ga : PySem.W.specialIn K (.ref B) "__getattribute__" = some (some (.builtin "type.__getattribute__"))
  i : PySem.W.findCls K (.ref B) (.type "type") "__init__" = some (.val (.builtin "ValueError.__init__"))
section
variable {X : Cx} {e : Expr} {es : List Expr} {ta : TA} {p1 p2 pos : Pos} {x : Str} {B : Addr}
theorem pe_baseinit {pl : Sem Bool} (b : BaseC X.K X.mg x B) (ha : PA X (e :: es) ta) (hg : Gl X x := by rfl) (hdb : (x == ("__debug__" : Str)) = false := by decide)
    (hc : eval (.Call (.Attribute (.Name x p1) "__init__" p2) (e :: es) [] pos) X.env = (do
      let ov ← eval (.Name x p1) X.env
      standAt p2.atName
      let (f, first) ← holding [ov] (getMethod ov "__init__" pl)
      callWith pos f first (backTo pos (starEach (e :: es) X.env)) (backToKw pos (keywordEach [] X.env))) := by rfl)
    (he : starEach (e :: es) X.env = (false, eval e X.env) :: starEach es X.env := by rfl) (hpl : (backTo pos (starEach es X.env)).any (·.1) = false := by rfl) :
    PE X (.Call (.Attribute (.Name x p1) "__init__" p2) (e :: es) [] pos) (tVeI X.K ta) := by
  refine ⟨fun pins s σ H Q I h => ?_⟩
  refine PySem.W.methodCall_KW (ld_glob I hg b.g ?_ hdb) hc
  refine PySem.W.method_cls I.kIn b.ga ?_
  refine PySem.W.cls_value I.kIn b.rd b.i (by decide +kernel) ?_
  show wpAny _ _ (callWith pos (Value.builtin "ValueError.__init__") [] (backTo pos (starEach (e :: es) X.env)) []) _ _ _
  refine PyProof.Rows.callWith_method1 (thn (ha.run pos pins _ σ H _ (I.tok _) h) fun us s1 ⟨vs, H1, I1, r1, a, C, ws, ev, hl, T, ea, q⟩ => ?_) he hpl
  subst ev
  cases r1 with
  | @cons _ u0 _ ur ra rw' =>
    obtain rfl : u0 = Value.ref a := ra
    have hlen : ur.length ≤ sizeLine := by
      rw [← Paired.length rw', sizeLine_eq]
      omega
    exact oinit_ok T I1 ea hlen fun s' J => ⟨.non, H1, J, rfl, q⟩
end

/-! ### an own __init__ that keeps one field -/
def spI (f : Str) (C : Addr) : Sp := fun vs H Q _ => ∃ a x, vs = [.ref a, x] ∧ H a = some (exo a C none) ∧ ∀ dx, H dx = none → dx ≠ a → Q .non (upd (upd H dx (exd dx [(f, x)])) a (exo a C (some dx)))
section
variable {P : Program} {w : World} {K : PySem.W.Frag} {mg : Str → Option Value} {base : Heap}
theorem fn_ini {CX : CXT} {f : Str} {C fI : Addr} {name qual : Str} {params : Arguments} {body : List Stmt} {scope : Scope} {kV doc pm cdv ct dV oc : Value} {od an : Option Addr} {osl : Array (Option Value)} {N ps : List Str} {k : Nat}
    (lk : K.lookup fI = some ⟨oc, od, .func (PySem.W.fnOf name qual params body scope dV kV doc pm an cdv ct), osl⟩) (hcd : PySem.W.codeIn K cdv qual = true) (S : FnScope N ps scope) (hn : ps.length = 2)
    (T : OexC K C) (hno : PySem.W.findIn K (.ref C) f = some none) (m : Str)
    (hB : ∀ (A : Around) (outer : List PySem.Env) (s : Shared) (H : Hp) (E : XK), Room k (A.deeper (envOfC qual scope s.heap.objs.size fI cdv)) →
      PSs (cxOf CX P w K mg base N qual scope fI cdv A outer s H E) body (tSeq (tDrop (tVeI K (tCons (tVar 0) (tCons (tC (.str m)) tNil)))) (tOst K f (tVar 0) (tVar 1)))) :
    FnOk P w K mg base CX (k + 1) fI (PySem.W.fnOf name qual params body scope dV kV doc pm an cdv ct) ps (spI f C) := by
  refine fn_of lk hcd S (fun vs H Q E h => ?_) (fun A outer s H vs Q E hr h => ⟨_, hB A outer s H E hr, ?_⟩)
  · obtain ⟨a, x, rfl, _⟩ := h
    exact hn.symm
  · obtain ⟨a, x, rfl, ha, q⟩ := h
    have s0 : (L2.start N [V.ref a, x])[0]? = some (some (.ref a)) := rfl
    have s1 : (L2.start N [V.ref a, x])[1]? = some (some x) := rfl
    refine ⟨.ref a, s0, a, C, [.str m], rfl, by simp, T, ha, ?_⟩
    refine ⟨x, s1, .ref a, s0, a, C, rfl, T, hno, .inl ⟨ha, fun dx hd ne => q dx hd ne⟩⟩
end

/-! ### raise C(e), C with such an __init__ -/
def sRaiseF (n f : Str) (fe : DE) : DS := fun E ρ => fe E.xn ρ fun d ρ' => E.xn ⟨n, some (f, d)⟩ ρ'
section
variable {X : Cx} {W : WX} {x f : Str} {e : Expr} {fe : DE} {C fI : Addr} {k : Nat} {fd : FuncData} {ps : List Str} {p p3 pos : Pos}
theorem ds_raiseF (hc : X.calm = true) (tk : Takes X W) (T : OexC X.K C) (iC : PySem.W.findIn X.K (.ref C) "__init__" = some (some (.ref fI))) (tI : PySem.W.typeIn X.K (.ref fI) = some (.type "function"))
    (F1 : FnOk X.prog X.w X.K X.mg X.base (L2.CX X.prog X.w) k fI fd ps (spI f C)) (hr : Room (k + 1) X.A) (hb : Binds X.K fd ps []) (hm : X.mg x = some (.ref C)) (hn : PySem.W.nsIn X.K mainGlobals x = some (some (.ref C)))
    (he : PE X e (lE X.K W fe)) (hg : Gl X x := by rfl) (hdb : (x == ("__debug__" : Str)) = false := by decide) (hs : starEach [e] X.env = (false, eval e X.env) :: starEach [] X.env := by rfl) (hpl : (backTo p3 (starEach [] X.env)).any (·.1) = false := by rfl) :
    PS X (.Raise (some (.Call (.Name x p) [e] [] p3)) none pos) (lS X.K W (sRaiseF x f fe)) := by
  refine ps_imp (ps_raise hc tk (pmk_oex T iC tI F1 hr hb (dvs := []) .nil (passes_call tk fun _ _ _ _ h => h.elim) hg hm (pa_cons he pa_nil hs) hdb hs hpl)) fun D σ H ⟨ρ, G, la, E, r, h, b⟩ => ?_
  refine ⟨ρ, G, la, _, E.xn, r, h, fun d ρ' v G' la' H' hp a z => ?_, b.xn⟩
  refine ⟨by simp, fun a0 h0 => ⟨a0, v, rfl, upd_same, fun dx hd ne => ⟨rfl, dx, [(f, v)], upd_same, ?_, ?_, ?_⟩⟩⟩
  · rw [upd_ne ne, upd_same]
  · rw [upd_ne ne] at hd
    exact hd
  · have hd' : H' dx = none := by
      rw [upd_ne ne] at hd
      exact hd
    have e1 : upd (del (upd (upd (upd H' a0 (exo a0 C none)) dx (exd dx [(f, v)])) a0 (exo a0 C (some dx))) a0) dx (.xd [(f, v)]) = upd H' dx (.xd [(f, v)]) := by
      funext b
      by_cases hb : b = dx
      · subst hb
        rw [upd_same, upd_same]
      · rw [upd_ne hb, upd_ne hb]
        by_cases hb2 : b = a0
        · subst hb2
          rw [del_same, h0]
        · rw [del_ne hb2, upd_ne hb2, upd_ne hb, upd_ne hb2]
    rw [e1]
    have w := Grow.new (o := .xd [(f, v)]) a.r.tb.ext hd'
    exact b.xn ⟨x, some (f, d)⟩ ρ' σ _ la' _ (.ref C) (some dx) hp (a.grow w) ⟨hn, dx, v, rfl, upd_same, z.up w.g⟩
end

/-! ### try, with clauses that name the error -/
def hndlF (R : List Str) (E : DN) : List (Str × (Xn → DS)) → XP
  | [] => E.xn
  | (c, S) :: r => fun x ρ => R.contains x.n = true ∧ if isaN x.n c = true then S x { E with xn := X0 } ρ else hndlF R E r x ρ
def sTryF (R : List Str) (B : DS) (cl : List (Str × (Xn → DS))) : DS := fun E ρ => B { E with xn := hndlF R E cl } ρ
/-- y = 'w' + str(e.f), e the error (slot i), y at slot j -/
def sFld (i j : Nat) (w f : Str) : Xn → DS := fun x E ρ => ρ.s[i]? = some none ∧ i ≠ j ∧ ∃ n : Int, x.f = some (f, .int n) ∧ n.natAbs.log2 < 1920 ∧ w.length + Str.length (toString n) ≤ sizeLine ∧ E.nx ⟨ρ.T, ρ.s.set j (some (.dat (.str (w ++ toString n))))⟩
def tFld (i j : Nat) (w f : Str) (A : Addr) (a : Addr) (cls : Value) (d : Option Addr) : TS :=
  tAsg (tOp (fun x y H Q => ∃ i j, x = .str i ∧ y = .str j ∧ i.length + j.length ≤ sizeLine ∧ Q (.str (i ++ j)) H) (tC (.str w)) (tCB (fun xs H Q => ∃ i, xs = [.int i] ∧ i.natAbs.log2 < 1920 ∧ Q (.str (toString i)) H) (tCons (tXf a cls d A f (tVar i)) tNil))) (gName j)
inductive DClF (X : Cx) (R : List Str) : List ExceptHandler → List Cl → List (Str × (Xn → DS)) → Prop
  | nil : DClF X R [] [] []
  | only {c : Str} {A : Addr} {S : DS} {b : Stmt} {su : List Stmt} {np p : Pos} {hs : List ExceptHandler} {ks : List Cl} {cl : List (Str × (Xn → DS))} (nm : Names X c (.ref A))
      (ex : ∀ n ∈ R, ∀ cls, PySem.W.nsIn X.K mainGlobals n = some (some cls) → PySem.W.exmOne X.K cls (.ref A) = some (isaN n c))
      (run : ∀ (a : Addr) (o : Obj) (pn : List (Addr × Obj)), PSs (X.suite a ((a, o) :: pn)) (b :: su) (lS X.K W0 S)) (r : DClF X R hs ks cl) :
      DClF X R (.ExceptHandler (some (.Name c np)) none (b :: su) p :: hs) (⟨.ref A, none, fun _ _ _ => lS X.K W0 S⟩ :: ks) ((c, fun _ => S) :: cl)
  | named {c n w f : Str} {i j : Nat} {A : Addr} {b : Stmt} {su : List Stmt} {np p : Pos} {hs : List ExceptHandler} {ks : List Cl} {cl : List (Str × (Xn → DS))} (nm : Names X c (.ref A)) (nd : X.N.Nodup) (hi : X.N[i]? = some n) (hl : X.env.kindOf n = some .local)
      (ex : ∀ n ∈ R, ∀ cls, PySem.W.nsIn X.K mainGlobals n = some (some cls) → PySem.W.exmOne X.K cls (.ref A) = some (isaN n c)) (hc : PySem.W.nsIn X.K mainGlobals c = some (some (.ref A))) (hd : (c == ("DogError" : Str)) = false)
      (run : ∀ (a : Addr) (o : Obj) (cls : Value) (d : Option Addr) (pn : List (Addr × Obj)), Zc cls d o → (∃ vs, o.data = .fields vs) → PSs (X.suite a ((a, o) :: pn)) (b :: su) (tFld i j w f A a cls d)) (r : DClF X R hs ks cl) :
      DClF X R (.ExceptHandler (some (.Name c np)) (some n) (b :: su) p :: hs) (⟨.ref A, some i, tFld i j w f A⟩ :: ks) ((c, sFld i j w f) :: cl)
section
variable {X : Cx} {W : WX} {R : List Str}
theorem DClF.ok {hs : List ExceptHandler} {ks : List Cl} {cl : List (Str × (Xn → DS))} (h : DClF X R hs ks cl) : ClsOk X hs ks := by
  induction h with
  | nil => exact .nil
  | only nm ex run r ih => exact .cons (.only nm fun a o cls d pn _ _ => run a o pn) ih
  | named nm nd hi hl ex hc hd run r ih => exact .cons (.named nm nd hi hl fun a o cls d pn z f => run a o cls d pn z f) ih
theorem DClF.wish {G : Hp} {la : List Addr} {E : DN} {D : Ends} (b : Bk X.K G la W E D) : ∀ {hs : List ExceptHandler} {ks : List Cl} {cl : List (Str × (Xn → DS))}, DClF X R hs ks cl → ∀ (x : Xn) (ρ' : Env) (σ' : L2.St) (G' : Hp) (la' : List Addr) (H' : Hp) (cls : Value) (od : Option Addr),
    hndlF R E cl x ρ' → Aft X.K G la σ' ρ' G' la' H' → XR X.K G' H' x cls od → (R.contains x.n = true) → wMix X.K W D ks cls od σ' H' := by
  intro hs ks cl h
  induction h with
  | nil =>
    intro x ρ' σ' G' la' H' cls od p a z _
    exact b.xn x ρ' σ' G' la' H' cls od p a z
  | @only c A S b0 su np p0 hs ks cl nm ex run r ih =>
    intro x ρ' σ' G' la' H' cls od p a z hR
    obtain ⟨_, p⟩ := p
    refine ⟨isaN x.n c, ex x.n (by simpa using hR) cls z.1, fun e => ?_, fun e => ?_⟩
    · rw [if_pos e] at p
      intro q hq
      have bb := b.up a.g a.p
      exact ⟨ρ', G', la', _, a.r, p, ⟨bb.nx, bb.bk, bb.ct, bb.rt, fun _ _ _ _ _ _ _ _ f => f.elim⟩⟩
    · rw [if_neg (by rw [e]; exact Bool.false_ne_true)] at p
      exact ih x ρ' σ' G' la' H' cls od p a z hR
  | @named c n w f i j A b0 su np p0 hs ks cl nm nd hi hl ex hc hd run r ih =>
    intro x ρ' σ' G' la' H' cls od p a z hR
    obtain ⟨_, p⟩ := p
    refine ⟨isaN x.n c, ex x.n (by simpa using hR) cls z.1, fun e => ?_, fun e => ?_⟩
    · rw [if_pos e] at p
      intro q hq
      obtain ⟨pi, hij, m, ef, lm, ll, pn⟩ := p
      have exn : x.n = c := by
        unfold isaN at e
        rw [hd, Bool.or_false] at e
        simpa using e
      have ecl : cls = .ref A := by
        have z1 := z.1
        rw [exn, hc] at z1
        cases z1
        rfl
      have z2 := z.2
      rw [ef] at z2
      obtain ⟨dd, v, e1, e2, e3⟩ := z2
      cases e3
      have li : i < σ'.length := by
        rw [← a.r.sl]
        exact (List.getElem?_eq_some_iff.mp pi).1
      have g1 : (σ'.set i (some (.ref q)))[i]? = some (some (V.ref q)) := by
        rw [List.getElem?_set_self li]
      refine ⟨.ref q, g1, rfl, ecl, dd, [(f, .int m)], .int m, e1, e2, by simp [List.lookup], m, rfl, lm, w, _, rfl, rfl, ll, ?_⟩
      refine b.nx ⟨ρ'.T, ρ'.s.set j (some (.dat (.str (w ++ toString m))))⟩ _ G' la' H' pn ⟨a.g, a.p, ⟨a.r.tb, ?_, fun y z hy => ?_⟩⟩
      · simp only [List.length_set]
        exact a.r.sl
      · by_cases hyj : j = y
        · subst hyj
          have lj : j < ρ'.s.length := by
            have := (List.getElem?_eq_some_iff.mp hy).1
            simpa using this
          rw [List.getElem?_set_self lj] at hy
          have ez := Option.some.inj (Option.some.inj hy)
          subst ez
          refine ⟨_, ?_, (.str _ : Dp X.K G' _ _)⟩
          rw [List.getElem?_set_ne hij, List.getElem?_set_self (by rw [List.length_set, ← a.r.sl]; exact lj)]
        · rw [List.getElem?_set_ne hyj] at hy
          have hyi : i ≠ y := fun t => by
            subst t
            rw [pi] at hy
            cases hy
          obtain ⟨u, hu, ru⟩ := a.r.at_ y z hy
          exact ⟨u, by rw [List.getElem?_set_ne hyi, List.getElem?_set_ne hyj, List.getElem?_set_ne hyi]; exact hu, ru⟩
    · rw [if_neg (by rw [e]; exact Bool.false_ne_true)] at p
      exact ih x ρ' σ' G' la' H' cls od p a z hR
end
end DL
set_option Elab.async false
set_option linter.all false
set_option maxRecDepth 100000
set_option maxHeartbeats 4000000
set_option autoImplicit false
/-! Errors as values: made, asked for their class, their field read. -/
namespace DL
open PySem PySem.Spec PyProof.Rows L2
/-- all own classes of errors; the fields of those that keep one -/
def errN : List Str := ["DogError", "InvalidDrill", "InvalidBeginning", "InvalidMany", "InvalidSheep", "InvalidPlace", "InvalidRun", "InvalidIndex", "Unlike", "NothingToUndo", "TooMany", "InvalidText"]
def fldN : List (Str × Str) := [("TooMany", "limit"), ("InvalidText", "line")]
theorem bt_ValueError : bootBuiltins "ValueError" = some (.type "ValueError") := by decide +kernel
theorem exO_tbl {cls : Value} {p : Addr} : ∀ ps, ExO cls p ≠ .tbl ps := fun ps z => by
  have z' : HO.ext _ = HO.tbl ps := z
  cases z'
theorem exd_tbl {p : Addr} {fs : List (Str × V)} : ∀ ps, exd p fs ≠ .tbl ps := fun ps z => by
  have z' : HO.ext _ = HO.tbl ps := z
  cases z'
/-! ### X(e) as a value -/
def dErr (x : Str) (fe : DE) : DE := fun X ρ Q => fe X ρ fun _ ρ' => Q (.err x none) ρ'
def dErf (x f : Str) (fe : DE) : DE := fun X ρ Q => fe X ρ fun d ρ' => match d with
  | .int i => Q (.err x (some (f, i))) ρ'
  | _ => False
section
variable {X : Cx} {W : WX} {x f : Str} {e : Expr} {fe : DE} {C fI : Addr} {k : Nat} {fd : FuncData} {ps : List Str} {p pos : Pos} {ta : TA} {es : List Expr} {sp : Sp}
theorem de_exc (ex : ExcC X.K X.mg x C) (he : PE X e (lE X.K W fe)) (hg : Gl X x := by rfl) (hs : starEach [e] X.env = (false, eval e X.env) :: starEach [] X.env := by rfl) (hdb : (x == ("__debug__" : Str)) = false := by decide) :
    PE X (.Call (.Name x p) [e] [] pos) (lE X.K W (dErr x fe)) :=
  pe_imp (pe_exc1 PySem.F.excBase_ValueError ex.x ex.g ex.k hg he hs hdb) fun σ H Q ⟨ρ, G, la, P, XX, r, h, q, xo⟩ =>
    ⟨ρ, G, la, _, XX, r, h, fun d ρ' v G' la' H' p a z a0 h0 => q (.err x none) ρ' (.ref a0) _ la' _ p (a.grow (Grow.new (o := ExO (.ref C) a0) a.r.tb.ext h0 exO_tbl)) (.err ex.n upd_same), xo⟩
/-- C(e, ..), C with an own __init__, as a value -/
def tVaO (C : Addr) (sp : Sp) (ta : TA) : TE := fun σ H Q => ta σ H fun vs H1 => vs.length ≤ 1000 ∧ ∀ a, H1 a = none → sp (.ref a :: vs) (upd H1 a (exo a C none)) (fun v H2 => v = .non ∧ Q (.ref a) H2) (fun _ _ _ => False)
theorem pe_oexv {CX : CXT} (T : OexC X.K C) (iC : PySem.W.findIn X.K (.ref C) "__init__" = some (some (.ref fI))) (tI : PySem.W.typeIn X.K (.ref fI) = some (.type "function"))
    (F1 : FnOk X.prog X.w X.K X.mg X.base CX k fI fd ps sp) (hr : Room (k + 1) X.A) (hb : Binds X.K fd ps []) (hx : Passes CX X (fun _ _ _ => False)) (hg : Gl X x) (hm : X.mg x = some (.ref C)) (ha : PA X (e :: es) ta)
    (hdb : (x == ("__debug__" : Str)) = false := by decide) (he : starEach (e :: es) X.env = (false, eval e X.env) :: starEach es X.env := by rfl) (hpl : (backTo pos (starEach es X.env)).any (·.1) = false := by rfl) :
    PE X (.Call (.Name x p) (e :: es) [] pos) (tVaO C sp ta) := by
  refine ⟨fun pins s σ H Q I h => ?_⟩
  obtain ⟨nm, q, N, bs, bm, sn, sub, ab, col, dd, k0, k1, k2, k3, k5, hC, hbm⟩ := T.cls
  refine wpAny_Call_Name_kw (ld_glob I hg hm ?_ hdb)
  refine PySem.W.callWith_K (h₀ := X.base) I.ok.mod.kin T.kC (thn (ha.run pos pins s σ H _ I h) fun us s1 ⟨vs, H1, I1, r1, hz, q1⟩ => ⟨I1.kIn, ?_⟩) he hpl
  show wpAny _ _ (call (.ref C) us) _ _ _
  obtain ⟨hp, g, dr, tk, os⟩ := s1
  have hsz : hp.objs.size ≤ hp.objs.size + 1 := Nat.le_succ _
  have hn : H1 (hp.objs.size + 1) = none := I1.hok.fresh hsz
  have hq := q1 (hp.objs.size + 1) hn
  have kk : ∀ b o, hp.get? b = some o → ((hp.push (PySem.W.kdv_tup us)).push (PySem.HandSPX.excO C hp.objs.size)).get? b = some o := fun b o e => Heap.get?_push_of_some _ (Heap.get?_push_of_some _ e)
  have hget : ((hp.push (PySem.W.kdv_tup us)).push (PySem.HandSPX.excO C hp.objs.size)).get? (hp.objs.size + 1) = some (PySem.HandSPX.excO C hp.objs.size) := by heap_get
  have I2 : Inv X pins σ (upd H1 (hp.objs.size + 1) (exo (hp.objs.size + 1) C none)) ⟨(hp.push (PySem.W.kdv_tup us)).push (PySem.HandSPX.excO C hp.objs.size), g, dr, tk, os⟩ :=
    I1.laid (t' := tk) (a := hp.objs.size + 1) (o := exo (hp.objs.size + 1) C none) (h' := (hp.push (PySem.W.kdv_tup us)).push (PySem.HandSPX.excO C hp.objs.size)) kk hsz (exo_ok hget)
  have r2 : Vals (V.ref (hp.objs.size + 1) :: vs) (Value.ref (hp.objs.size + 1) :: us) := .cons rfl r1
  have hl : (Value.ref (hp.objs.size + 1) :: us).length = ps.length := by
    have e := r2.length
    rw [F1.len _ _ _ _ hq] at e
    exact e.symm
  have hus : us.length ≤ sizeLine := by
    rw [← Paired.length r1, sizeLine_eq]
    omega
  have hbb := hb _ (Value.ref (hp.objs.size + 1) :: us) I2.kIn (by simpa using hl)
  rw [List.append_nil] at hbb
  refine wpAny_call (PySem.HandSPX.call_own F.excBase_ValueError (fun Y => PySem.HandSPX.refsVE_contains Y bm hbm) (I1.kIn _ _ hC) (PySem.W.looks_findIn I1.kIn iC) (fun self => PySem.W.bind_fn I1.kIn self tI) hus
    (codeAny_mono (F1.run _ X.stack _ _ ⟨Value.ref (hp.objs.size + 1) :: us, []⟩ (Value.ref (hp.objs.size + 1) :: us) _ _ (fun _ _ _ => False) (hr.make C us []) (I2.env0.make C us []) hbb r2 hq) fun r s' hq' => ?_))
  cases r with
  | error er => exact hx pins σ _ _ er s' I2 hq'
  | ok fl =>
    cases fl with
    | ret u =>
      obtain ⟨v, H2, J, rv, ev, q2⟩ := I2.after hq'
      subst ev
      exact ⟨rv, .ref (hp.objs.size + 1), H2, J, rfl, q2⟩
    | next => exact False.elim hq'
    | brk => exact False.elim hq'
    | cont => exact False.elim hq'
end
section
variable {X : Cx} {W : WX} {x f : Str} {e : Expr} {fe : DE} {C fI : Addr} {k : Nat} {fd : FuncData} {ps : List Str} {p pos : Pos}
theorem de_excF (T : OexC X.K C) (iC : PySem.W.findIn X.K (.ref C) "__init__" = some (some (.ref fI))) (tI : PySem.W.typeIn X.K (.ref fI) = some (.type "function"))
    (F1 : FnOk X.prog X.w X.K X.mg X.base (L2.CX X.prog X.w) k fI fd ps (spI f C)) (hr : Room (k + 1) X.A) (hb : Binds X.K fd ps []) (tk : Takes X W) (hm : X.mg x = some (.ref C)) (hn : PySem.W.nsIn X.K mainGlobals x = some (some (.ref C)))
    (he : PE X e (lE X.K W fe)) (hg : Gl X x := by rfl) (hdb : (x == ("__debug__" : Str)) = false := by decide) (hs : starEach [e] X.env = (false, eval e X.env) :: starEach [] X.env := by rfl) (hpl : (backTo pos (starEach [] X.env)).any (·.1) = false := by rfl) :
    PE X (.Call (.Name x p) [e] [] pos) (lE X.K W (dErf x f fe)) := by
  refine pe_imp (pe_oexv T iC tI F1 hr hb (passes_call tk fun _ _ _ _ h => h.elim) hg hm (pa_cons he pa_nil hs) hdb hs hpl) fun σ H Q ⟨ρ, G, la, P, XX, r, h, q, xo⟩ => ?_
  refine ⟨ρ, G, la, _, XX, r, h, fun d ρ' v G' la' H' hp a z => ?_, xo⟩
  split at hp
  · rename_i i
    cases z
    refine ⟨by simp, fun a0 h0 => ⟨a0, .int i, rfl, upd_same, fun dx hd ne => ⟨rfl, ?_⟩⟩⟩
    have hd' : H' dx = none := by
      rw [upd_ne ne] at hd
      exact hd
    have e1 : upd (upd (upd H' a0 (exo a0 C none)) dx (exd dx [(f, .int i)])) a0 (exo a0 C (some dx)) = upd (upd H' dx (exd dx [(f, .int i)])) a0 (exo a0 C (some dx)) := by
      funext b
      by_cases hb : b = a0
      · subst hb
        rw [upd_same, upd_same]
      · rw [upd_ne hb, upd_ne hb]
        by_cases hb2 : b = dx
        · subst hb2
          rw [upd_same, upd_same]
        · rw [upd_ne hb2, upd_ne hb2, upd_ne hb]
    rw [e1]
    have w1 := Grow.new (o := exd dx [(f, .int i)]) a.r.tb.ext hd' exd_tbl
    have h0' : upd H' dx (exd dx [(f, .int i)]) a0 = none := by
      rw [upd_ne (Ne.symm ne)]
      exact h0
    have w2 := Grow.new (o := exo a0 C (some dx)) w1.i h0' (fun ps => exo_tbl)
    exact q (.err x (some (f, i))) ρ' (.ref a0) _ la' _ hp (a.grow (w1.trans w2)) (.erf hn upd_same (by rw [upd_ne ne, upd_same]))
  · exact hp.elim
end

/-! ### isinstance -/
/-- what the class of an error must say, so that its instances are asked rightly -/
structure ErrK (K : PySem.W.Frag) (C : Addr) : Prop where
  cl : (PySem.W.clsIn K C).isSome = true
  hg : PySem.W.findIn K (.ref C) "__getattribute__" = some (some (.builtin "BaseException.__getattribute__"))
  hk : PySem.W.findIn K (.ref C) "__getattr__" = some none
  hs : PySem.W.subIn K (.ref C) (.type "BaseException") = some true
  ha : PySem.W.findIn K (.ref C) "__class__" = some (some (.builtin "object.__class__"))
  hm : PySem.W.mroIn K C (.type "object") = some true
structure ErrAll (K : PySem.W.Frag) (N : List Str) : Prop where
  hn : PySem.W.specialIn K (.builtin "object.__class__") "__get__" = some (some (.builtin "getset_descriptor.__get__"))
  ht : PySem.W.takesIn K (.builtin "object.__class__") = some true
  c : ∀ n ∈ N, ∀ C, PySem.W.nsIn K mainGlobals n = some (some (.ref C)) → ErrK K C
  i : ∀ n ∈ N, ∀ c ∈ N, ∀ C D, PySem.W.nsIn K mainGlobals n = some (some (.ref C)) → PySem.W.nsIn K mainGlobals c = some (some (.ref D)) → PySem.W.kitOne K (.ref C) (.ref D) = some (isaN n c)
  v : ∀ n ∈ N, ∀ C, PySem.W.nsIn K mainGlobals n = some (some (.ref C)) → PySem.W.kitOne K (.ref C) (.type "ValueError") = some true
theorem fm0 {α : Type} {P : α → Prop} : ∀ p ∈ ([] : List α), P p := fun p h => nomatch h
theorem fm2 {α : Type} {P : α → Prop} {a : α} {l : List α} (h : P a) (r : ∀ p ∈ l, P p) : ∀ p ∈ a :: l, P p := fun p hp => by
  rcases List.mem_cons.mp hp with rfl | hp
  · exact h
  · exact r p hp
theorem fmI {K : PySem.W.Frag} {n c : Str} {C D : Addr} {x : Bool} (h : PySem.W.kitOne K (.ref C) (.ref D) = some x) (e : isaN n c = x := by decide) : PySem.W.kitOne K (.ref C) (.ref D) = some (isaN n c) := by rw [e]; exact h
theorem kit_mk {K : PySem.W.Frag} {C D : Addr} {b : Bool} (h : PySem.W.subIn K (.ref C) (.ref D) = some b) (self : PySem.W.subIn K (.ref C) (.ref C) = some true) (hc : PySem.W.isClsIn K D = true) (ht : PySem.W.typeIn K (.ref D) = some (.type "type")) : PySem.W.kitOne K (.ref C) (.ref D) = some b := by
  unfold PySem.W.kitOne
  by_cases e : C = D
  · subst e
    rw [self] at h
    rw [if_pos (by simp)]
    exact h
  · rw [if_neg (by simp; exact e)]
    show (if ((PySem.W.clsIn K D).isSome && PySem.W.typeIn K (.ref D) == some (.type "type")) = true then PySem.W.subIn K (.ref C) (.ref D) else none) = some b
    rw [show (PySem.W.clsIn K D).isSome = true from hc, ht, if_pos (by decide)]
    exact h
theorem kit_ve {K : PySem.W.Frag} {C : Addr} (h : PySem.W.subIn K (.ref C) (.type "ValueError") = some true) : PySem.W.kitOne K (.ref C) (.type "ValueError") = some true := by
  unfold PySem.W.kitOne
  rw [if_neg (by intro z; cases (eq_of_beq z))]
  show (if PySem.W.kitMeta "ValueError" = true then PySem.W.subIn K (.ref C) (.type "ValueError") else none) = some true
  rw [if_pos (by first | rfl | decide +kernel | kernel_rfl)]
  exact h
theorem errAll_mk {K : PySem.W.Frag} {N : List Str} (L : List (Str × Addr)) (hN : L.map (·.1) = N) (hL : ∀ p ∈ L, PySem.W.nsIn K mainGlobals p.1 = some (some (.ref p.2))) (hc : ∀ p ∈ L, ErrK K p.2)
    (hi : ∀ p ∈ L, ∀ q ∈ L, PySem.W.kitOne K (.ref p.2) (.ref q.2) = some (isaN p.1 q.1)) (hv : ∀ p ∈ L, PySem.W.kitOne K (.ref p.2) (.type "ValueError") = some true)
    (hn : PySem.W.specialIn K (.builtin "object.__class__") "__get__" = some (some (.builtin "getset_descriptor.__get__"))) (ht : PySem.W.takesIn K (.builtin "object.__class__") = some true) : ErrAll K N := by
  subst hN
  have at_ : ∀ n ∈ L.map (·.1), ∀ C, PySem.W.nsIn K mainGlobals n = some (some (.ref C)) → (n, C) ∈ L := fun n hn C h => by
    obtain ⟨p, hp, rfl⟩ := List.mem_map.mp hn
    have := hL p hp
    rw [h] at this
    cases this
    exact hp
  exact ⟨hn, ht, fun n h C e => hc _ (at_ n h C e), fun n h c h' C D e e' => hi _ (at_ n h C e) _ (at_ c h' D e'), fun n h C e => hv _ (at_ n h C e)⟩
theorem fldAll_mk {K : PySem.W.Frag} {F : List (Str × Str)} (L : List ((Str × Str) × Addr)) (hN : L.map (·.1) = F) (hL : ∀ p ∈ L, PySem.W.nsIn K mainGlobals p.1.1 = some (some (.ref p.2))) (hc : ∀ p ∈ L, XfC K p.2 ∧ PySem.W.findIn K (.ref p.2) p.1.2 = some none) :
    ∀ q ∈ F, ∀ C, PySem.W.nsIn K mainGlobals q.1 = some (some (.ref C)) → XfC K C ∧ PySem.W.findIn K (.ref C) q.2 = some none := by
  subst hN
  intro q hq C h
  obtain ⟨p, hp, rfl⟩ := List.mem_map.mp hq
  have := hL p hp
  rw [h] at this
  cases this
  exact hc p hp
def rIsX (K : PySem.W.Frag) : List V → Hp → VK → Prop := fun xs H Q => ∃ (p C : Addr) (c : V) (cv : Value) (b : Bool), xs = [.ref p, c] ∧ (H p = some (ExO (.ref C) p) ∨ ∃ dx fs, H p = some (exo p C (some dx)) ∧ H dx = some (exd dx fs)) ∧ ErrK K C ∧
  PySem.W.specialIn K (.builtin "object.__class__") "__get__" = some (some (.builtin "getset_descriptor.__get__")) ∧ PySem.W.takesIn K (.builtin "object.__class__") = some true ∧ (∀ u, RelV c u → u = cv) ∧ PySem.W.kitOne K (.ref C) cv = some b ∧ Q (.bl b) H
theorem call_isX {X : Cx} : CallR X (.builtin "isinstance") (rIsX X.K) := by
  intro pins s σ H xs us Q I r h
  obtain ⟨p, C, c, cv, b, rfl, hp, E, hn, ht, hcv, e, q⟩ := h
  cases r with
  | cons rx rr =>
    cases rr with
    | cons rt rr =>
      cases rr
      cases rx
      have ec := hcv _ rt
      subst ec
      rcases hp with hp | ⟨dx, fs, hp, hd⟩
      · obtain ⟨⟨oe, vs, ho, hz, hv, h1, _⟩, _, _⟩ := I.hok p _ hp
        have J : PySem.W.InstAt s.heap p oe C none := by
          obtain ⟨oc, od, oda, osl⟩ := oe
          obtain ⟨z1, z2⟩ := hz
          dsimp only at z1 z2 hv
          subst z1 z2 hv
          exact ⟨ho, rfl, rfl, trivial⟩
        exact PySem.W.kia_one (PySem.W.kitx_exc E.cl E.hg E.hk E.hs E.ha hn ht E.hm) I.kIn J e (fun z => nomatch z) fun tk => ⟨.bl b, H, I.kept (t' := tk) fun _ _ z => z, rfl, q⟩
      · obtain ⟨t1, ho⟩ := exo_at I.hok hp
        obtain ⟨mA, ⟨od, es, ep, hod, _⟩, _⟩ := exd_at I.hok hd
        have J : PySem.W.InstAt s.heap p _ C (some od) := ⟨ho, rfl, rfl, hod⟩
        exact PySem.W.kia_one (PySem.W.kitx_exc E.cl E.hg E.hk E.hs E.ha hn ht E.hm) I.kIn J e (fun z => nomatch z) fun tk => ⟨.bl b, H, I.kept (t' := tk) fun _ _ z => z, rfl, q⟩
def gIsE (N : List Str) : List D → (D → Prop) → Prop
  | [.err n _, .fn c], P => N.contains n = true ∧ N.contains c = true ∧ P (.bl (isaN n c))
  | [.err n _, .raw (.ty "ValueError")], P => N.contains n = true ∧ P (.bl true)
  | _, _ => False
theorem c_isE {K : PySem.W.Frag} {N : List Str} (EA : ErrAll K N) : COp K (rIsX K) (gIsE N) := by
  intro G H vs ds P Q sm h gp k
  unfold gIsE at gp
  split at gp
  · rename_i n f c
    obtain ⟨hN, hC, gp⟩ := gp
    obtain ⟨v, u, rfl, a, b⟩ := two_of h
    cases b with
    | fn hc =>
    cases a with
    | err hn hp =>
      exact ⟨_, _, _, _, _, rfl, .inl (sm _ _ hp), EA.c n (by simpa using hN) _ hn, EA.hn, EA.ht, fun u r => r, EA.i n (by simpa using hN) c (by simpa using hC) _ _ hn hc, k _ _ _ _ gp (Grow.refl sm) (.bl _)⟩
    | erf hn hp hd =>
      exact ⟨_, _, _, _, _, rfl, .inr ⟨_, _, sm _ _ hp, sm _ _ hd⟩, EA.c n (by simpa using hN) _ hn, EA.hn, EA.ht, fun u r => r, EA.i n (by simpa using hN) c (by simpa using hC) _ _ hn hc, k _ _ _ _ gp (Grow.refl sm) (.bl _)⟩
  · rename_i n f
    obtain ⟨hN, gp⟩ := gp
    obtain ⟨v, u, rfl, a, b⟩ := two_of h
    cases b
    cases a with
    | err hn hp =>
      exact ⟨_, _, _, _, _, rfl, .inl (sm _ _ hp), EA.c n (by simpa using hN) _ hn, EA.hn, EA.ht, fun u r => r, EA.v n (by simpa using hN) _ hn, k _ _ _ _ gp (Grow.refl sm) (.bl _)⟩
    | erf hn hp hd =>
      exact ⟨_, _, _, _, _, rfl, .inr ⟨_, _, sm _ _ hp, sm _ _ hd⟩, EA.c n (by simpa using hN) _ hn, EA.hn, EA.ht, fun u r => r, EA.v n (by simpa using hN) _ hn, k _ _ _ _ gp (Grow.refl sm) (.bl _)⟩
  · exact gp.elim

/-! ### e.f -/
def tFldX (K : PySem.W.Frag) (f : Str) (te : TE) : TE := fun σ H Q => te σ H fun x H1 => ∃ (p C dx : Addr) (fs : List (Str × V)) (v : V), x = .ref p ∧ H1 p = some (exo p C (some dx)) ∧ H1 dx = some (exd dx fs) ∧ XfC K C ∧ PySem.W.findIn K (.ref C) f = some none ∧ fs.lookup f = some v ∧ Q v H1
theorem pe_fldX {X : Cx} {e : Expr} {te : TE} {pos : Pos} {f : Str} (he : PE X e te) (hb : attributeBase e f X.env (eval e X.env) = eval e X.env := by rfl) : PE X (.Attribute e f pos) (tFldX X.K f te) := by
  refine ⟨fun pins s σ H Q I h => ?_⟩
  refine attr_of hb (thn (he.run pins s σ H _ I h) fun u s1 hh => ?_)
  obtain ⟨x, H1, I1, rx, p, C, dx, fs, v, ex, hp, hd, T, hno, l, q⟩ := hh
  subst ex
  obtain rfl : u = Value.ref p := rx
  obtain ⟨t1, ho⟩ := exo_at I1.hok hp
  obtain ⟨mA, hns, hr⟩ := exd_at I1.hok hd
  obtain ⟨od, hod, hl⟩ := lookIn_ns hns
  obtain ⟨u, hu, ru⟩ := RelO.some_of (v := v) (o := mA f) (by rw [← l]; exact hr f)
  have J : PySem.W.InstAt s1.heap p _ C (some od) := ⟨ho, rfl, rfl, hod⟩
  exact HandSPX.exc_get I1.kIn J T.ga T.gg T.exC (PySem.W.findObj_own T.hdC hno rfl (by rw [hl, hu])) (handed_of ru) ⟨v, H1, I1.tok _, ru, q⟩
/-- F: (class, field) pairs -/
def dFld (F : List (Str × Str)) (f : Str) (fe : DE) : DE := fun X ρ Q => fe X ρ fun d ρ' => match d with
  | .err n (some (g, i)) => g = f ∧ F.contains (n, f) = true ∧ Q (.int i) ρ'
  | _ => False
theorem de_fld {X : Cx} {W : WX} {e : Expr} {fe : DE} {pos : Pos} {f : Str} {F : List (Str × Str)} (hF : ∀ q ∈ F, ∀ C, PySem.W.nsIn X.K mainGlobals q.1 = some (some (.ref C)) → XfC X.K C ∧ PySem.W.findIn X.K (.ref C) q.2 = some none)
    (he : PE X e (lE X.K W fe)) (hb : attributeBase e f X.env (eval e X.env) = eval e X.env := by rfl) : PE X (.Attribute e f pos) (lE X.K W (dFld F f fe)) :=
  pe_imp (pe_fldX he hb) fun σ H Q ⟨ρ, G, la, P, XX, r, h, q, xo⟩ => ⟨ρ, G, la, _, XX, r, h, fun d ρ' v G' la' H' p a z => by
    split at p
    · rename_i n g i
      obtain ⟨rfl, hm, p⟩ := p
      cases z with
      | erf hn hp hd =>
        obtain ⟨t, no⟩ := hF (n, g) (by simpa using hm) _ hn
        exact ⟨_, _, _, _, _, rfl, a.r.tb.ext _ _ hp, a.r.tb.ext _ _ hd, t, no, by simp [List.lookup], q _ _ _ _ _ _ p a (.int i)⟩
    · exact p.elim, xo⟩
end DL
set_option Elab.async false
set_option linter.all false
set_option maxRecDepth 100000
set_option maxHeartbeats 4000000
set_option autoImplicit false
/-! Texts at data level: join, split, strip, str, int, the signs of a text. -/
namespace DL
open PySem PySem.Spec PyProof.Rows L2

/-! ### methods of a text with one argument -/
def GM1 (K : PySem.W.Frag) (r : V → List V → Hp → VK → Prop) (g : D → D → (D → Prop) → Prop) : Prop := ∀ (G H : Hp) (x y : V) (d e : D) (P : D → Prop) (Q : VK), Same G H → Dp K G x d → Dp K G y e → g d e P →
  (∀ z v G' H', P z → Grow G H G' H' → Dp K G' v z → Q v H') → r x [y] H Q
def dM1 (g : D → D → (D → Prop) → Prop) (fo fe : DE) : DE := fun X ρ Q => fo X ρ fun d ρ1 => (∃ a, d = .str a) ∧ fe X ρ1 fun e ρ2 => g d e fun z => Q z ρ2
theorem m1_core {K : PySem.W.Frag} {W : WX} {r : V → List V → Hp → VK → Prop} {g : D → D → (D → Prop) → Prop} {fo fe : DE} (hg : GM1 K r g) : ∀ (σ : L2.St) (H : Hp) (Q : VK), lE K W (dM1 g fo fe) σ H Q → tM1 r (lE K W fo) (lE K W fe) σ H Q := fun σ H Q ⟨ρ, G, la, P, XX, re, h, q, xo⟩ =>
  ⟨ρ, G, la, _, XX, re, h, fun d ρ1 v G1 la1 H1 p1 a1 z1 => ⟨by
      obtain ⟨⟨a, rfl⟩, _⟩ := p1
      cases z1
      exact ⟨_, rfl⟩, ρ1, G1, la1, _, XX, a1.r, p1.2, fun e ρ2 u G2 la2 H2 p2 a2 z2 =>
    hg G2 H2 v u d e _ Q a2.r.ext (z1.up a2.g) z2 p2 fun z w G' H' pz gr dz => q _ _ _ _ _ _ pz ((a1.trans a2).grow gr) dz, xo.up a1.g a1.p⟩, xo⟩
def strsOf : List D → Option (List Str)
  | [] => some []
  | .str a :: r => (strsOf r).map (a :: ·)
  | _ :: _ => none
theorem strsOf_map : ∀ l : List Str, strsOf (l.map .str) = some l
  | [] => rfl
  | a :: l => by
    show (strsOf (l.map .str)).map (a :: ·) = some (a :: l)
    rw [strsOf_map l]
    rfl
theorem strsOf_of {K : PySem.W.Frag} {G : Hp} : ∀ {vs : List V} {ds : List D} {ys : List Str}, Dps K G vs ds → strsOf ds = some ys → vs = ys.map V.str
  | _, _, _, .nil, h => by
    have e := Option.some.inj h
    subst e
    rfl
  | _, .str a :: r, _, .cons x s, h => by
    have h' : (strsOf r).map (a :: ·) = some _ := h
    obtain ⟨t, ht, e⟩ := Option.map_eq_some_iff.mp h'
    subst e
    cases x
    rw [strsOf_of s ht]
    rfl
  | _, .non :: _, _, .cons _ _, h => by cases h
  | _, .bl _ :: _, _, .cons _ _, h => by cases h
  | _, .int _ :: _, _, .cons _ _, h => by cases h
  | _, .raw _ :: _, _, .cons _ _, h => by cases h
  | _, .tup _ :: _, _, .cons _ _, h => by cases h
  | _, .lst _ :: _, _, .cons _ _, h => by cases h
  | _, .scr _ :: _, _, .cons _ _, h => by cases h
  | _, .fn _ :: _, _, .cons _ _, h => by cases h
  | _, .err _ _ :: _, _, .cons _ _, h => by cases h
theorem dps_strs (K : PySem.W.Frag) (G : Hp) : ∀ ys : List Str, Dps K G (ys.map V.str) (ys.map D.str)
  | [] => .nil
  | y :: ys => .cons (.str y) (dps_strs K G ys)
def gJoin : D → D → (D → Prop) → Prop
  | .str a, .lst ds, P => match strsOf ds with
    | some ys => (ys.map (·.length)).sum + ys.length * a.length ≤ 16777216 ∧ P (.str (Txt.join a ys))
    | none => False
  | _, _, _ => False
def gSplit : D → D → (D → Prop) → Prop
  | .str a, .str b, P => ((b.length == 0) = false ∧ a.length + 2 ≤ sizeLine) ∧ P (.lst ((Txt.split a b).map .str))
  | _, _, _ => False
def gStrip : D → D → (D → Prop) → Prop
  | .str a, .str b, P => a.length ≤ sizeLine ∧ P (.str (Txt.stripChars a b))
  | _, _, _ => False
section
variable {X : Cx} {W : WX} {o e : Expr} {fo fe : DE}
theorem g_join {K : PySem.W.Frag} : GM1 K (fun x xs H Q => ∃ a p, ∃ ys : List Str, x = .str a ∧ xs = [.ref p] ∧ (SqL K H p (ys.map V.str) ∨ SqT K H p (ys.map V.str)) ∧ (ys.map (·.length)).sum + ys.length * a.length ≤ 16777216 ∧ Q (.str (Txt.join a ys)) H) gJoin := by
  intro G H x y d e P Q sm dx dy gp k
  unfold gJoin at gp
  split at gp
  · rename_i a ds
    split at gp
    · rename_i ys hy
      cases dx
      cases dy with
      | lst hp hl hd =>
        have ev := strsOf_of hd hy
        subst ev
        exact ⟨a, _, ys, rfl, rfl, .inl (SqL.of (sm _ _ hp)), gp.1, k _ _ _ _ gp.2 (Grow.refl sm) (.str _)⟩
    · exact gp.elim
  · exact gp.elim
theorem g_split {K : PySem.W.Frag} : GM1 K (fun x xs H Q => ∃ a b, x = .str a ∧ xs = [.str b] ∧ (b.length == 0) = false ∧ a.length + 2 ≤ sizeLine ∧ rNewStrs (Txt.split a b) H Q) gSplit := by
  intro G H x y d e P Q sm dx dy gp k
  unfold gSplit at gp
  split at gp
  · rename_i a b
    cases dx
    cases dy
    refine ⟨a, b, rfl, rfl, gp.1.1, gp.1.2, fun p hp => ?_⟩
    have hl : (Txt.split a b).length ≤ sizeLine := Nat.le_trans (PyProof.Rows.split_le a b) gp.1.2
    exact k _ _ _ _ gp.2 (Grow.new (o := .lst ((Txt.split a b).map V.str)) sm hp) (.lst upd_same (by rw [List.length_map]; exact hl) (dps_strs K _ _))
  · exact gp.elim
theorem g_strip {K : PySem.W.Frag} : GM1 K (fun x xs H Q => ∃ a b, x = .str a ∧ xs = [.str b] ∧ a.length ≤ sizeLine ∧ Q (.str (Txt.stripChars a b)) H) gStrip := by
  intro G H x y d e P Q sm dx dy gp k
  unfold gStrip at gp
  split at gp
  · rename_i a b
    cases dx
    cases dy
    exact ⟨a, b, rfl, rfl, gp.1, k _ _ _ _ gp.2 (Grow.refl sm) (.str _)⟩
  · exact gp.elim
theorem de_join {apos pos : Pos} (ho : PE X o (lE X.K W fo)) (he : PE X e (lE X.K W fe)) (hs : starEach [e] X.env = [(false, eval e X.env)] := by rfl) (hbase : attributeBase o "join" X.env (eval o X.env) = eval o X.env := by rfl) (hline : (apos.endLine == pos.line) = true := by rfl) :
    PE X (.Call (.Attribute o "join" apos) [e] [] pos) (lE X.K W (dM1 gJoin fo fe)) := pe_imp (pe_join ho he hs hbase hline) (m1_core g_join)
theorem de_split {apos pos : Pos} (ho : PE X o (lE X.K W fo)) (he : PE X e (lE X.K W fe)) (hs : starEach [e] X.env = [(false, eval e X.env)] := by rfl) (hbase : attributeBase o "split" X.env (eval o X.env) = eval o X.env := by rfl) (hline : (apos.endLine == pos.line) = true := by rfl) :
    PE X (.Call (.Attribute o "split" apos) [e] [] pos) (lE X.K W (dM1 gSplit fo fe)) := pe_imp (pe_split ho he hs hbase hline) (m1_core g_split)
theorem de_strip {apos pos : Pos} (ho : PE X o (lE X.K W fo)) (he : PE X e (lE X.K W fe)) (hs : starEach [e] X.env = [(false, eval e X.env)] := by rfl) (hbase : attributeBase o "strip" X.env (eval o X.env) = eval o X.env := by rfl) (hline : (apos.endLine == pos.line) = true := by rfl) :
    PE X (.Call (.Attribute o "strip" apos) [e] [] pos) (lE X.K W (dM1 gStrip fo fe)) := pe_imp (pe_m1 F.slot_str_strip F.type_str_strip mt_stripChars ho he hs hbase hline) (m1_core g_strip)
end

/-! ### str, int -/
def gStr : List D → (D → Prop) → Prop
  | [.int i], P => i.natAbs.log2 < 1920 ∧ P (.str (toString i))
  | [.str a], P => P (.str a)
  | _, _ => False
theorem cr_str {X : Cx} : CallR X (.type "str") (fun xs H Q => (∃ i, xs = [.int i] ∧ i.natAbs.log2 < 1920 ∧ Q (.str (toString i)) H) ∨ ∃ a, xs = [.str a] ∧ Q (.str a) H) := call_str_int.or SkE.call_str_str
theorem c_str {K : PySem.W.Frag} : COp K (fun xs H Q => (∃ i, xs = [.int i] ∧ i.natAbs.log2 < 1920 ∧ Q (.str (toString i)) H) ∨ ∃ a, xs = [.str a] ∧ Q (.str a) H) gStr := by
  intro G H vs ds P Q sm h gp k
  unfold gStr at gp
  split at gp
  · obtain ⟨v, rfl, a⟩ := one_of h
    cases a
    exact .inl ⟨_, rfl, gp.1, k _ _ _ _ gp.2 (Grow.refl sm) (.str _)⟩
  · obtain ⟨v, rfl, a⟩ := one_of h
    cases a
    exact .inr ⟨_, rfl, k _ _ _ _ gp (Grow.refl sm) (.str _)⟩
  · exact gp.elim
def gIntS : List D → (D → Prop) → Prop
  | [.str a], P => ∃ n, PySem.intText? a = some n ∧ a.length ≤ 640 ∧ P (.int n)
  | _, _ => False
theorem c_intS {K : PySem.W.Frag} : COp K (fun xs H Q => ∃ a n, xs = [.str a] ∧ PySem.intText? a = some n ∧ a.length ≤ 640 ∧ Q (.int n) H) gIntS := by
  intro G H vs ds P Q sm h gp k
  unfold gIntS at gp
  split at gp
  · obtain ⟨v, rfl, a⟩ := one_of h
    obtain ⟨n, h1, h2, h3⟩ := gp
    cases a
    exact ⟨_, n, rfl, h1, h2, k _ _ _ _ h3 (Grow.refl sm) (.int _)⟩
  · exact gp.elim

/-! ### the signs of a text -/
def signsD (x : Str) : List D := x.cps.toList.map fun c => .str ⟨#[c]⟩
def dSgn (f : DE) : DI := fun X ρ Q => f X ρ fun d ρ' => match d with
  | .str x => x.length ≤ sizeLine ∧ Q (signsD x) ρ'
  | _ => False
theorem walkD_s {K : PySem.W.Frag} {G : Hp} (x : Str) : WalkD K (Its x) G (signsD x) := by
  have hl : (signsD x).length = x.cps.size := by simp [signsD]
  refine ⟨fun i H hi _ => ?_, fun H _ => ?_, fun i G' H v H' e e' y z hz => ?_⟩
  · show i < x.cps.size
    omega
  · show x.cps.size ≤ _
    omega
  · obtain ⟨rfl, c, hc, rfl⟩ := y
    have hz' : z = .str ⟨#[c]⟩ := by
      unfold signsD at hz
      rw [List.getElem?_map, Array.getElem?_toList, hc] at hz
      exact (Option.some.inj hz).symm
    subst hz'
    exact ⟨G', Grow.refl e', .str _⟩
theorem di_sgn {X : Cx} {W : WX} {tg e : Expr} {f : DE} (h : PE X e (lE X.K W f)) : PI X tg e (lI X.K W (dSgn f)) :=
  pi_imp (pi_str h) fun σ H R ⟨ρ, G, la, P, XX, r, h, q, xo⟩ => ⟨ρ, G, la, _, XX, r, h, fun d ρ1 v G1 la1 H1 p1 a1 z1 => by
    cases z1 with
    | str x =>
      have p1' : x.length ≤ sizeLine ∧ P (signsD x) ρ1 := p1
      exact ⟨x, rfl, q _ _ _ _ _ _ p1'.2 a1 (walkD_s x) (by
        rw [show (signsD x).length = x.length by simp [signsD, Str.length]]
        exact Nat.le_trans p1'.1 line62)⟩
    | _ => exact (show False from p1).elim, xo⟩
/-- one sign in a text -/
def gInS (neg : Bool) : D → D → (D → Prop) → Prop
  | .str x, .str z, P => ∃ c, x = ⟨#[c]⟩ ∧ P (.bl (if neg then !decide (c ∈ z.cps.toList) else decide (c ∈ z.cps.toList)))
  | _, _, _ => False
theorem g_inS {K : PySem.W.Frag} : GOp K (fun x y H Q => ∃ (c : Nat) (z : Str), x = .str ⟨#[c]⟩ ∧ y = .str z ∧ Q (.bl (decide (c ∈ z.cps.toList))) H) (gInS false) := by
  intro G H x y d e P Q sm dx dy gp k
  unfold gInS at gp
  split at gp
  · obtain ⟨c, rfl, gp⟩ := gp
    cases dx
    cases dy
    exact ⟨c, _, rfl, rfl, k _ _ _ _ gp (Grow.refl sm) (.bl _)⟩
  · exact gp.elim
theorem g_ninS {K : PySem.W.Frag} : GOp K (fun x y H Q => ∃ (c : Nat) (z : Str), x = .str ⟨#[c]⟩ ∧ y = .str z ∧ Q (.bl (!decide (c ∈ z.cps.toList))) H) (gInS true) := by
  intro G H x y d e P Q sm dx dy gp k
  unfold gInS at gp
  split at gp
  · obtain ⟨c, rfl, gp⟩ := gp
    cases dx
    cases dy
    exact ⟨c, _, rfl, rfl, k _ _ _ _ gp (Grow.refl sm) (.bl _)⟩
  · exact gp.elim
end DL
set_option Elab.async false
set_option linter.all false
set_option maxRecDepth 100000
set_option maxHeartbeats 4000000
set_option autoImplicit false
/-! try with named clauses; text * int; index and count of lists. -/
namespace DL
open PySem PySem.Spec PyProof.Rows L2
section
variable {X : Cx} {W : WX} {R : List Str}
theorem ds_tryF {body : List Stmt} {h0 : ExceptHandler} {hds : List ExceptHandler} {ks : List Cl} {pos : Pos} {B : DS} {c : Str × (Xn → DS)} {cl : List (Str × (Xn → DS))} (hs : X.stack = X.env :: X.outer) (hf : X.env.frame = some X.env.locals) (tk : Takes X W)
    (hb : ∀ (W' : WX) (pn : List (Addr × Obj)) (xe : Value → Shared → Prop), Takes (X.tr pn xe) W' → PassesOwn (model X.prog X.w) X.A X.env xe → PSs (X.tr pn xe) body (lS X.K W' B))
    (hk : DClF X R (h0 :: hds) ks (c :: cl)) : PS X (.Try body (h0 :: hds) [] [] pos) (lS X.K W (sTryF R B (c :: cl))) :=
  ps_imp (ps_tryC (tb := fun W' => lS X.K W' B) hs hf tk hb hk.ok) fun D σ H ⟨ρ, G, la, E, r, f, b⟩ =>
    ⟨ρ, G, la, { E with xn := hndlF R E (c :: cl) }, r, f, ⟨b.nx, b.bk, b.ct, b.rt, fun x ρ' σ' G' la' H' cls od p a z => DClF.wish b hk x ρ' σ' G' la' H' cls od p a z p.1⟩⟩
end
/-! ### text * int -/
def repS (a : Str) (k : Int) : Str := ⟨(List.replicate k.toNat a.cps).foldl (· ++ ·) #[]⟩
theorem rep_size (c : Array Nat) : ∀ (n : Nat) (acc : Array Nat), ((List.replicate n c).foldl (· ++ ·) acc).size = acc.size + n * c.size
  | 0, acc => by simp
  | n + 1, acc => by
    rw [List.replicate_succ, List.foldl_cons, rep_size c n, Array.size_append, Nat.succ_mul]
    omega
theorem repS_len (a : Str) (k : Int) : (repS a k).length = k.toNat * a.length := by
  show ((List.replicate k.toNat a.cps).foldl (· ++ ·) #[]).size = _
  rw [rep_size]
  simp [Str.length]
def rMulS : R2 := fun x y H Q => ∃ a k, x = .str a ∧ y = .int k ∧ (2 ≤ k ∧ k ≤ 1000 ∧ 0 < a.length ∧ a.length ≤ 1000) ∧ Q (.str (repS a k)) H
theorem op_mulS {X : Cx} : OpR X (binaryOp .Mult) rMulS := by
  intro pins s σ H x y v u Q I rx ry h
  obtain ⟨a, k, rfl, rfl, ⟨k2, k3, a0, a1⟩, q⟩ := h
  obtain ⟨t, rfl⟩ := rx
  obtain ⟨t', rfl⟩ := ry
  have hk : (k == 1 || a.length == 0) = false := by
    rw [Bool.or_eq_false_iff]
    exact ⟨by simp; omega, by simp; omega⟩
  refine PySem.P.mul_str ?_ (fun _ _ => ?_) (fun _ _ => ?_) ?_
  · rw [Bool.or_eq_false_iff]
    exact ⟨by simp; omega, by simp; omega⟩
  · have e : (9223372036854775807 : Int) / 1000 ≤ (2 ^ 63 - 1) / k := by
      apply Int.le_ediv_of_mul_le (by omega)
      omega
    omega
  · have e : a.length * k.toNat ≤ 1000 * 1000 := Nat.mul_le_mul a1 (by omega)
    unfold Builtin.Str.tooLong
    simp
    have := sizeLine_eq
    omega
  · rw [if_neg (by omega), hk]
    refine ⟨?_, ⟨.str _, H, I.tok _, ⟨_, rfl⟩, q⟩⟩
    have e : k.toNat * a.length ≤ 1000 * 1000 := Nat.mul_le_mul (by omega) a1
    have e2 := repS_len a k
    have := sizeLine_eq
    show (repS a k).length ≤ sizeLine
    omega
def gMulS : D → D → (D → Prop) → Prop
  | .str a, .int k, P => (2 ≤ k ∧ k ≤ 1000 ∧ 0 < a.length ∧ a.length ≤ 1000) ∧ P (.str (repS a k))
  | _, _, _ => False
theorem g_mulS {K : PySem.W.Frag} : GOp K rMulS gMulS := by
  intro G H x y d e P Q sm dx dy gp k
  unfold gMulS at gp
  split at gp
  · cases dx
    cases dy
    exact ⟨_, _, rfl, rfl, gp.1, k _ _ _ _ gp.2 (Grow.refl sm) (.str _)⟩
  · exact gp.elim

/-! ### list.index, list.count -/
def rCntS (K : PySem.W.Frag) : V → List V → Hp → VK → Prop := fun x xs H Q => ∃ (p : Addr) (ys : List Str) (z : Str), x = .ref p ∧ xs = [.str z] ∧ SqL K H p (ys.map V.str) ∧ Q (.int (ys.count z : Nat)) H
theorem eqU_count {z : Str} : ∀ {us : List Value} {ys : List Str}, Vals (ys.map V.str) us → us.countP (eqU (.str z)) = ys.count z
  | us, [], h => by cases h; rfl
  | us, y :: ys, h => by
    cases h with
    | cons a r =>
      obtain ⟨t, rfl⟩ := a
      have ih := eqU_count (z := z) r
      rw [List.countP_cons, List.count_cons, ih]
      rfl
theorem mt_lcountS {X : Cx} : MtR X "list.count" (rCntS X.K) := by
  intro pins s σ H x xs v us Q I rx rxs h
  obtain ⟨p, ys, z, rfl, rfl, hs, q⟩ := h
  cases rx
  obtain ⟨u, rfl, t, rfl⟩ := vals1 rxs
  obtain ⟨its, rv, ⟨⟨cls, dd, data, sl⟩, n, ho, hc, hdn, hd⟩, hlen⟩ := I.list hs
  simp only at hc hd
  subst hc hd
  refine call_meets PySem.F.slot_list_count ⟨_, ho, rfl⟩ PySem.F.entry_list_count (PySem.F.args_list_count_2 _ _)
    (SeqAt.list_countAt p its.toArray n dd sl (.str z t) (eqU (.str z))) ⟨ho, fun w hw => mem_eqAt (x := .str z) ⟨t, rfl⟩ rfl rv (flat_strs ys) w (by simpa using hw), ?_⟩
  have ec : its.toArray.toList.countP (eqU (.str z)) = ys.count z := eqU_count rv
  refine ⟨.int (ys.count z : Nat), H, I.tok _, ⟨s.toks, ?_⟩, q⟩
  show Value.int ((its.toArray.toList.countP (eqU (.str z)) : Nat) : Int) s.toks = Value.int ((ys.count z : Nat) : Int) s.toks
  rw [ec]
/-- a method of a list with one argument -/
def dBM1 (g : D → D → (D → Prop) → Prop) (fo fe : DE) : DE := fun X ρ Q => fo X ρ fun d ρ1 => (∃ ds, d = .lst ds) ∧ fe X ρ1 fun e ρ2 => g d e fun z => Q z ρ2
theorem bm1_core {K : PySem.W.Frag} {W : WX} {r : V → List V → Hp → VK → Prop} {g : D → D → (D → Prop) → Prop} {fo fe : DE} (hg : GM1 K r g) : ∀ (σ : L2.St) (H : Hp) (Q : VK), lE K W (dBM1 g fo fe) σ H Q → tBM K "list" r (lE K W fo) (tCons (lE K W fe) tNil) σ H Q := fun σ H Q ⟨ρ, G, la, P, XX, re, h, q, xo⟩ =>
  ⟨ρ, G, la, _, XX, re, h, fun d ρ1 v G1 la1 H1 p1 a1 z1 => ⟨by
      obtain ⟨⟨ds, rfl⟩, _⟩ := p1
      cases z1 with
      | lst hp hl hd => exact .inl ⟨rfl, _, SqL.of (a1.r.ext _ _ hp)⟩, ρ1, G1, la1, _, XX, a1.r, p1.2, fun e ρ2 u G2 la2 H2 p2 a2 z2 =>
    hg G2 H2 v u d e _ Q a2.r.ext (z1.up a2.g) z2 p2 fun z w G' H' pz gr dz => q _ _ _ _ _ _ pz ((a1.trans a2).grow gr) dz, xo.up a1.g a1.p⟩, xo⟩
def gCount : D → D → (D → Prop) → Prop
  | .lst ds, .str z, P => match strsOf ds with
    | some ys => P (.int (ys.count z : Nat))
    | none => False
  | _, _, _ => False
theorem g_count {K : PySem.W.Frag} : GM1 K (rCntS K) gCount := by
  intro G H x y d e P Q sm dx dy gp k
  unfold gCount at gp
  split at gp
  · split at gp
    · rename_i ys hy
      cases dy
      cases dx with
      | lst hp hl hd =>
        have ev := strsOf_of hd hy
        subst ev
        exact ⟨_, ys, _, rfl, rfl, SqL.of (sm _ _ hp), k _ _ _ _ gp (Grow.refl sm) (.int _)⟩
    · exact gp.elim
  · exact gp.elim
/-- the first place of an equal one -/
def gIndex : D → D → (D → Prop) → Prop
  | .lst ds, d, P => okd 60 d = true ∧ okds 59 ds = true ∧ SeqAt.shaped (.list (toPs ds)) = true ∧ SeqAt.shaped (toP d) = true ∧ ∃ j : Nat, (ds[j]?.map fun z => deq z d) = some true ∧ (∀ m z, m < j → ds[m]? = some z → deq z d = false) ∧ P (.int (j : Nat))
  | _, _, _ => False
theorem toPs_get : ∀ (ds : List D) (j : Nat), (toPs ds)[j]? = ds[j]?.map toP
  | [], j => by simp [toPs]
  | d :: ds, 0 => by simp [toPs]
  | d :: ds, j + 1 => by
    have := toPs_get ds j
    simpa [toPs] using this
theorem g_index {K : PySem.W.Frag} : GM1 K (rIndexD K) gIndex := by
  intro G H x y d e P Q sm dx dy gp k
  unfold gIndex at gp
  split at gp
  · rename_i ds
    obtain ⟨o1, o2, s1, s2, j, hj, hno, gp⟩ := gp
    obtain ⟨z, hz, ez⟩ := Option.map_eq_some_iff.mp hj
    cases dx with
    | lst hp hl hd =>
      refine ⟨_, y, toP e, toPs ds, j, toP z, rfl, rfl, (show L2.Dp K H (.ref _) (toP (.lst ds)) from Dp.l2 sm 60 _ _ (.lst hp hl hd) (by simpa [okd] using o2)), Dp.l2 sm 60 e y dy o1, s1, s2, ?_, ez, fun m z' hm hz' => ?_, k _ _ _ _ gp (Grow.refl sm) (.int _)⟩
      · rw [toPs_get, hz]
        rfl
      · rw [toPs_get] at hz'
        obtain ⟨w, hw, rfl⟩ := Option.map_eq_some_iff.mp hz'
        exact hno m w hm hw
  · exact gp.elim
section
variable {X : Cx} {W : WX} {o e : Expr} {fo fe : DE}
theorem de_count {apos cpos : Pos} (ho : PE X o (lE X.K W fo)) (he : PE X e (lE X.K W fe)) (hbase : attributeBase o "count" X.env (eval o X.env) = eval o X.env := by rfl)
    (hfew : ((backTo cpos (starEach [e] X.env)).all (fun x => !x.1) && (backToKw cpos (keywordEach [] X.env)).all (fun x => x.1.isSome)
      && decide (([e] : List Expr).length + ([] : List Keyword).length + (if ([] : List Keyword).isEmpty then 0 else 1) < 30)) = true := by rfl)
    (hline : (apos.endLine == cpos.line) = true := by rfl) (hs : starEach [e] X.env = (false, eval e X.env) :: starEach [] X.env := by rfl) (hplain : (backTo cpos (starEach [] X.env)).any (·.1) = false := by rfl) :
    PE X (.Call (.Attribute o "count" apos) [e] [] cpos) (lE X.K W (dBM1 gCount fo fe)) := pe_imp (pe_bm F.plainAttrs_list F.slot_list_count F.type_list_count mt_lcountS ho (pa_cons he pa_nil hs) hbase hfew hline hs hplain) (bm1_core g_count)
theorem de_index {apos cpos : Pos} (hu : X.A.units + 65 < cLine) (ho : PE X o (lE X.K W fo)) (he : PE X e (lE X.K W fe)) (hbase : attributeBase o "index" X.env (eval o X.env) = eval o X.env := by rfl)
    (hfew : ((backTo cpos (starEach [e] X.env)).all (fun x => !x.1) && (backToKw cpos (keywordEach [] X.env)).all (fun x => x.1.isSome)
      && decide (([e] : List Expr).length + ([] : List Keyword).length + (if ([] : List Keyword).isEmpty then 0 else 1) < 30)) = true := by rfl)
    (hline : (apos.endLine == cpos.line) = true := by rfl) (hs : starEach [e] X.env = (false, eval e X.env) :: starEach [] X.env := by rfl) (hplain : (backTo cpos (starEach [] X.env)).any (·.1) = false := by rfl) :
    PE X (.Call (.Attribute o "index" apos) [e] [] cpos) (lE X.K W (dBM1 gIndex fo fe)) := pe_imp (pe_bm F.plainAttrs_list F.slot_list_index F.type_list_index (mt_indexD hu) ho (pa_cons he pa_nil hs) hbase hfew hline hs hplain) (bm1_core g_index)
end
end DL
set_option Elab.async false
set_option linter.all false
set_option maxRecDepth 100000
set_option maxHeartbeats 4000000
set_option autoImplicit false
/-! Dicts with texts for keys that are changed. -/
namespace DL
open PySem PySem.Spec PyProof.Rows L2
/-- own objects that stand in no slot from n on, and no lambda -/
def lowC (n : Nat) (s : List (Option Sl)) : Bool := s.all fun x => match x with
  | some (.ob k) => decide (k < n)
  | some (.clo _ _ _) => false
  | _ => true

/-! ### what is known, without an empty dict -/
section
variable {K : PySem.W.Frag} {G : Hp} {p : Addr}
theorem del_at (hp : G p = some (.dK [])) {a : Addr} {o : HO} (h : G a = some o) (n : o ≠ .dK []) : del G p a = some o := by
  rw [del_ne fun e => ?_]
  · exact h
  · subst e
    rw [hp] at h
    exact n (Option.some.inj h).symm
theorem del_t (hp : G p = some (.dK [])) {a : Addr} {vs : List V} (h : SqT K G a vs) : SqT K (del G p) a vs := by
  rcases h with (h | ⟨o, h⟩) | h
  · exact .inl (.inl (del_at hp h (by intro z; cases z)))
  · exact .inl (.inr ⟨o, del_at hp h (by intro z; cases z)⟩)
  · exact .inr h
theorem del_l (hp : G p = some (.dK [])) {a : Addr} {vs : List V} (h : SqL K G a vs) : SqL K (del G p) a vs := by
  rcases h with (h | ⟨o, h⟩) | h
  · exact .inl (.inl (del_at hp h (by intro z; cases z)))
  · exact .inl (.inr ⟨o, del_at hp h (by intro z; cases z)⟩)
  · exact .inr h
theorem exO_dk {cls : Value} {p : Addr} : ExO cls p ≠ .dK [] := fun z => by
  have z' : HO.ext _ = HO.dK [] := z
  cases z'
theorem exo_dk {e C : Addr} {d : Option Addr} : exo e C d ≠ .dK [] := fun z => by
  have z' : HO.ext _ = HO.dK [] := z
  cases z'
theorem exd_dk {p : Addr} {fs : List (Str × V)} : exd p fs ≠ .dK [] := fun z => by
  have z' : HO.ext _ = HO.dK [] := z
  cases z'
mutual
theorem Dp.del (hp : G p = some (.dK [])) : ∀ (d : D) (v : V), Dp K G v d → Dp K (del G p) v d
  | .non, _, h => by cases h; exact .non
  | .bl _, _, h => by cases h; exact .bl _
  | .int _, _, h => by cases h; exact .int _
  | .str _, _, h => by cases h; exact .str _
  | .raw _, _, h => by cases h; exact .raw _
  | .tup ds, _, h => by
    cases h with
    | tup a l r => exact .tup (del_t hp a) l (Dps.del hp ds _ r)
  | .lst ds, _, h => by
    cases h with
    | lst a l r => exact .lst (del_at hp a (by intro z; cases z)) l (Dps.del hp ds _ r)
  | .scr _, _, h => by
    cases h with
    | scr a => exact .scr (del_l hp a)
  | .fn _, _, h => by
    cases h with
    | fn a => exact .fn a
  | .err _ _, _, h => by
    cases h with
    | err a b => exact .err a (del_at hp b exO_dk)
    | erf a b c => exact .erf a (del_at hp b exo_dk) (del_at hp c exd_dk)
theorem Dps.del (hp : G p = some (.dK [])) : ∀ (ds : List D) (vs : List V), Dps K G vs ds → Dps K (del G p) vs ds
  | [], _, h => by cases h; exact .nil
  | d :: ds, _, h => by
    cases h with
    | cons a r => exact .cons (Dp.del hp d _ a) (Dps.del hp ds _ r)
end
theorem del_sub : Same (del G p) G := fun b o e => by
  by_cases hb : b = p
  · subst hb
    rw [del_same] at e
    cases e
  · rw [del_ne hb] at e
    exact e
theorem Rl.del {H : Hp} {la : List Addr} {T : List Ob} (hp : G p = some (.dK [])) (r : Rl K G H la T) : Rl K (L2.del G p) H la T := by
  have dn : ∀ {a : Addr}, G a = none → L2.del G p a = none := fun {a} h => by
    by_cases hb : a = p
    · rw [hb]; exact del_same
    · rw [del_ne hb]; exact h
  refine ⟨del_sub.trans r.ext, r.nd, r.len, fun k a o h1 h2 => ?_, r.there, fun b ps e => r.nt b ps (del_sub _ _ e), fun q hq => ⟨dn (r.tbl q hq).1, (r.tbl q hq).2⟩⟩
  have z := r.tab k a o h1 h2
  cases o with
  | dead => exact True.intro
  | lst ds =>
    obtain ⟨g, vs, h, l, d⟩ := z
    exact ⟨dn g, vs, h, l, Dps.del hp _ _ d⟩
  | dic ks ds =>
    obtain ⟨g, vs, h, e, l, d⟩ := z
    exact ⟨dn g, vs, h, e, l, Dps.del hp _ _ d⟩
  | ins C fs =>
    obtain ⟨g, Ca, dx, vs, n, h, o, m, d⟩ := z
    exact ⟨dn g, Ca, dx, vs, n, h, o, m, Dps.del hp _ _ d⟩
theorem tabS_writeD {H : Hp} {P a : Addr} {q : Str} {xs ys : List (Key × V)} (h : LamX.TabS H P q) (ha : H a = some (.dK xs)) : LamX.TabS (upd H a (.dK ys)) P q := by
  obtain ⟨ps, e, t, f⟩ := h
  have n1 : P ≠ a := fun z => by
    rw [z, ha] at e
    cases e
  refine ⟨ps, by rw [upd_ne n1]; exact e, t, fun pos cv hc => ?_⟩
  obtain ⟨c, e1, e2⟩ := f pos cv hc
  have n2 : c ≠ a := fun z => by
    rw [z, ha] at e2
    have := Option.some.inj e2
    unfold LamX.CodeO at this
    cases this
  exact ⟨c, e1, by rw [upd_ne n2]; exact e2⟩
/-- the dict that stood empty while its items were made, now ours -/
theorem Rl.dic {H : Hp} {la : List Addr} {T : List Ob} {ks : List Str} {vs : List V} {ds : List D} (hn : p ∉ la) (hp : G p = some (.dK [])) (r : Rl K G H la T) (e : ks.length = vs.length) (l : vs.length ≤ 1000) (d : Dps K G vs ds) :
    Rl K (L2.del G p) (upd H p (.dK (dkv ks vs))) (la ++ [p]) (T ++ [.dic ks ds]) := by
  have r1 := Rl.del hp r
  have hHp : H p = some (.dK []) := r.ext _ _ hp
  refine ⟨fun b o h => ?_, ?_, by simp [r.len], fun j b o hb ho => ?_, fun j b hb => ?_, r1.nt, fun q hq => ⟨(r1.tbl q hq).1, tabS_writeD (r1.tbl q hq).2 hHp⟩⟩
  · by_cases hb : b = p
    · subst hb
      rw [del_same] at h
      cases h
    · rw [upd_ne hb]
      exact r1.ext b o h
  · rw [List.nodup_append]
    exact ⟨r.nd, by simp, fun x hx y hy => by
      have e : y = p := by simpa using hy
      rw [e]
      exact fun z => hn (z ▸ hx)⟩
  · by_cases hj : j < la.length
    · rw [List.getElem?_append_left hj] at hb
      rw [List.getElem?_append_left (by rw [← r.len]; exact hj)] at ho
      have nb : b ≠ p := fun z => hn (z ▸ List.mem_of_getElem? hb)
      have z := r1.tab j b o hb ho
      cases o with
      | dead => exact True.intro
      | lst ds =>
        obtain ⟨g2, vs2, h2, l2, d2⟩ := z
        exact ⟨g2, vs2, by rw [upd_ne nb]; exact h2, l2, d2⟩
      | dic ks ds =>
        obtain ⟨g2, vs2, h2, e2, l2, d2⟩ := z
        exact ⟨g2, vs2, by rw [upd_ne nb]; exact h2, e2, l2, d2⟩
      | ins C fs =>
        obtain ⟨g2, Ca, dx, vs2, n2, h2, o2, e2, d2⟩ := z
        exact ⟨g2, Ca, dx, vs2, n2, by rw [upd_ne nb]; exact h2, by rw [upd_ne (fun z => by have hq := r.ext _ _ hp; rw [z, hq] at o2; cases o2)]; exact o2, e2, d2⟩
    · rw [List.getElem?_append_right (by omega)] at hb
      rw [List.getElem?_append_right (by rw [← r.len]; omega), ← r.len] at ho
      cases q : j - la.length with
      | zero =>
        rw [q] at hb ho
        have e1 : p = b := Option.some.inj hb
        have e2 : Ob.dic ks ds = o := Option.some.inj ho
        subst e1 e2
        exact ⟨del_same, vs, upd_same, e, l, Dps.del hp _ _ d⟩
      | succ m =>
        rw [q] at hb
        simp at hb
  · by_cases hj : j < la.length
    · rw [List.getElem?_append_left hj] at hb
      have nb : b ≠ p := fun z => hn (z ▸ List.mem_of_getElem? hb)
      obtain ⟨o, h, n⟩ := r.there j b hb
      exact ⟨o, by rw [upd_ne nb]; exact h, n⟩
    · rw [List.getElem?_append_right (by omega)] at hb
      cases q : j - la.length with
      | zero =>
        rw [q] at hb
        have e1 : p = b := Option.some.inj hb
        subst e1
        exact ⟨_, upd_same, by intro ps z; cases z⟩
      | succ m =>
        rw [q] at hb
        simp at hb
/-- the dict at k is written -/
theorem Rl.writeD {H : Hp} {la : List Addr} {T : List Ob} (r : Rl K G H la T) {k : Nat} {a : Addr} {ks ks' : List Str} {ds ds' : List D} {ws : List V} (ha : la[k]? = some a) (hk : T[k]? = some (.dic ks ds)) (e : ks'.length = ws.length) (l : ws.length ≤ 1000) (d : Dps K G ws ds') :
    Rl K G (upd H a (.dK (dkv ks' ws))) la (T.set k (.dic ks' ds')) := by
  obtain ⟨g, vs, h, _, _, _⟩ := r.tab k a _ ha hk
  refine ⟨fun b o e => ?_, r.nd, by simp [r.len], fun j b o hb ho => ?_, fun j b hb => ?_, r.nt, fun p hp => ⟨(r.tbl p hp).1, tabS_writeD (r.tbl p hp).2 h⟩⟩
  · have nb : b ≠ a := fun z => by
      rw [z, g] at e
      cases e
    rw [upd_ne nb]
    exact r.ext b o e
  · by_cases hj : j = k
    · subst hj
      have hl : j < T.length := (List.getElem?_eq_some_iff.mp hk).1
      rw [List.getElem?_set_self hl] at ho
      have e0 := Option.some.inj ho
      subst e0
      have e2 := Option.some.inj (hb.symm.trans ha)
      subst e2
      exact ⟨g, ws, upd_same, e, l, d⟩
    · rw [List.getElem?_set_ne (Ne.symm hj)] at ho
      have nb : b ≠ a := fun e => by
        subst e
        obtain ⟨h1, e1⟩ := List.getElem?_eq_some_iff.mp hb
        obtain ⟨h2, e2⟩ := List.getElem?_eq_some_iff.mp ha
        exact hj ((List.getElem_inj r.nd).mp (e1.trans e2.symm))
      have z := r.tab j b o hb ho
      cases o with
      | dead => exact True.intro
      | lst ds =>
        obtain ⟨g2, vs2, h2, l2, d2⟩ := z
        exact ⟨g2, vs2, by rw [upd_ne nb]; exact h2, l2, d2⟩
      | dic ks ds =>
        obtain ⟨g2, vs2, h2, e2, l2, d2⟩ := z
        exact ⟨g2, vs2, by rw [upd_ne nb]; exact h2, e2, l2, d2⟩
      | ins C fs =>
        obtain ⟨g2, Ca, dx, vs2, n2, h2, o2, e2, d2⟩ := z
        exact ⟨g2, Ca, dx, vs2, n2, by rw [upd_ne nb]; exact h2, by rw [upd_ne (fun z => by rw [z, h] at o2; cases o2)]; exact o2, e2, d2⟩
  · by_cases hb2 : b = a
    · subst hb2
      exact ⟨_, upd_same, by intro ps z; cases z⟩
    · obtain ⟨o, h, n⟩ := r.there j b hb
      exact ⟨o, by rw [upd_ne hb2]; exact h, n⟩
end

/-! ### items by text -/
def getA {α : Type} : List Str → List α → Str → Option α
  | k :: ks, x :: xs, w => if k = w then some x else getA ks xs w
  | _, _, _ => none
def putA {α : Type} : List Str → List α → Str → α → List α
  | k :: ks, x :: xs, w, y => (if k = w then y else x) :: putA ks xs w y
  | _, _, _, _ => []
theorem valV_dkv (w : Str) : ∀ (ks : List Str) (vs : List V), valV (dkv ks vs) (.inr w) = getA ks vs w
  | [], _ => by simp [dkv, getA, valV]
  | _ :: _, [] => by simp [dkv, getA, valV]
  | k :: ks, v :: vs => by
    have ih := valV_dkv w ks vs
    by_cases e : k = w
    · subst e
      rw [show dkv (k :: ks) (v :: vs) = ((.inr k : Key), v) :: dkv ks vs from rfl, valV_pos rfl]
      simp [getA]
    · rw [show dkv (k :: ks) (v :: vs) = ((.inr k : Key), v) :: dkv ks vs from rfl, valV_neg (fun z => e (Sum.inr.inj z)), ih]
      simp [getA, e]
theorem dkv_len : ∀ (ks : List Str) (vs : List V), (dkv ks vs).length ≤ vs.length := fun ks vs => by
  simp [dkv]
  omega
theorem getA_none {α : Type} {w : Str} : ∀ {ks : List Str} {xs : List α}, w ∉ ks → getA ks xs w = none
  | [], _, _ => by simp [getA]
  | _ :: _, [], _ => by simp [getA]
  | k :: ks, x :: xs, h => by
    have h1 : ¬ k = w := fun e => h (by simp [e])
    have h2 : w ∉ ks := fun e => h (by simp [e])
    simp [getA, h1, getA_none h2]
theorem dkv_snoc : ∀ (ks : List Str) (vs : List V) (w : Str) (y : V), ks.length = vs.length → dkv (ks ++ [w]) (vs ++ [y]) = dkv ks vs ++ [(.inr w, y)]
  | [], [], _, _, _ => rfl
  | k :: ks, v :: vs, w, y, h => by
    show (_, _) :: dkv (ks ++ [w]) (vs ++ [y]) = _
    rw [dkv_snoc ks vs w y (by simpa using h)]
    rfl
  | [], _ :: _, _, _, h => by simp at h
  | _ :: _, [], _, _, h => by simp at h
theorem put_new {ks : List Str} {vs : List V} {w : Str} {y : V} (h : ks.length = vs.length) (n : w ∉ ks) : putK (dkv ks vs) (.inr w) y = dkv (ks ++ [w]) (vs ++ [y]) := by
  rw [putK_new y (by rw [valV_dkv, getA_none n]), dkv_snoc _ _ _ _ h]
theorem map_put (w : Str) (y : V) : ∀ (ks : List Str) (vs : List V), ((dkv ks vs).map fun kv => if kv.1 = (.inr w : Key) then (kv.1, y) else kv) = dkv ks (putA ks vs w y)
  | [], _ => by simp [dkv]
  | _ :: _, [] => by simp [dkv, putA]
  | k :: ks, v :: vs => by
    show (if (.inr k : Key) = .inr w then ((.inr k : Key), y) else (.inr k, v)) :: (dkv ks vs).map _ = ((.inr k : Key), if k = w then y else v) :: dkv ks (putA ks vs w y)
    rw [map_put w y ks vs]
    by_cases e : k = w
    · rw [if_pos (by rw [e]), if_pos e]
    · rw [if_neg (fun z => e (Sum.inr.inj z)), if_neg e]
theorem getA_mem {α : Type} {w : Str} : ∀ {ks : List Str} {xs : List α}, ks.length = xs.length → w ∈ ks → (getA ks xs w).isSome = true
  | [], _, _, m => by simp at m
  | _ :: _, [], h, _ => by simp at h
  | k :: ks, x :: xs, h, m => by
    by_cases e : k = w
    · simp [getA, e]
    · have m2 : w ∈ ks := by
        rcases List.mem_cons.mp m with z | z
        · exact absurd z.symm e
        · exact z
      simp [getA, e, getA_mem (by simpa using h) m2]
theorem put_old {ks : List Str} {vs : List V} {w : Str} {y : V} (h : ks.length = vs.length) (n : w ∈ ks) : putK (dkv ks vs) (.inr w) y = dkv ks (putA ks vs w y) := by
  unfold putK
  rw [valV_any, valV_dkv, getA_mem h n]
  simp only [if_true]
  exact map_put w y ks vs
theorem merge_dkv : ∀ (ks : List Str) (vs : List V) (as_ : List Str) (us : List V), as_.length = us.length → ks.length = vs.length → (as_ ++ ks).Nodup → mergeK (dkv as_ us) (dkv ks vs) = dkv (as_ ++ ks) (us ++ vs)
  | [], [], as_, us, _, _, _ => by simp [mergeK, dkv]
  | k :: ks, v :: vs, as_, us, h, h2, nd => by
    have n : k ∉ as_ := fun m => by
      rw [List.nodup_append] at nd
      exact nd.2.2 k m k (by simp) rfl
    show mergeK (putK (dkv as_ us) (.inr k) v) (dkv ks vs) = _
    rw [put_new h n, merge_dkv ks vs (as_ ++ [k]) (us ++ [v]) (by simp [h]) (by simpa using h2) (by simpa using nd)]
    simp
  | [], _ :: _, _, _, _, h, _ => by simp at h
  | _ :: _, [], _, _, _, h, _ => by simp at h
section
variable {K : PySem.W.Frag} {G : Hp}
theorem get_dp {w : Str} : ∀ {ks : List Str} {vs : List V} {ds : List D}, Dps K G vs ds → (∀ d, getA ks ds w = some d → ∃ v, getA ks vs w = some v ∧ Dp K G v d) ∧ (getA ks ds w = none → getA ks vs w = none)
  | [], _, _, _ => by simp [getA]
  | _ :: _, _, _, .nil => by simp [getA]
  | k :: ks, _, _, .cons (v := v) (d := d) a r => by
    obtain ⟨h1, h2⟩ := get_dp (w := w) (ks := ks) r
    by_cases e : k = w
    · simp only [getA, if_pos e]
      exact ⟨fun d' z => ⟨_, rfl, by cases z; exact a⟩, fun z => by cases z⟩
    · simp only [getA, if_neg e]
      exact ⟨h1, h2⟩
theorem put_dp {w : Str} {y : V} {e : D} (he : Dp K G y e) : ∀ {ks : List Str} {vs : List V} {ds : List D}, Dps K G vs ds → Dps K G (putA ks vs w y) (putA ks ds w e)
  | [], _, _, _ => by simp [putA]; exact .nil
  | _ :: _, _, _, .nil => by simp [putA]; exact .nil
  | k :: ks, _, _, .cons a r => by
    have ih := put_dp (w := w) he (ks := ks) r
    by_cases q : k = w
    · simp only [putA, if_pos q]
      exact .cons he ih
    · simp only [putA, if_neg q]
      exact .cons a ih
theorem putA_len {α : Type} {w : Str} {y : α} : ∀ {ks : List Str} {xs : List α}, ks.length = xs.length → (putA ks xs w y).length = xs.length
  | [], [], _ => by simp [putA]
  | k :: ks, x :: xs, h => by simp [putA, putA_len (w := w) (y := y) (ks := ks) (xs := xs) (by simpa using h)]
  | [], _ :: _, h => by simp at h
  | _ :: _, [], h => by simp at h
theorem Dps.snoc {y : V} {e : D} (he : Dp K G y e) : ∀ {vs : List V} {ds : List D}, Dps K G vs ds → Dps K G (vs ++ [y]) (ds ++ [e])
  | _, _, .nil => .cons he .nil
  | _, _, .cons a r => .cons a (Dps.snoc he r)
end

/-! ### {'k': e, ..} -/
def dPs : List (Str × DE) → DA
  | [] => fun _ ρ Q => Q [] ρ
  | (_, fe) :: r => fun X ρ Q => fe X ρ fun d ρ1 => dPs r X ρ1 fun xs ρ2 => Q (.dat d :: xs) ρ2
def dDict (kfs : List (Str × DE)) : DL' := fun X ρ Q => dPs kfs X ρ fun xs ρ' => match dats xs with
  | some ds => ds.length = kfs.length ∧ ρ'.T.length = ρ.T.length ∧ lowC ρ'.T.length ρ'.s = true ∧ Q (.ob ρ'.T.length) ⟨ρ'.T ++ [.dic (kfs.map (·.1)) ds], ρ'.s⟩
  | none => False
/-- the items behind x[w] = d -/
def putO (ks : List Str) (ds : List D) (w : Str) (d : D) : Ob := if w ∈ ks then .dic ks (putA ks ds w d) else .dic (ks ++ [w]) (ds ++ [d])
def sSetD (i : Nat) (fj fv : DE) : DS := fun E ρ => fv E.xn ρ fun d ρ1 => match ρ1.s[i]? with
  | some (some (.ob k)) => fj E.xn ρ1 fun z ρ2 => match z, ρ2.T[k]? with
    | .str w, some (.dic ks ds) => ds.length ≤ 900 ∧ E.nx ⟨ρ2.T.set k (putO ks ds w d), ρ2.s⟩
    | _, _ => False
  | _ => False
def dGetD (i : Nat) (fe fd : DE) : DE := fun X ρ Q => match ρ.s[i]? with
  | some (some (.ob k)) => (∃ ks ds, ρ.T[k]? = some (.dic ks ds)) ∧ fe X ρ fun z ρ1 => fd X ρ1 fun y ρ2 => match z, ρ2.T[k]? with
    | .str w, some (.dic ks ds) => Q ((getA ks ds w).getD y) ρ2
    | _, _ => False
  | _ => False
section
variable {X : Cx} {W : WX}
theorem pairs_core : ∀ (kfs : List (Str × DE)) (σ : L2.St) (H : Hp) (Q : List (V × V) → Hp → Prop), (∃ ρ G la P XX, Re X.K G H la σ ρ ∧ dPs kfs XX ρ P ∧
    (∀ xs ρ' vs G' la' H', P xs ρ' → Aft X.K G la σ ρ' G' la' H' → SlsR X.K G' la' vs xs → Q ((kfs.zip vs).map fun p => (V.str p.1.1, p.2)) H') ∧ XO X.K G la W XX) → tPairs (kfs.map fun p => (tC (.str p.1), lE X.K W p.2)) σ H Q
  | [], σ, H, Q, ⟨ρ, G, la, P, XX, re, h, q, xo⟩ => q [] ρ [] G la H h (Aft.refl re) .nil
  | (k, fe) :: r, σ, H, Q, ⟨ρ, G, la, P, XX, re, h, q, xo⟩ =>
    (⟨ρ, G, la, _, XX, re, h, fun d ρ1 v G1 la1 H1 p1 a1 z1 => pairs_core r σ H1 _ ⟨ρ1, G1, la1, _, XX, a1.r, p1, fun xs ρ2 vs G2 la2 H2 p2 a2 z2 =>
      q (.dat d :: xs) ρ2 (v :: vs) G2 la2 H2 p2 (a1.trans a2) (.cons (show SlR X.K G2 la2 v (.dat d) from z1.up a2.g) z2), xo.up a1.g a1.p⟩, xo⟩ : lE X.K W fe σ H _)
theorem dl_dict {pos : Pos} {keys : List (Option Expr)} {values : List Expr} {kfs : List (Str × DE)} (hp : PPs X pos keys values (kfs.map fun p => (tC (.str p.1), lE X.K W p.2))) (hall : keys.all (·.isSome) = true := by rfl) (hl : keys.length = values.length := by rfl) (h0 : keys ≠ [] := by simp)
    (h15 : keys.length ≤ 15 := by decide) (nd : (kfs.map (·.1)).Nodup := by decide) (hk : kfs.length ≤ 15 := by decide) : PE X (.Dict keys values pos) (lL X.K W (dDict kfs)) :=
  pe_imp (pe_disp hp hall hl h0 h15) fun σ H Q ⟨ρ, G, la, P, XX, re, h, q, xo⟩ => by
  intro p hp
  have w0 : Grow G H (upd G p (.dK [])) (upd H p (.dK [])) := Grow.new re.tb.ext hp
  have rg := re.grow w0
  refine pairs_core kfs σ _ _ ⟨ρ, upd G p (.dK []), la, _, XX, rg, h, fun xs ρ2 vs G2 la2 H2 p2 a2 z2 => ?_, xo.up w0.g List.prefix_rfl⟩
  have p2' : (match (generalizing := false) dats xs with
    | some ds => ds.length = kfs.length ∧ ρ2.T.length = ρ.T.length ∧ lowC ρ2.T.length ρ2.s = true ∧ P (.ob ρ2.T.length) ⟨ρ2.T ++ [.dic (kfs.map (·.1)) ds], ρ2.s⟩
    | none => False) := p2
  split at p2'
  · rename_i ds hd
    obtain ⟨hn, hT, hlow, p3⟩ := p2'
    have gp : G2 p = some (.dK []) := a2.g _ _ upd_same
    have dd : Dps X.K G2 vs ds := dats_of z2 hd
    have lv : vs.length = ds.length := dd.len
    have lk : (kfs.map (·.1)).length = vs.length := by
      rw [List.length_map]
      omega
    have ela : la2 = la := by
      have l1 : la2.length = la.length := by rw [a2.r.tb.len, re.tb.len, hT]
      obtain ⟨t, rfl⟩ := a2.p
      have : t = [] := List.eq_nil_of_length_eq_zero (by rw [List.length_append] at l1; omega)
      rw [this, List.append_nil]
    have pn : p ∉ la2 := fun hm => by
      rw [ela] at hm
      obtain ⟨i, hi, e⟩ := List.getElem_of_mem hm
      obtain ⟨o, h, _⟩ := re.tb.there i p (by rw [List.getElem?_eq_getElem hi, e])
      rw [hp] at h
      cases h
    have ek : (kfs.zip vs).map (fun q => (V.str q.1.1, q.2)) = (dkv (kfs.map (·.1)) vs).map (fun kv => (kV kv.1, kv.2)) := by
      unfold dkv
      rw [List.map_map, List.zip_map_left, List.map_map]
      rfl
    refine ⟨a2.r.tb.ext _ _ gp, dkv (kfs.map (·.1)) vs, ek, Nat.le_trans (dkv_len _ _) (by omega), ?_⟩
    rw [show mergeK [] (dkv (kfs.map (·.1)) vs) = dkv (kfs.map (·.1)) vs from merge_dkv (kfs.map fun x : Str × DE => x.1) vs [] [] rfl lk (by simpa using nd)]
    refine q _ _ _ (L2.del G2 p) (la2 ++ [p]) _ p3 ⟨fun b o hb => ?_, a2.p.trans (List.prefix_append _ _), ⟨Rl.dic pn gp a2.r.tb lk (by omega) dd, a2.r.sl, fun j y hj => ?_⟩⟩ ⟨p, ?_, rfl⟩
    · have nb : b ≠ p := fun z => by
        subst z
        have := re.tb.ext _ _ hb
        rw [hp] at this
        cases this
      rw [del_ne nb]
      exact a2.g _ _ (w0.g _ _ hb)
    · obtain ⟨u, hu, ru⟩ := a2.r.at_ j y hj
      refine ⟨u, hu, ?_⟩
      cases y with
      | dat d => exact Dp.del gp d u ru
      | ob k =>
        obtain ⟨a, ha, e⟩ := ru
        exact ⟨a, pre_at (List.prefix_append _ _) ha, e⟩
      | clo f G0 la0 =>
        have hm := List.mem_of_getElem? hj
        have z := List.all_eq_true.mp hlow _ hm
        cases z
    · rw [← a2.r.tb.len, List.getElem?_append_right (Nat.le_refl _)]
      simp
  · exact p2'.elim
/-! ### x['k'] = e, x.get(e, d); x a name -/
theorem ds_setD (i : Nat) {x : Str} {e ej : Expr} {fj fv : DE} {p spos pos : Pos} (hu : X.A.units + 1 < cLine) (hv : PE X e (lE X.K W fv)) (hj : PE X ej (lE X.K W fj)) (hN : X.N[i]? = some x := by rfl) (hvis : Vis X.env.scope x := by first | exact Or.inl rfl | exact Or.inr (Or.inl rfl) | exact Or.inr (Or.inr rfl)) (hd : (x == ("__debug__" : Str)) = false := by decide)
    (hcd : (x == ("__classdict__" : Str)) = false := by decide) (hs : swapsWith e (some (.Subscript (.Name x p) ej spos)) pos.line X.env = pure false := by rfl) : PS X (.Assign [.Subscript (.Name x p) ej spos] e pos) (lS X.K W (sSetD i fj fv)) :=
  ps_imp (ps_dput hu (pe_var (i := i) hN hvis hd hcd) hj hv hs) fun D σ H ⟨ρ, G, la, E, r, h, b⟩ =>
  ⟨ρ, G, la, _, _, r, h, fun d ρ1 v G1 la1 H1 p1 a1 z1 => by
    have p1' : (match (generalizing := false) ρ1.s[i]? with
      | some (some (.ob k)) => fj E.xn ρ1 fun z ρ2 => match z, ρ2.T[k]? with
        | .str w, some (.dic ks ds) => ds.length ≤ 900 ∧ E.nx ⟨ρ2.T.set k (putO ks ds w d), ρ2.s⟩
        | _, _ => False
      | _ => False) := p1
    split at p1'
    · rename_i k hk
      obtain ⟨u, hu, a, hla, ev⟩ := a1.r.at_ _ _ hk
      subst ev
      refine ⟨_, hu, ρ1, G1, la1, _, _, a1.r, p1', fun z ρ2 w G2 la2 H2 p2 a2 z2 => ?_, b.xn.up a1.g a1.p⟩
      have p2' : (match (generalizing := false) z, ρ2.T[k]? with
        | .str w, some (.dic ks ds) => ds.length ≤ 900 ∧ E.nx ⟨ρ2.T.set k (putO ks ds w d), ρ2.s⟩
        | _, _ => False) := p2
      split at p2'
      · rename_i w ks ds hz
        cases z2
        have ha2 := pre_at a2.p hla
        obtain ⟨gn1, ws, hH1, lk, lw, dw⟩ := a2.r.tb.tab k a _ ha2 hz
        have lds := dw.len
        have zd := z1.up a2.g
        refine ⟨a, _, rfl, DPut.k (k := .inr w) hH1 (Nat.lt_of_le_of_lt (dkv_len _ _) (by rw [sizeLine_eq]; omega)), b.nx _ _ _ _ _ p2'.2 ⟨a1.g.trans a2.g, a1.p.trans a2.p, ⟨?_, a2.r.sl, a2.r.at_⟩⟩⟩
        unfold putO
        by_cases m : w ∈ ks
        · rw [if_pos m, put_old lk m]
          exact Rl.writeD a2.r.tb ha2 hz (by rw [putA_len lk]; exact lk) (by rw [putA_len lk]; exact lw) (put_dp zd dw)
        · rw [if_neg m, put_new lk m]
          exact Rl.writeD a2.r.tb ha2 hz (by simp [lk]) (by rw [List.length_append]; simp; omega) (Dps.snoc zd dw)
      · exact p2'.elim
    · exact p1'.elim, b.xn⟩
theorem de_getD (i : Nat) {x : Str} {e f : Expr} {fe fd : DE} {p apos cpos : Pos} (hu : X.A.units + 1 < cLine) (he : PE X e (lE X.K W fe)) (hf : PE X f (lE X.K W fd)) (hN : X.N[i]? = some x := by rfl) (hvis : Vis X.env.scope x := by first | exact Or.inl rfl | exact Or.inr (Or.inl rfl) | exact Or.inr (Or.inr rfl)) (hd : (x == ("__debug__" : Str)) = false := by decide)
    (hcd : (x == ("__classdict__" : Str)) = false := by decide) (m : M2 X (.Name x p) "get" apos e f cpos := by exact ⟨rfl, rfl, rfl, rfl⟩) : PE X (.Call (.Attribute (.Name x p) "get" apos) [e, f] [] cpos) (lE X.K W (dGetD i fe fd)) :=
  pe_imp (pe_dget2 hu (pe_var (i := i) hN hvis hd hcd) he hf m) fun σ H Q ⟨ρ, G, la, P, XX, r, h, q, xo⟩ => by
    unfold dGetD at h
    split at h
    · rename_i k hk
      obtain ⟨v, hv, a, ha, ev⟩ := r.at_ _ _ hk
      subst ev
      obtain ⟨⟨ks0, ds0, hk0⟩, h⟩ := h
      obtain ⟨_, vs0, hH0, _⟩ := r.tb.tab k a _ ha hk0
      refine ⟨_, hv, a, rfl, .inl ⟨_, .inl hH0⟩, ρ, G, la, _, XX, r, h, fun z ρ1 w1 G1 la1 H1 p1 a1 z1 => ⟨ρ1, G1, la1, _, XX, a1.r, p1, fun y ρ2 w2 G2 la2 H2 p2 a2 z2 => ?_, xo.up a1.g a1.p⟩, xo⟩
      have p2' : (match (generalizing := false) z, ρ2.T[k]? with
        | .str w, some (.dic ks ds) => P ((getA ks ds w).getD y) ρ2
        | _, _ => False) := p2
      split at p2'
      · rename_i w ks ds hz
        cases z1
        have ha2 := pre_at a2.p (pre_at a1.p ha)
        obtain ⟨gn1, ws, hH1, lk, lw, dw⟩ := a2.r.tb.tab k a _ ha2 hz
        obtain ⟨g1, g2⟩ := get_dp (w := w) (ks := ks) dw
        refine ⟨_, DGet.k (k := .inr w) hH1, ?_⟩
        rw [valV_dkv]
        cases q0 : getA ks ds w with
        | none =>
          rw [g2 q0]
          rw [q0] at p2'
          exact q _ _ _ _ _ _ p2' (a1.trans a2) z2
        | some d =>
          obtain ⟨v, hv, dv⟩ := g1 d q0
          rw [hv]
          rw [q0] at p2'
          exact q _ _ _ _ _ _ p2' (a1.trans a2) dv
      · exact p2'.elim
    · exact h.elim
end
end DL
set_option Elab.async false
set_option linter.all false
set_option maxRecDepth 100000
set_option maxHeartbeats 4000000
set_option autoImplicit false
/-! The data level: instances of classes of one's own; their fields. -/
namespace DL
open PySem PySem.Spec PyProof.Rows L2
/-! ### fields -/
def putD (f : Str) (d : D) : List (Str × D) → List (Str × D)
  | [] => [(f, d)]
  | (g, x) :: r => if g = f then (g, d) :: r else (g, x) :: putD f d r
section
variable {K : PySem.W.Frag} {G H : Hp} {la : List Addr} {T : List Ob}
theorem fld_at {f : Str} {d : D} : ∀ {vs : List (Str × V)} {fs : List (Str × D)}, vs.map (·.1) = fs.map (·.1) → Dps K G (vs.map (·.2)) (fs.map (·.2)) → fs.lookup f = some d → ∃ v, vs.lookup f = some v ∧ Dp K G v d
  | _, [], _, _, h => by cases h
  | [], _ :: _, e, _, _ => by cases e
  | (g, v) :: vs, (g', x) :: fs, e, r, h => by
    have e1 : g = g' := by
      have := List.cons.inj e
      exact this.1
    subst e1
    cases r with
    | cons a r =>
      rw [List.lookup_cons] at h ⊢
      by_cases q : (f == g) = true
      · rw [q] at h ⊢
        cases h
        exact ⟨v, rfl, a⟩
      · rw [show (f == g) = false by simpa using q] at h ⊢
        exact fld_at (List.cons.inj e).2 r h
theorem put_fst {f : Str} {d : D} {y : V} : ∀ {vs : List (Str × V)} {fs : List (Str × D)}, vs.map (·.1) = fs.map (·.1) → (putF f y vs).map (·.1) = (putD f d fs).map (·.1)
  | [], [], _ => rfl
  | [], _ :: _, e => by cases e
  | _ :: _, [], e => by cases e
  | (g, v) :: vs, (g', x) :: fs, e => by
    have e1 : g = g' := (List.cons.inj e).1
    subst e1
    by_cases q : g = f
    · simp only [putF, putD, if_pos q, List.map_cons]
      rw [(List.cons.inj e).2]
    · simp only [putF, putD, if_neg q, List.map_cons]
      rw [put_fst (List.cons.inj e).2]
theorem put_snd {f : Str} {d : D} {y : V} (dy : Dp K G y d) : ∀ {vs : List (Str × V)} {fs : List (Str × D)}, vs.map (·.1) = fs.map (·.1) → Dps K G (vs.map (·.2)) (fs.map (·.2)) → Dps K G ((putF f y vs).map (·.2)) ((putD f d fs).map (·.2))
  | [], [], _, _ => .cons dy .nil
  | [], _ :: _, e, _ => by cases e
  | _ :: _, [], e, _ => by cases e
  | (g, v) :: vs, (g', x) :: fs, e, r => by
    have e1 : g = g' := (List.cons.inj e).1
    subst e1
    cases r with
    | cons a r =>
      by_cases q : g = f
      · simp only [putF, putD, if_pos q, List.map_cons]
        exact .cons dy r
      · simp only [putF, putD, if_neg q, List.map_cons]
        exact .cons a (put_snd dy (List.cons.inj e).2 r)
/-- the instance at k, in the heap -/
theorem Rl.ins_at (r : Rl K G H la T) {k : Nat} {a C : Addr} {Cn : Str} {fs : List (Str × D)} (ha : la[k]? = some a) (hk : T[k]? = some (.ins Cn fs)) (hC : PySem.W.nsIn K mainGlobals Cn = some (some (.ref C))) :
    ∃ dx vs, H a = some (.ins C dx vs) ∧ H dx = some (.own a) ∧ G a = none ∧ vs.map (·.1) = fs.map (·.1) ∧ Dps K G (vs.map (·.2)) (fs.map (·.2)) := by
  obtain ⟨g, Ca, dx, vs, n, h, o, e, d⟩ := r.tab k a _ ha hk
  rw [hC] at n
  cases n
  exact ⟨dx, vs, h, o, g, e, d⟩
theorem tabS_writeI {P a C dx C' dx' : Addr} {q : Str} {xs ys : List (Str × V)} (h : LamX.TabS H P q) (ha : H a = some (.ins C dx xs)) : LamX.TabS (upd H a (.ins C' dx' ys)) P q := by
  obtain ⟨ps, e, t, f⟩ := h
  have n1 : P ≠ a := fun z => by
    rw [z, ha] at e
    cases e
  refine ⟨ps, by rw [upd_ne n1]; exact e, t, fun pos cv hc => ?_⟩
  obtain ⟨c, e1, e2⟩ := f pos cv hc
  have n2 : c ≠ a := fun z => by
    rw [z, ha] at e2
    have := Option.some.inj e2
    unfold LamX.CodeO at this
    cases this
  exact ⟨c, e1, by rw [upd_ne n2]; exact e2⟩
/-- the instance at k is written -/
theorem Rl.writeI (r : Rl K G H la T) {k : Nat} {a C dx : Addr} {Cn : Str} {fs fs' : List (Str × D)} {vs vs' : List (Str × V)} (ha : la[k]? = some a) (hk : T[k]? = some (.ins Cn fs)) (hC : PySem.W.nsIn K mainGlobals Cn = some (some (.ref C)))
    (hH : H a = some (.ins C dx vs)) (e : vs'.map (·.1) = fs'.map (·.1)) (d : Dps K G (vs'.map (·.2)) (fs'.map (·.2))) : Rl K G (upd H a (.ins C dx vs')) la (T.set k (.ins Cn fs')) := by
  obtain ⟨dx0, vs0, h, ho, g, _, _⟩ := r.ins_at ha hk hC
  rw [hH] at h
  cases h
  refine ⟨fun b o e => ?_, r.nd, by simp [r.len], fun j b o hb ho' => ?_, fun j b hb => ?_, r.nt, fun p hp => ⟨(r.tbl p hp).1, tabS_writeI (r.tbl p hp).2 hH⟩⟩
  · have nb : b ≠ a := fun z => by
      rw [z, g] at e
      cases e
    rw [upd_ne nb]
    exact r.ext b o e
  · by_cases hj : j = k
    · subst hj
      have hl : j < T.length := (List.getElem?_eq_some_iff.mp hk).1
      rw [List.getElem?_set_self hl] at ho'
      have e0 := Option.some.inj ho'
      subst e0
      have e2 := Option.some.inj (hb.symm.trans ha)
      subst e2
      exact ⟨g, C, dx, vs', hC, upd_same, by rw [upd_ne (fun z => by rw [z, hH] at ho; cases ho)]; exact ho, e, d⟩
    · rw [List.getElem?_set_ne (Ne.symm hj)] at ho'
      have nb : b ≠ a := fun e => by
        subst e
        obtain ⟨h1, e1⟩ := List.getElem?_eq_some_iff.mp hb
        obtain ⟨h2, e2⟩ := List.getElem?_eq_some_iff.mp ha
        exact hj ((List.getElem_inj r.nd).mp (e1.trans e2.symm))
      have z := r.tab j b o hb ho'
      cases o with
      | dead => exact True.intro
      | lst ds =>
        obtain ⟨g2, vs2, h2, l2, d2⟩ := z
        exact ⟨g2, vs2, by rw [upd_ne nb]; exact h2, l2, d2⟩
      | dic ks ds =>
        obtain ⟨g2, vs2, h2, e2, l2, d2⟩ := z
        exact ⟨g2, vs2, by rw [upd_ne nb]; exact h2, e2, l2, d2⟩
      | ins C2 fs2 =>
        obtain ⟨g2, Ca, dx2, vs2, n2, h2, o2, e2, d2⟩ := z
        exact ⟨g2, Ca, dx2, vs2, n2, by rw [upd_ne nb]; exact h2, by rw [upd_ne (fun z => by rw [z, hH] at o2; cases o2)]; exact o2, e2, d2⟩
  · by_cases hb2 : b = a
    · subst hb2
      exact ⟨_, upd_same, by intro ps z; cases z⟩
    · obtain ⟨o, h, n⟩ := r.there j b hb
      exact ⟨o, by rw [upd_ne hb2]; exact h, n⟩
/-- a new instance, ours alone -/
theorem Rl.freshI (r : Rl K G H la T) {x dx C : Addr} {Cn : Str} (hx : H x = none) (hd : H dx = none) (hn : dx ≠ x) (hC : PySem.W.nsIn K mainGlobals Cn = some (some (.ref C))) :
    Rl K G (upd (upd H dx (.own x)) x (.ins C dx [])) (la ++ [x]) (T ++ [.ins Cn []]) := by
  have hn' : x ∉ la := fun hm => by
    obtain ⟨i, hi, e⟩ := List.getElem_of_mem hm
    obtain ⟨o, h, _⟩ := r.there i x (by rw [List.getElem?_eq_getElem hi, e])
    rw [hx] at h
    cases h
  have s0 : Same H (upd H dx (.own x)) := same_new hd
  have hx2 : (upd H dx (.own x)) x = none := by rw [upd_ne (Ne.symm hn)]; exact hx
  have s1 : Same H (upd (upd H dx (.own x)) x (.ins C dx [])) := s0.trans (same_new hx2)
  refine ⟨r.ext.trans s1, ?_, by simp [r.len], fun j b o hb ho => ?_, fun j b hb => ?_, r.nt, fun q hq => ⟨(r.tbl q hq).1, (r.tbl q hq).2.ext s1⟩⟩
  · rw [List.nodup_append]
    exact ⟨r.nd, by simp, fun y hy z hz => by
      have e : z = x := by simpa using hz
      rw [e]
      intro q
      exact hn' (q ▸ hy)⟩
  · by_cases hj : j < la.length
    · rw [List.getElem?_append_left hj] at hb
      rw [List.getElem?_append_left (by rw [← r.len]; exact hj)] at ho
      exact (r.tab j b o hb ho).grow ⟨Same.refl _, s1, r.ext.trans s1, fun _ h _ => h, fun h => h⟩
    · rw [List.getElem?_append_right (by omega)] at hb
      rw [List.getElem?_append_right (by rw [← r.len]; omega), ← r.len] at ho
      cases q : j - la.length with
      | zero =>
        rw [q] at hb ho
        have e1 : x = b := Option.some.inj hb
        have e2 : Ob.ins Cn [] = o := Option.some.inj ho
        subst e1 e2
        exact ⟨none_of r.ext hx, C, dx, [], hC, upd_same, by rw [upd_ne hn, upd_same], rfl, .nil⟩
      | succ m =>
        rw [q] at hb
        simp at hb
  · by_cases hj : j < la.length
    · rw [List.getElem?_append_left hj] at hb
      exact there_grow s1 (r.there j b hb)
    · rw [List.getElem?_append_right (by omega)] at hb
      cases q : j - la.length with
      | zero =>
        rw [q] at hb
        have e1 : x = b := Option.some.inj hb
        subst e1
        exact ⟨_, upd_same, by intro ps z; cases z⟩
      | succ m =>
        rw [q] at hb
        simp at hb
end
end DL
set_option Elab.async false
set_option linter.all false
set_option maxRecDepth 100000
set_option maxHeartbeats 4000000
set_option autoImplicit false
/-! The data level: what a class of one's own answers to operators. -/
namespace DL
open PySem PySem.Spec PyProof.Rows L2
abbrev WF' (E : XK) : WX := fun cls d _ H => E cls d H
theorem passE {X : Cx} {E : XK} (tk : Takes X (WF' E)) : Passes (L2.CX X.prog X.w) X E := fun pins σ H s e s' I c => passAt tk σ pins H s e s' I c
/-- a class by its name -/
structure ClsI (K : PySem.W.Frag) (Cn : Str) (C : Addr) : Prop where
  nm : PySem.W.nsIn K mainGlobals Cn = some (some (.ref C))
  cl : Cls K C
  sf : PySem.W.selfFirst K C = true
  mo : PySem.W.mroIn K C (.type "object") = some true
  ca : PySem.W.findIn K (.ref C) "__class__" = some (some (.builtin "object.__class__"))
  cn : PySem.W.specialIn K (.builtin "object.__class__") "__get__" = some (some (.builtin "getset_descriptor.__get__"))
  ct : PySem.W.takesIn K (.builtin "object.__class__") = some true
  me : PySem.W.kitOne K (.ref C) (.ref C) = some true
  mt : ∀ T ∈ (["NoneType", "bool", "int", "str", "tuple", "list"] : List String), PySem.W.kitOne K (.type T) (.ref C) = some false
/-- a def of a class, and what it promises -/
structure OwnF (X : Cx) (C : Addr) (m : Str) (f : Addr) (k n : Nat) (F : DF) : Prop where
  at_ : PySem.W.findIn X.K (.ref C) m = some (some (.ref f))
  fn : PySem.W.isFn X.K (.ref f) = true
  fi : PySem.W.fnIn X.K f = true
  kp : PySem.W.keepIn X.K (.ref f) = true
  run : FnR X.prog X.w X.K X.mg X.base (L2.CX X.prog X.w) k f (spD X.K n F)
theorem OwnF.of {X : Cx} {C f : Addr} {m : Str} {k n : Nat} {F : DF} {fd : FuncData} {ps : List Str} (Fk : FnOk X.prog X.w X.K X.mg X.base (L2.CX X.prog X.w) k f fd ps (spD X.K n F)) (hb : Binds X.K fd ps [])
    (h1 : PySem.W.findIn X.K (.ref C) m = some (some (.ref f))) (h2 : PySem.W.isFn X.K (.ref f) = true) (h3 : PySem.W.fnIn X.K f = true) (h4 : PySem.W.keepIn X.K (.ref f) = true) : OwnF X C m f k n F :=
  ⟨h1, h2, h3, h4, (FnOk.raw Fk hb .nil).imp fun vs H Q E h => by rw [List.append_nil]; exact h⟩
/-- an instance of C -/
def InsAt (H : Hp) (C : Addr) (x : V) : Prop := ∃ a dx fs, x = .ref a ∧ H a = some (.ins C dx fs)
section
variable {X : Cx} {E : XK} {C f : Addr} {m : Str} {k n : Nat} {F : DF}
variable {pins : List (Addr × Obj)} {σ : L2.St} {H : Hp} {s : Shared}
theorem insAt_look {a C dx : Addr} {fs : List (Str × V)} (I : Inv X pins σ H s) (e : H a = some (.ins C dx fs)) : ∃ od, PySem.W.InstAt s.heap a (PySem.W.instObj C dx) C (some od) := by
  obtain ⟨mA, O, _⟩ := ins_get I.hok e
  obtain ⟨od, J, _⟩ := O.look
  exact ⟨od, J⟩
/-- the callee runs, where the machine stands at A -/
theorem run_own {A : Around} {sp : Sp} {Q : VK} {us : List Value} {ws : List V} {g : Addr} (F : FnR X.prog X.w X.K X.mg X.base (L2.CX X.prog X.w) k g sp) (hr : Room k A) (e0 : Env0 X.prog X.w X.K X.mg X.base A X.stack s H) (hx : Passes (L2.CX X.prog X.w) X E) (I : Inv X pins σ H s)
    (r : Vals ws us) (h : sp ws H Q E) : wpAny (model X.prog X.w) A (call (.ref g) us) (EP X pins σ Q) X.xe s := by
  refine wpAny_call (codeAny_mono (F A X.stack s H us ws Q E hr e0 r h) fun r s' hq => ?_)
  cases r with
  | error e => exact hx pins σ H s e s' I hq
  | ok fl =>
    cases fl with
    | ret u => exact I.after hq
    | next => exact False.elim hq
    | brk => exact False.elim hq
    | cont => exact False.elim hq
/-! ### by values -/
/-- x[y] -/
def rOwnIx (K : PySem.W.Frag) (C : Addr) (F : DF) (E : XK) : R2 := fun x y H Q => InsAt H C x ∧ spD K 2 F [x, y] H Q E
/-- x op y for an arithmetic operator -/
def RtOk (K : PySem.W.Frag) (C : Addr) (nm : String) (t : Value) : Prop := t = .ref C ∨ ∃ T fo ro, t = .type T ∧ PySem.W.findIn K (.type T) (PySem.dunder nm) = some fo ∧ PySem.W.findIn K (.type T) (PySem.dunderR nm) = some ro ∧ PySem.W.subIn K (.type T) (.ref C) = some false
def rOwnB (K : PySem.W.Frag) (C : Addr) (nm : String) (F : DF) (E : XK) : R2 := fun x y H Q => InsAt H C x ∧ (∃ t, TyX K H y t ∧ RtOk K C nm t) ∧ spD K 2 F [x, y] H Q E
/-- x op y for a comparison -/
def CtOk (K : PySem.W.Frag) (C : Addr) (t : Value) : Prop := PySem.W.notFirst K C t = true
def rOwnC (K : PySem.W.Frag) (C : Addr) (F : DF) (E : XK) : R2 := fun x y H Q => InsAt H C x ∧ (∃ t, TyX K H y t ∧ CtOk K C t) ∧ spD K 2 F [x, y] H Q E
theorem op_ownC {op : CmpOp} (hop : ∀ a b, compareOp op a b = richCompare op a b) (o : OwnF X C (PySem.cmpInfo op).2.1 f k 2 F) (hr : Room k X.A) (hx : Passes (L2.CX X.prog X.w) X E) : OpR X (compareOp op) (rOwnC X.K C F E) := by
  intro pins s σ H x y v u Q I rx ry h
  obtain ⟨⟨a, dx, fs, rfl, ha⟩, ⟨t, ty, ht⟩, q⟩ := h
  cases (show v = Value.ref a from rx)
  obtain ⟨od, J⟩ := insAt_look I ha
  obtain ⟨P, Z, p, _⟩ := kit_of I ry ty
  obtain ⟨m, hF⟩ := I.fr
  rw [hop]
  refine PySem.W.cmp_K (op := op) (tb := t) hr.units0 hF I.ok.mod.kin J (Z.ty _ _ I.kIn p) ht o.at_ o.fn ?_
  exact wpAny_mono (run_own (ws := [.ref a, _]) (us := [.ref a, _]) o.run hr I.env0 hx I (.cons rfl (.cons ry .nil)) q) (fun w s' ⟨z', H', I', rz, qz⟩ => SlX.cmpback rz ⟨z', H', I', rz, qz⟩) fun _ _ x => x
/-- y in x -/
def rOwnIn (K : PySem.W.Frag) (C : Addr) (F : DF) (E : XK) : R2 := fun y x H Q => InsAt H C x ∧ spD K 2 F [x, y] H (fun z H' => ∃ b, z = .bl b ∧ Q (.bl b) H') E
theorem op_ownIn (o : OwnF X C "__contains__" f k 2 F) (hr : Room k X.A) (hx : Passes (L2.CX X.prog X.w) X E) : OpR X (compareOp .In) (rOwnIn X.K C F E) := by
  intro pins s σ H y x u v Q I ry rx h
  obtain ⟨⟨a, dx, fs, rfl, ha⟩, q⟩ := h
  cases (show v = Value.ref a from rx)
  obtain ⟨od, J⟩ := insAt_look I ha
  obtain ⟨m, hF⟩ := I.fr
  refine PySem.W.in_K hF I.ok.mod.kin J o.at_ o.fn ?_
  refine wpAny_mono (run_own (ws := [.ref a, _]) (us := [.ref a, _]) o.run hr I.env0 hx I (.cons rfl (.cons ry .nil)) q) (fun w s' ⟨z', H', I', rz, b, ez, qz⟩ => ?_) fun _ _ x => x
  subst ez
  cases rz
  exact wpAny_truthy_bool ⟨.bl b, H', I', rfl, qz⟩
/-- x op= y -/
theorem in_own {op : Operator} (c : ClsI X.K m C) (o : OwnF X C (PySem.dunderI op.info.2) f k 2 F) (hr : Room k X.A) (hx : Passes (L2.CX X.prog X.w) X E) : OpR X (inplaceOp op) (rOwnIx X.K C F E) := by
  intro pins s σ H x y v u Q I rx ry h
  obtain ⟨⟨a, dx, fs, rfl, ha⟩, q⟩ := h
  cases (show v = Value.ref a from rx)
  obtain ⟨od, J⟩ := insAt_look I ha
  obtain ⟨m, hF⟩ := I.fr
  refine PySem.W.ksp_inplace hF I.ok.mod.kin J c.sf o.at_ o.fn ?_
  exact wpAny_mono (run_own (ws := [.ref a, _]) (us := [.ref a, _]) o.run hr I.env0 hx I (.cons rfl (.cons ry .nil)) q) (fun w s' ⟨z', H', I', rz, qz⟩ => SlX.cmpback rz ⟨z', H', I', rz, qz⟩) fun _ _ x => x
/-- len(x), bool(x), str(x) -/
def rOwnL (K : PySem.W.Frag) (C : Addr) (F : DF) (E : XK) : List V → Hp → VK → Prop := fun xs H Q => ∃ x, xs = [x] ∧ InsAt H C x ∧ spD K 1 F [x] H (fun z H' => ∃ i : Int, z = .int i ∧ 0 ≤ i ∧ i < 2 ^ 63 ∧ Q (.int i) H') E
theorem call_ownL (o : OwnF X C "__len__" f k 1 F) (hr : Room (k + 1) X.A) (hx : Passes (L2.CX X.prog X.w) X E) : CallR X (.builtin "len") (rOwnL X.K C F E) := by
  intro pins s σ H xs us Q I r h
  obtain ⟨x, rfl, ⟨a, dx, fs, rfl, ha⟩, q⟩ := h
  obtain ⟨u, rfl, ru⟩ := r.one
  cases (show u = Value.ref a from ru)
  obtain ⟨od, J⟩ := insAt_look I ha
  obtain ⟨m, hF⟩ := I.fr
  refine PySem.W.len_K hF I.ok.mod.kin J o.at_ o.fn ?_
  refine wpAny_mono (run_own (ws := [.ref a]) (us := [.ref a]) o.run hr.in1 I.env0.in1 hx I (.cons rfl .nil) q) (fun w s' ⟨z', H', I', rz, i, ez, i0, i1, qz⟩ => ?_) fun _ _ x => x
  subst ez
  obtain ⟨t, e⟩ := (show ∃ t, w = Value.int i t from rz)
  cases e
  exact ⟨⟨i0, i1⟩, .int i, H', I'.tok _, ⟨_, rfl⟩, qz⟩
def rOwnS (K : PySem.W.Frag) (C : Addr) (F : DF) (E : XK) : List V → Hp → VK → Prop := fun xs H Q => ∃ x, xs = [x] ∧ InsAt H C x ∧ spD K 1 F [x] H (fun z H' => ∃ i : Str, z = .str i ∧ Q (.str i) H') E
theorem call_ownS (o : OwnF X C "__str__" f k 1 F) (hr : Room (k + 2) X.A) (hx : Passes (L2.CX X.prog X.w) X E) : CallR X (.type "str") (rOwnS X.K C F E) := by
  intro pins s σ H xs us Q I r h
  obtain ⟨x, rfl, ⟨a, dx, fs, rfl, ha⟩, q⟩ := h
  obtain ⟨u, rfl, ru⟩ := r.one
  cases (show u = Value.ref a from ru)
  obtain ⟨od, J⟩ := insAt_look I ha
  have h2 : Room k X.A.in1.in1 := (show Room (k + 1) X.A.in1 from Room.in1 hr).in1
  refine PySem.W.kso_call h2.units0 I.kIn J o.at_ o.fn ?_
  refine wpAny_mono (run_own (ws := [.ref a]) (us := [.ref a]) o.run h2 I.env0.in1.in1 hx I (.cons rfl .nil) q) (fun w s' ⟨z', H', I', rz, i, ez, qz⟩ => ?_) fun _ _ x => x
  subst ez
  obtain ⟨t, e⟩ := (show ∃ t, w = Value.str i t from rz)
  cases e
  exact ⟨.str i, H', I', ⟨t, rfl⟩, qz⟩
def rOwnBo (K : PySem.W.Frag) (C : Addr) (F : DF) (E : XK) : List V → Hp → VK → Prop := fun xs H Q => ∃ x, xs = [x] ∧ InsAt H C x ∧ spD K 1 F [x] H (fun z H' => ∃ b, z = .bl b ∧ Q (.bl b) H') E
theorem bool_of {prog : Program} {w : World} {A : Around} {Er : Value → Shared → Prop} {s : Shared} {K : PySem.W.Frag} {x C f : Addr} {ox : Obj} {odd : Option Obj} {L : Addr} {h0 : Heap} {mm : Str → Option Value} {Q : Value → Shared → Prop} (Fr0 : Fr h0 L s.heap mm) (X0 : K.In h0) (I : PySem.W.InstAt s.heap x ox C odd)
    (hs : PySem.W.findIn K (.ref C) "__bool__" = some (some (.ref f))) (hf : PySem.W.isFn K (.ref f) = true) (h : wpAny (model prog w) A.in1.in1 (call (.ref f) [.ref x]) (PySem.W.BoolBack fun b s' => Q (.bool b) s') Er s) : wpAny (model prog w) A (call (.type "bool") [.ref x]) Q Er s := by
  refine callType_codes (T := "bool") (Bi := Builtin.«object.__init__») (Q₁ := fun r s1 => ∃ b, r = Value.bool b ∧ Q r s1) PySem.F.called_bool (PySem.F.typeCall_bool_1 _) PySem.F.entry_object_init ?_ ?_
  · refine codeAny_of_tree ?_
    show wpAny _ A.in1.in1 (do checkBuiltinCall "bool.__new__" ⟨[.type "bool", .ref x], []⟩; again (.builtin "bool.__new__" ⟨[.type "bool", .ref x], []⟩)) _ _ s
    refine wpAny_bind (wpAny_of_eq (PySem.F.newCall_bool_1 _) (wpAny_pure ⟨plainId_quiet (by decide +kernel) _, codeAny_builtin PySem.F.entry_bool_new ?_⟩))
    rw [Around.under_plainId (by decide +kernel) _]
    unfold Builtin.«bool.__new__»
    dsimp only
    refine wpAny_bind (wpAny_of_eq (a := true) (by first | rfl | kernel_rfl) ?_)
    refine PySem.W.KFB.if_not rfl ?_
    refine wpAny_bind (wpAny_of_eq (a := true) PySem.F.conv_sub_bool ?_)
    refine PySem.W.KFB.if_not rfl ?_
    refine wpAny_bind (wpAny_of_eq (a := [.ref x]) (by first | rfl | kernel_rfl) ?_)
    refine wpAny_bind (PySem.W.truthy_K Fr0 X0 I hs hf (wpAny_mono h (fun r s1 hr => ?_) fun _ _ y => y))
    cases r <;> first | exact hr.elim | skip
    exact wpAny_pure ⟨_, rfl, hr⟩
  · rintro obj s1 ⟨b, rfl, hq⟩
    exact ⟨PyProof.Rows.typeIs_bool _ _, PySem.F.args_object_init_2 _ _, object_init_meets PySem.F.called_bool.init.lookup PySem.F.called_bool.made (by decide) prog w A.in1 _ s1 ⟨PyProof.Rows.typeIs_bool _ _, rfl, hq⟩⟩
theorem call_ownBo (o : OwnF X C "__bool__" f k 1 F) (hr : Room (k + 2) X.A) (hx : Passes (L2.CX X.prog X.w) X E) : CallR X (.type "bool") (rOwnBo X.K C F E) := by
  intro pins s σ H xs us Q I r h
  obtain ⟨x, rfl, ⟨a, dx, fs, rfl, ha⟩, q⟩ := h
  obtain ⟨u, rfl, ru⟩ := r.one
  cases (show u = Value.ref a from ru)
  obtain ⟨od, J⟩ := insAt_look I ha
  obtain ⟨m, hF⟩ := I.fr
  have h2 : Room k X.A.in1.in1 := (show Room (k + 1) X.A.in1 from Room.in1 hr).in1
  refine bool_of hF I.ok.mod.kin J o.at_ o.fn ?_
  refine wpAny_mono (run_own (ws := [.ref a]) (us := [.ref a]) o.run h2 I.env0.in1.in1 hx I (.cons rfl .nil) q) (fun w s' ⟨z', H', I', rz, b, ez, qz⟩ => ?_) fun _ _ x => x
  subst ez
  cases rz
  exact ⟨.bl b, H', I', rfl, qz⟩
/-- an arithmetic operator of one's own where the right operand is of a built-in type, wherever it stands -/
theorem bin_T {prog : Program} {w : World} {A : Around} {Er : Value → Shared → Prop} {s : Shared} {K : PySem.W.Frag} {x C f : Addr} {ox : Obj} {odd : Option Obj} {op : Operator} {b : Value} {T : String} {fo ro : Option Value} {Q : Value → Shared → Prop} (X : K.In s.heap) (I : PySem.W.InstAt s.heap x ox C odd)
    (hb : PySem.W.Looks (model prog w) s.heap (typeOf b) (.type T)) (hc : PySem.W.selfFirst K C = true) (hs : PySem.W.findIn K (.ref C) (PySem.dunder op.info.2) = some (some (.ref f))) (hf : PySem.W.isFn K (.ref f) = true) (hr : PySem.W.findIn K (.ref C) (PySem.dunderR op.info.2) = some none)
    (h1 : PySem.W.findIn K (.type T) (PySem.dunder op.info.2) = some fo) (h2 : PySem.W.findIn K (.type T) (PySem.dunderR op.info.2) = some ro) (hu : PySem.W.subIn K (.type T) (.ref C) = some false)
    (h : wpAny (model prog w) A (call (.ref f) [.ref x, b]) (PySem.W.CmpBack Q) Er s) : wpAny (model prog w) A (binaryOp op (.ref x) b) Q Er s := by
  obtain ⟨cl, tail, hcl, hmro⟩ := PySem.W.ksp_first hc
  rcases hop : op.info with ⟨sy, nn⟩
  rw [hop] at hs hr h1 h2
  dsimp only at hs hr h1 h2
  have try1 := PySem.W.ksp_try X I hs hf h
  have f0 : PySem.W.Looks (model prog w) s.heap (typeOf (.ref x)) (.ref C) := I.type
  have f1 : PySem.W.Looks (model prog w) s.heap (fillsNumberSlot (.ref C) nn) true := PySem.W.fills_K X hcl hmro hs
  have f2 := PySem.W.ksp_fillsT (M := model prog w) X h1 h2
  have f3 : PySem.W.Looks (model prog w) s.heap (isSubtype (.type T) (.ref C)) false := PySem.W.looks_subIn X hu
  have f4 : PySem.W.Looks (model prog w) s.heap (numberSlotInPython (.ref C) nn) true := PySem.W.ksp_inPy X hs hr (.inl rfl)
  have f5 : PySem.W.Looks (model prog w) s.heap (numberSlotInPython (.type T) nn) false := PySem.W.Looks.of_pure rfl
  have f6 : PySem.W.Looks (model prog w) s.heap (typeLookup (.type T) (PySem.dunderR nn)) ro := PySem.W.looks_findIn X h2
  obtain ⟨hp0, gl0, dp0, tk0, os0⟩ := s
  generalize ((fo.isSome && !isSeqSlot fo) || (ro.isSome && !isSeqSlot ro)) = rr at f2
  have ne : (Value.ref C == Value.type T) = false := Bool.eq_false_iff.mpr fun z => by cases beq_iff_eq.mp z
  unfold binaryOp
  rw [hop]
  refine wpAny_holding (wpAny_bind ?_)
  unfold binaryOp1
  refine wpAny_bind (f0.at (wpAny_bind (hb.at (wpAny_bind (f1.at ?_)))))
  simp only [ne, if_false, Bool.false_eq_true]
  cases rr with
  | false =>
    ksp_lk
    refine wpAny_mono try1 (fun z s2 hz => ?_) fun _ _ y => y
    obtain ⟨v, rfl, hq⟩ := hz
    ksp_lk
    exact hq
  | true =>
    ksp_lk
    refine wpAny_mono try1 (fun z s2 hz => ?_) fun _ _ y => y
    obtain ⟨v, rfl, hq⟩ := hz
    ksp_lk
    exact hq
/-- + - >> where the right one is data or of the class too -/
theorem op_ownB {op : Operator} (c : ClsI X.K m C) (o : OwnF X C (PySem.dunder op.info.2) f k 2 F) (hn : PySem.W.findIn X.K (.ref C) (PySem.dunderR op.info.2) = some none) (hr : Room k X.A) (hx : Passes (L2.CX X.prog X.w) X E) : OpR X (binaryOp op) (rOwnB X.K C op.info.2 F E) := by
  intro pins s σ H x y v u Q I rx ry h
  obtain ⟨⟨a, dx, fs, rfl, ha⟩, ⟨t, ty, ht⟩, q⟩ := h
  cases (show v = Value.ref a from rx)
  obtain ⟨od, J⟩ := insAt_look I ha
  obtain ⟨P, Z, p, _⟩ := kit_of I ry ty
  obtain ⟨m, hF⟩ := I.fr
  have run : wpAny (model X.prog X.w) X.A (call (.ref f) [.ref a, u]) (PySem.W.CmpBack (EP X pins σ Q)) X.xe s := wpAny_mono (run_own (ws := [.ref a, _]) (us := [.ref a, _]) o.run hr I.env0 hx I (.cons rfl (.cons ry .nil)) q) (fun w s' ⟨z', H', I', rz, qz⟩ => SlX.cmpback rz ⟨z', H', I', rz, qz⟩) fun _ _ x => x
  rcases ht with rfl | ⟨T, fo, ro, rfl, h1, h2, h3⟩
  · exact PySem.W.binop_K hF I.ok.mod.kin J (Z.ty _ _ I.kIn p) c.sf o.at_ o.fn run
  · exact bin_T I.kIn J (Z.ty _ _ I.kIn p) c.sf o.at_ o.fn hn h1 h2 h3 run
end
section
variable {X : Cx} {E : XK} {C f : Addr} {m : Str} {k : Nat} {F : DF} {a b : Expr} {pos : Pos} {ta tb : TE}
/-- x[y] -/
theorem pe_ownIx (o : OwnF X C "__getitem__" f k 2 F) (hr : Room (k + 1) X.A) (hx : Passes (L2.CX X.prog X.w) X E) (ha : PE X a ta) (hb : PE X b tb)
    (hsl : ∀ (x : Addr) (i : Value), subscripted b true (.ref x) i = runValue (.builtin "lifetime.subscript" ⟨[.ref x, i], []⟩) := by exact fun _ _ => by with_unfolding_all rfl) : PE X (.Subscript a b pos) (tOp (rOwnIx X.K C F E) ta tb) := by
  refine ⟨fun pins s σ H Q I h => Subscript_ (binT ha hb I h fun v u s2 x y H2 I2 rx ry q => ?_)⟩
  obtain ⟨⟨a', dx, fs, rfl, hi⟩, q⟩ := q
  cases (show v = Value.ref a' from rx)
  obtain ⟨od, J⟩ := insAt_look I2 hi
  obtain ⟨mm, hF⟩ := I2.fr
  exact PySem.W.sub_K hF I2.ok.mod.kin J o.at_ o.fi o.fn (run_own (ws := [.ref a', _]) (us := [.ref a', _]) o.run hr.in1 I2.env0.in1 hx I2 (.cons rfl (.cons ry .nil)) q) (hsl _ _)
end
end DL
set_option Elab.async false
set_option linter.all false
set_option maxRecDepth 100000
set_option maxHeartbeats 4000000
set_option autoImplicit false
/-! The data level: fields, operators and methods of instances. -/
namespace DL
open PySem PySem.Spec PyProof.Rows L2
/-! ### fields -/
def dFldO (Cn f : Str) (o : DL') : DE := fun X ρ Q => o X ρ fun x ρ1 => match x with
  | .ob k => match ρ1.T[k]? with
    | some (.ins C fs) => match fs.lookup f with
      | some d => C = Cn ∧ Q d ρ1
      | none => False
    | _ => False
  | _ => False
def sFldO (Cn f : Str) (o : DL') (e : DE) : DS := fun E ρ => e E.xn ρ fun d ρ1 => o E.xn ρ1 fun x ρ2 => match x with
  | .ob k => match ρ2.T[k]? with
    | some (.ins C fs) => C = Cn ∧ fs.length ≤ 900 ∧ E.nx ⟨ρ2.T.set k (.ins C (putD f d fs)), ρ2.s⟩
    | _ => False
  | _ => False
section
variable {X : Cx} {W : WX} {Cn f : Str} {C : Addr} {o e : Expr} {fo : DL'} {fe : DE} {pos pos' : Pos}
theorem de_fldO (c : ClsI X.K Cn C) (na : NoAttr X.K C f) (ho : PE X o (lL X.K W fo)) (hb : attributeBase o f X.env (eval o X.env) = eval o X.env := by rfl) : PE X (.Attribute o f pos) (lE X.K W (dFldO Cn f fo)) :=
  pe_imp (pe_fld ho hb) fun σ H Q ⟨ρ, G, la, P, XX, re, h, q, xo⟩ => ⟨ρ, G, la, _, XX, re, h, fun x ρ1 v G1 la1 H1 p1 a1 z1 => by
    cases x with
    | dat d => exact (show False from p1).elim
    | clo _ _ _ => exact (show False from p1).elim
    | ob k =>
      obtain ⟨a, ha, ev⟩ := z1
      have p2 : (match ρ1.T[k]? with
        | some (.ins C fs) => match fs.lookup f with
          | some d => C = Cn ∧ P d ρ1
          | none => False
        | _ => False) := p1
      split at p2
      · rename_i C' fs hk
        split at p2
        · rename_i d hd
          obtain ⟨rfl, p3⟩ := p2
          obtain ⟨dx, vs, hH, _, _, e1, e2⟩ := a1.r.tb.ins_at ha hk c.nm
          obtain ⟨u, hu, du⟩ := fld_at e1 e2 hd
          exact ⟨a, C, dx, vs, u, ev, hH, c.cl, na, hu, q _ _ _ _ _ _ p3 a1 du⟩
        · exact p2.elim
      · exact p2.elim, xo⟩
theorem ds_fldO (c : ClsI X.K Cn C) (na : NoAttr X.K C f) (ho : PE X o (lL X.K W fo)) (he : PE X e (lE X.K W fe)) (hs : swapsWith e (some (.Attribute o f pos')) pos.line X.env = pure false := by rfl) : PS X (.Assign [.Attribute o f pos'] e pos) (lS X.K W (sFldO Cn f fo fe)) :=
  ps_imp (ps_fld ho he hs) fun D σ H ⟨ρ, G, la, E, r, h, b⟩ => ⟨ρ, G, la, _, _, r, h, fun d ρ1 y G1 la1 H1 p1 a1 z1 => ⟨ρ1, G1, la1, _, _, a1.r, p1, fun x ρ2 v G2 la2 H2 p2 a2 z2 => by
    cases x with
    | dat d => exact (show False from p2).elim
    | clo _ _ _ => exact (show False from p2).elim
    | ob k =>
      obtain ⟨a, ha, ev⟩ := z2
      have p3 : (match ρ2.T[k]? with
        | some (.ins C fs) => C = Cn ∧ fs.length ≤ 900 ∧ E.nx ⟨ρ2.T.set k (.ins C (putD f d fs)), ρ2.s⟩
        | _ => False) := p2
      split at p3
      · rename_i C' fs hk
        obtain ⟨rfl, lf, p4⟩ := p3
        obtain ⟨dx, vs, hH, _, _, e1, e2⟩ := a2.r.tb.ins_at ha hk c.nm
        have lv : vs.length = fs.length := by
          have := congrArg List.length e1
          simpa using this
        exact ⟨a, C, dx, vs, ev, hH, c.cl, na, by omega, b.nx _ _ _ _ _ p4 ⟨a1.g.trans a2.g, a1.p.trans a2.p, ⟨a2.r.tb.writeI ha hk c.nm hH (put_fst e1) (put_snd (z1.up a2.g) e1 e2), a2.r.sl, a2.r.at_⟩⟩⟩
      · exact p3.elim, b.xn.up a1.g a1.p⟩, b.xn⟩
end
/-! ### what is asked of an instance, with arguments -/
def OwnP (Cn : Str) (n : Nat) (F : DF) (P : Sl → Env → Prop) (XX : XP) (ss : List Sl) (ρ1 : Env) : Prop := match ss with
  | .ob k :: r => match ρ1.T[k]? with
    | some (.ins C _) => C = Cn ∧ r.length + 1 = n ∧ F (.ob k :: r) ρ1.T (fun x T' => P x ⟨T', ρ1.s⟩) (fun x T' => XX x ⟨T', ρ1.s⟩)
    | _ => False
  | _ => False
def dOwn (Cn : Str) (n : Nat) (F : DF) (fa : DA) : DL' := fun X ρ Q => fa X ρ fun ss ρ1 => OwnP Cn n F Q X ss ρ1
section
variable {K : PySem.W.Frag} {E : XK} {Cn : Str} {C : Addr} {n : Nat} {F : DF}
theorem own_sp (c : ClsI K Cn C) {σ : L2.St} {ρ1 : Env} {G1 H1 : Hp} {la1 : List Addr} {vs : List V} {ss : List Sl} (re : Re K G1 H1 la1 σ ρ1) (z : SlsR K G1 la1 vs ss) {P : Sl → Env → Prop} {XX : XP} (p : OwnP Cn n F P XX ss ρ1) {Q : VK} (q : ∀ x ρ' v G' la' H', P x ρ' → Aft K G1 la1 σ ρ' G' la' H' → SlR K G' la' v x → Q v H') (xo : XO K G1 la1 (WF' E) XX) :
    (∃ x r, vs = x :: r ∧ InsAt H1 C x) ∧ spD K n F vs H1 Q E := by
  cases z with
  | nil => exact p.elim
  | cons z1 zr =>
    rename_i v vr x xr
    cases x with
    | dat d => exact (show False from p).elim
    | clo _ _ _ => exact (show False from p).elim
    | ob k =>
      have z0 := z1
      obtain ⟨a, ha, ev⟩ := z1
      have p' : (match ρ1.T[k]? with
        | some (.ins C _) => C = Cn ∧ xr.length + 1 = n ∧ F (.ob k :: xr) ρ1.T (fun x T' => P x ⟨T', ρ1.s⟩) (fun x T' => XX x ⟨T', ρ1.s⟩)
        | _ => False) := p
      split at p'
      · rename_i C' fs hk
        obtain ⟨rfl, ln, p''⟩ := p'
        obtain ⟨dx, ws, hH, _, _, _, _⟩ := re.tb.ins_at ha hk c.nm
        refine ⟨⟨_, _, rfl, a, dx, ws, ev, hH⟩, ?_, .ob k :: xr, G1, la1, ρ1.T, _, _, re.tb, .cons z0 zr, p'', fun r2 T' v' G' la' H' pr g pp rl sr => ?_, fun y T' G' la' H' cls od px g pp rl xr' => ?_⟩
        · rw [List.length_cons, zr.len]
          exact ln
        · refine q _ _ _ _ _ _ pr ⟨g, pp, ⟨rl, re.sl, fun i y hy => ?_⟩⟩ sr
          obtain ⟨u, hu, ru⟩ := re.at_ i y hy
          exact ⟨u, hu, ru.grow g pp⟩
        · refine xo y ⟨T', ρ1.s⟩ σ G' la' H' cls od px ⟨g, pp, ⟨rl, re.sl, fun i y hy => ?_⟩⟩ xr'
          obtain ⟨u, hu, ru⟩ := re.at_ i y hy
          exact ⟨u, hu, ru.grow g pp⟩
      · exact p'.elim
theorem own2_core (c : ClsI K Cn C) {fa fb : DL'} : ∀ (σ : L2.St) (H : Hp) (Q : VK), lL K (WF' E) (dOwn Cn 2 F (dCons fa (dCons fb dNil))) σ H Q → tOp (rOwnIx K C F E) (lL K (WF' E) fa) (lL K (WF' E) fb) σ H Q := fun σ H Q ⟨ρ, G, la, P, XX, r, h, q, xo⟩ =>
  ⟨ρ, G, la, _, XX, r, h, fun x ρ1 v G1 la1 H1 p1 a1 z1 => ⟨ρ1, G1, la1, _, XX, a1.r, p1, fun y ρ2 u G2 la2 H2 p2 a2 z2 => by
    obtain ⟨⟨x', r', e, hi⟩, sp⟩ := own_sp c (vs := [v, u]) a2.r (.cons (z1.grow a2.g a2.p) (.cons z2 .nil)) p2 (fun x ρ' w G' la' H' px a z => q _ _ _ _ _ _ px ((a1.trans a2).trans a) z) ((xo.up a1.g a1.p).up a2.g a2.p)
    cases e
    exact ⟨hi, sp⟩, xo.up a1.g a1.p⟩, xo⟩
end
/-! ### operators -/
/-- the right operand is of a type that is known -/
def okTy (Cn : Str) (T : List Ob) : Sl → Prop
  | .dat d => match tyD d with
    | some _ => True
    | none => False
  | .ob k => match T[k]? with
    | some (.ins C _) => C = Cn
    | _ => False
  | _ => False
def dOwnT (Cn : Str) (F : DF) (fa fb : DL') : DL' := fun X ρ Q => fa X ρ fun x ρ1 => fb X ρ1 fun y ρ2 => okTy Cn ρ2.T y ∧ OwnP Cn 2 F Q X [x, y] ρ2
def tyNames : List String := ["NoneType", "bool", "int", "str", "tuple", "list"]
section
variable {K : PySem.W.Frag} {E : XK} {Cn : Str} {C : Addr} {n : Nat} {F : DF}
theorem ty_dp {G H : Hp} (sm : Same G H) {v : V} {d : D} (h : Dp K G v d) {t : String} (e : tyD d = some t) : TyX K H v (.type t) ∧ t ∈ tyNames := by
  cases h with
  | non => cases e; exact ⟨.base .non, by simp [tyNames]⟩
  | bl b => cases e; exact ⟨.base (.bl b), by simp [tyNames]⟩
  | int i => cases e; exact ⟨.base (.int i), by simp [tyNames]⟩
  | str z => cases e; exact ⟨.base (.str z), by simp [tyNames]⟩
  | tup a l r => cases e; exact ⟨tyx_t (same_t sm a), by simp [tyNames]⟩
  | lst a l r => cases e; exact ⟨.base (.lst (sm _ _ a)), by simp [tyNames]⟩
  | raw _ => cases e
  | scr _ => cases e
  | fn _ => cases e
  | err _ _ => cases e
  | erf _ _ _ => cases e
theorem ty_sl (c : ClsI K Cn C) {σ : L2.St} {ρ : Env} {G H : Hp} {la : List Addr} {v : V} {y : Sl} (re : Re K G H la σ ρ) (z : SlR K G la v y) (h : okTy Cn ρ.T y) : ∃ t, TyX K H v t ∧ (t = .ref C ∨ ∃ T, t = .type T ∧ T ∈ tyNames) := by
  cases y with
  | dat d =>
    have h' : (match tyD d with
      | some _ => True
      | none => False) := h
    split at h'
    · rename_i t ht
      obtain ⟨a, b⟩ := ty_dp re.tb.ext (show Dp K G v d from z) ht
      exact ⟨_, a, .inr ⟨t, rfl, b⟩⟩
    · exact h'.elim
  | clo _ _ _ => exact (show False from h).elim
  | ob k =>
    obtain ⟨a, ha, ev⟩ := z
    subst ev
    have h' : (match ρ.T[k]? with
      | some (.ins C _) => C = Cn
      | _ => False) := h
    split at h'
    · rename_i C' fs hk
      subst h'
      obtain ⟨dx, ws, hH, _, _, _, _⟩ := re.tb.ins_at ha hk c.nm
      exact ⟨_, .base (.ins hH c.cl c.ca c.cn c.ct c.mo), .inl rfl⟩
    · exact h'.elim
theorem types_ref {C : Addr} : ∀ l : List Value, (l.all fun v => match v with | .type _ => true | _ => false) = true → l.contains (.ref C) = false
  | [], _ => rfl
  | v :: l, h => by
    rw [List.all_cons, Bool.and_eq_true] at h
    have ih := types_ref (C := C) l h.2
    cases v with
    | type n =>
      rw [List.contains_cons, ih, Bool.or_false]
      exact Bool.eq_false_iff.mpr fun q => by cases beq_iff_eq.mp q
    | _ => cases h.1
theorem sub_no {T : String} (h : T ∈ tyNames) : PySem.W.subIn K (.type T) (.ref C) = some false := by
  have key : ∀ T : String, ((fastBuiltinMro T).any fun l => l.all fun v => match v with | .type _ => true | _ => false) = true → PySem.W.subIn K (.type T) (.ref C) = some false := by
    intro T q
    show (fastBuiltinMro T).map (fun x => x.contains (.ref C)) = some false
    revert q
    cases fastBuiltinMro T with
    | none => exact fun q => by cases q
    | some l => exact fun q => congrArg some (types_ref l q)
  simp only [tyNames, List.mem_cons, List.not_mem_nil, or_false] at h
  rcases h with rfl | rfl | rfl | rfl | rfl | rfl <;> exact key _ (by decide +kernel)
theorem ct_ok {t : Value} (h : t = .ref C ∨ ∃ T, t = .type T ∧ T ∈ tyNames) : CtOk K C t := by
  unfold CtOk PySem.W.notFirst
  rcases h with rfl | ⟨T, rfl, m⟩
  · simp
  · rw [sub_no m]
    simp
theorem rt_ok {nm : String} (hn : nm ∈ ["add", "sub", "rshift"]) {t : Value} (h : t = .ref C ∨ ∃ T, t = .type T ∧ T ∈ tyNames) : RtOk K C nm t := by
  rcases h with rfl | ⟨T, rfl, m⟩
  · exact .inl rfl
  · refine .inr ?_
    have key : ∀ T nm : String, T ∈ tyNames → (fastLookup T (PySem.dunder nm)).isSome = true → (fastLookup T (PySem.dunderR nm)).isSome = true → ∃ T' fo ro, (Value.type T) = .type T' ∧ PySem.W.findIn K (.type T') (PySem.dunder nm) = some fo ∧ PySem.W.findIn K (.type T') (PySem.dunderR nm) = some ro ∧ PySem.W.subIn K (.type T') (.ref C) = some false := by
      intro T nm m a b
      obtain ⟨fo, ha⟩ := Option.isSome_iff_exists.mp a
      obtain ⟨ro, hb⟩ := Option.isSome_iff_exists.mp b
      exact ⟨T, fo, ro, rfl, ha, hb, sub_no m⟩
    have m' := m
    simp only [tyNames, List.mem_cons, List.not_mem_nil, or_false] at m' hn
    rcases hn with rfl | rfl | rfl <;> rcases m' with rfl | rfl | rfl | rfl | rfl | rfl <;> exact key _ _ m (by decide +kernel) (by decide +kernel)
theorem own2T_core (c : ClsI K Cn C) {fa fb : DL'} {R : Value → Prop} (hR : ∀ t : Value, (t = .ref C ∨ ∃ T, t = .type T ∧ T ∈ tyNames) → R t) : ∀ (σ : L2.St) (H : Hp) (Q : VK), lL K (WF' E) (dOwnT Cn F fa fb) σ H Q →
    tOp (fun x y H Q => InsAt H C x ∧ (∃ t, TyX K H y t ∧ R t) ∧ spD K 2 F [x, y] H Q E) (lL K (WF' E) fa) (lL K (WF' E) fb) σ H Q := fun σ H Q ⟨ρ, G, la, P, XX, r, h, q, xo⟩ =>
  ⟨ρ, G, la, _, XX, r, h, fun x ρ1 v G1 la1 H1 p1 a1 z1 => ⟨ρ1, G1, la1, _, XX, a1.r, p1, fun y ρ2 u G2 la2 H2 p2 a2 z2 => by
    have p3 : okTy Cn ρ2.T y ∧ OwnP Cn 2 F P XX [x, y] ρ2 := p2
    obtain ⟨⟨x', r', e, hi⟩, sp⟩ := own_sp c (vs := [v, u]) a2.r (.cons (z1.grow a2.g a2.p) (.cons z2 .nil)) p3.2 (fun x ρ' w G' la' H' px a z => q _ _ _ _ _ _ px ((a1.trans a2).trans a) z) ((xo.up a1.g a1.p).up a2.g a2.p)
    cases e
    obtain ⟨t, ht, hq⟩ := ty_sl c a2.r z2 p3.1
    exact ⟨hi, ⟨t, ht, hR t hq⟩, sp⟩, xo.up a1.g a1.p⟩, xo⟩
end
end DL
set_option Elab.async false
set_option linter.all false
set_option maxRecDepth 100000
set_option maxHeartbeats 4000000
set_option autoImplicit false
/-! The data level: expressions and statements about instances. -/
namespace DL
open PySem PySem.Spec PyProof.Rows L2
theorem val_core {K : PySem.W.Frag} {W : WX} {f : DL'} : ∀ (σ : L2.St) (H : Hp) (Q : VK), lE K W (dVal f) σ H Q → lL K W f σ H Q := fun σ H Q ⟨ρ, G, la, P, XX, r, f, q, x⟩ => ⟨ρ, G, la, _, XX, r, f, fun d ρ' v G' la' H' p a z => by
  cases d with
  | dat d => exact q _ _ _ _ _ _ p a z
  | ob k =>
    obtain ⟨b, hb, ev⟩ := z
    subst ev
    have p' : (match ρ'.T[k]? with
      | some (.lst xs) => P (.lst xs) ⟨ρ'.T.set k .dead, ρ'.s⟩
      | _ => False) := p
    split at p'
    · rename_i xs hk
      obtain ⟨vs, hH, gn, s1, dp, rl⟩ := a.r.tb.freeze hb hk
      refine q _ _ _ _ la' _ p' ⟨a.g.trans s1, a.p, ⟨rl, a.r.sl, fun j y hj => ?_⟩⟩ dp
      obtain ⟨u, hu, ru⟩ := a.r.at_ j y hj
      exact ⟨u, hu, ru.grow s1 List.prefix_rfl⟩
    · exact p'.elim
  | clo _ _ _ => exact (show False from p).elim, x⟩
def intSl (Q : D → Env → Prop) : Sl → Env → Prop := fun r ρ' => match r with
  | .dat (.int i) => 0 ≤ i ∧ i < 2 ^ 63 ∧ Q (.int i) ρ'
  | _ => False
def strSl (Q : D → Env → Prop) : Sl → Env → Prop := fun r ρ' => match r with
  | .dat (.str i) => Q (.str i) ρ'
  | _ => False
def blSl (Q : D → Env → Prop) : Sl → Env → Prop := fun r ρ' => match r with
  | .dat (.bl i) => Q (.bl i) ρ'
  | _ => False
def dLenI (Cn : Str) (F : DF) (fx : DL') : DE := fun X ρ Q => fx X ρ fun x ρ1 => OwnP Cn 1 F (intSl Q) X [x] ρ1
def dStrI (Cn : Str) (F : DF) (fx : DL') : DE := fun X ρ Q => fx X ρ fun x ρ1 => OwnP Cn 1 F (strSl Q) X [x] ρ1
def dBoolI (Cn : Str) (F : DF) (fx : DL') : DE := fun X ρ Q => fx X ρ fun x ρ1 => OwnP Cn 1 F (blSl Q) X [x] ρ1
/-- y in x -/
def dInI (Cn : Str) (F : DF) (fy fx : DL') : DE := fun X ρ Q => fy X ρ fun y ρ1 => fx X ρ1 fun x ρ2 => OwnP Cn 2 F (blSl Q) X [x, y] ρ2
def sAugI (i : Nat) (Cn : Str) (F : DF) (fe : DL') : DS := fun E ρ => match ρ.s[i]? with
  | some (some x) => fe E.xn ρ fun y ρ1 => OwnP Cn 2 F (fun z ρ2 => E.nx ⟨ρ2.T, ρ2.s.set i (some z)⟩) E.xn [x, y] ρ1
  | _ => False
/-- o.m(..) -/
def dMeth (Cn m : Str) (n : Nat) (F : DF) (o : DL') (fa : DA) : DL' := fun X ρ Q => o X ρ fun x ρ1 => match x with
  | .ob k => match ρ1.T[k]? with
    | some (.ins C fs) => match fs.lookup m with
      | none => C = Cn ∧ fa X ρ1 fun ss ρ2 => ss.length + 1 = n ∧ F (.ob k :: ss) ρ2.T (fun x T' => Q x ⟨T', ρ2.s⟩) (fun x T' => X x ⟨T', ρ2.s⟩)
      | some _ => False
    | _ => False
  | _ => False
/-- C(..) -/
def dMake (Cn : Str) (F : DF) (fa : DA) : DL' := fun X ρ Q => fa X ρ fun ss ρ1 => F (.ob ρ1.T.length :: ss) (ρ1.T ++ [.ins Cn []]) (fun r T' => match r with
  | .dat .non => Q (.ob ρ1.T.length) ⟨T', ρ1.s⟩
  | _ => False) (fun x T' => X x ⟨T', ρ1.s⟩)
/-- .., *e -/
def dStar (fe : DE) (fr : DA) : DA := fun X ρ Q => fe X ρ fun d ρ1 => match d with
  | .tup ds => fr X ρ1 fun xs ρ2 => Q (ds.map .dat ++ xs) ρ2
  | _ => False
section
variable {X : Cx} {E : XK} {Cn : Str} {C f : Addr} {k n : Nat} {F : DF} {a b e : Expr} {es : List Expr} {fa fb fe : DL'} {ff : DE} {fr : DA} {pos p : Pos}
theorem dl_ownIx (c : ClsI X.K Cn C) (o : OwnF X C "__getitem__" f k 2 F) (hr : Room (k + 1) X.A) (tk : Takes X (WF' E)) (ha : PE X a (lL X.K (WF' E) fa)) (hb : PE X b (lL X.K (WF' E) fb))
    (hsl : ∀ (x : Addr) (i : Value), subscripted b true (.ref x) i = runValue (.builtin "lifetime.subscript" ⟨[.ref x, i], []⟩) := by exact fun _ _ => by with_unfolding_all rfl) : PE X (.Subscript a b pos) (lL X.K (WF' E) (dOwn Cn 2 F (dCons fa (dCons fb dNil)))) :=
  pe_imp (pe_ownIx o hr (passE tk) ha hb hsl) (own2_core c)
theorem dl_ownB {op : Operator} (c : ClsI X.K Cn C) (o : OwnF X C (PySem.dunder op.info.2) f k 2 F) (hn : PySem.W.findIn X.K (.ref C) (PySem.dunderR op.info.2) = some none) (hr : Room k X.A) (tk : Takes X (WF' E)) (hm : op.info.2 ∈ ["add", "sub", "rshift"])
    (ha : PE X a (lL X.K (WF' E) fa)) (hb : PE X b (lL X.K (WF' E) fb)) : PE X (.BinOp a op b pos) (lL X.K (WF' E) (dOwnT Cn F fa fb)) :=
  pe_imp (pe_op (op_ownB c o hn hr (passE tk)) ha hb) (own2T_core c fun t h => rt_ok hm h)
theorem dl_ownC {op : CmpOp} (hop : ∀ a b, compareOp op a b = richCompare op a b) (c : ClsI X.K Cn C) (o : OwnF X C (PySem.cmpInfo op).2.1 f k 2 F) (hr : Room k X.A) (tk : Takes X (WF' E)) (ha : PE X a (lL X.K (WF' E) fa)) (hb : PE X b (lL X.K (WF' E) fb))
    (hm : behindInMarks op b = false) : PE X (.Compare a [op] [b] pos) (lL X.K (WF' E) (dOwnT Cn F fa fb)) :=
  pe_imp (pe_cmpR (op_ownC hop o hr (passE tk)) ha hb hm) (own2T_core c fun t h => ct_ok h)
theorem dt_ownC {op : CmpOp} (hop : ∀ a b, compareOp op a b = richCompare op a b) (c : ClsI X.K Cn C) (o : OwnF X C (PySem.cmpInfo op).2.1 f k 2 F) (hr : Room k X.A) (tk : Takes X (WF' E)) (ha : PE X a (lL X.K (WF' E) fa)) (hb : PE X b (lL X.K (WF' E) fb))
    (hm : behindInMarks op b = false) : PT X (.Compare a [op] [b] pos) (lT X.K (WF' E) (dTest (dVal (dOwnT Cn F fa fb)))) :=
  pt_imp (pt_cmpR (op_ownC hop o hr (passE tk)) ha hb hm) fun σ H Q h => own2T_core c (fun t h => ct_ok h) σ H _ (val_core σ H _ (test_core σ H Q h))
theorem in_core {K : PySem.W.Frag} (c : ClsI K Cn C) : ∀ (σ : L2.St) (H : Hp) (Q : VK), lE K (WF' E) (dInI Cn F fb fa) σ H Q → tOp (rOwnIn K C F E) (lL K (WF' E) fb) (lL K (WF' E) fa) σ H Q := fun σ H Q ⟨ρ, G, la, P, XX, r, h, q, xo⟩ =>
  ⟨ρ, G, la, _, XX, r, h, fun y ρ1 v G1 la1 H1 p1 a1 z1 => ⟨ρ1, G1, la1, _, XX, a1.r, p1, fun x ρ2 u G2 la2 H2 p2 a2 z2 => by
    obtain ⟨⟨x', r', e, hi⟩, sp⟩ := own_sp c (Q := fun z H' => ∃ b, z = .bl b ∧ Q (.bl b) H') (vs := [u, v]) a2.r (.cons z2 (.cons (z1.grow a2.g a2.p) .nil)) p2 (fun x ρ' w G' la' H' px a z => by
      cases x with
      | dat d =>
        cases d with
        | bl b =>
          cases z
          exact ⟨b, rfl, q _ _ _ _ _ _ px ((a1.trans a2).trans a) (.bl b)⟩
        | _ => exact (show False from px).elim
      | _ => exact (show False from px).elim) ((xo.up a1.g a1.p).up a2.g a2.p)
    cases e
    exact ⟨hi, sp⟩, xo.up a1.g a1.p⟩, xo⟩
theorem de_inI (c : ClsI X.K Cn C) (o : OwnF X C "__contains__" f k 2 F) (hr : Room k X.A) (tk : Takes X (WF' E)) (hb : PE X b (lL X.K (WF' E) fb)) (ha : PE X a (lL X.K (WF' E) fa)) (hm : behindInMarks .In a = false) : PE X (.Compare b [.In] [a] pos) (lE X.K (WF' E) (dInI Cn F fb fa)) :=
  pe_imp (pe_cmpR (op_ownIn o hr (passE tk)) hb ha hm) (in_core c)
theorem dt_inI (c : ClsI X.K Cn C) (o : OwnF X C "__contains__" f k 2 F) (hr : Room k X.A) (tk : Takes X (WF' E)) (hb : PE X b (lL X.K (WF' E) fb)) (ha : PE X a (lL X.K (WF' E) fa)) (hm : behindInMarks .In a = false) : PT X (.Compare b [.In] [a] pos) (lT X.K (WF' E) (dTest (dInI Cn F fb fa))) :=
  pt_imp (pt_cmpR (op_ownIn o hr (passE tk)) hb ha hm) fun σ H Q h => in_core c σ H _ (test_core σ H Q h)
theorem de_lenI (c : ClsI X.K Cn C) (o : OwnF X C "__len__" f k 1 F) (hr : Room (k + 1) X.A) (tk : Takes X (WF' E)) (hm : X.mg "len" = none) (ha : PE X a (lL X.K (WF' E) fa)) (hgl : Gl X "len" := by rfl) (he : starEach [a] X.env = (false, eval a X.env) :: starEach [] X.env := by rfl) :
    PE X (.Call (.Name "len" p) [a] [] pos) (lE X.K (WF' E) (dLenI Cn F fa)) :=
  pe_imp (pe_callB (call_ownL o hr (passE tk)) hgl hm PySem.boot_len (pa_cons ha pa_nil he) (by decide) (by decide) he rfl) fun σ H Q ⟨ρ, G, la, P, XX, r, h, q, xo⟩ => ⟨ρ, G, la, _, XX, r, h, fun x ρ1 v G1 la1 H1 p1 a1 z1 => by
    obtain ⟨⟨x', r', e, hi⟩, sp⟩ := own_sp c (Q := fun z H' => ∃ i : Int, z = .int i ∧ 0 ≤ i ∧ i < 2 ^ 63 ∧ Q (.int i) H') (vs := [v]) a1.r (.cons z1 .nil) p1 (fun x ρ' w G' la' H' px a z => by
      cases x with
      | dat d =>
        cases d with
        | int i =>
          have px' : 0 ≤ i ∧ i < 2 ^ 63 ∧ P (.int i) ρ' := px
          cases z
          exact ⟨i, rfl, px'.1, px'.2.1, q _ _ _ _ _ _ px'.2.2 (a1.trans a) (.int i)⟩
        | _ => exact (show False from px).elim
      | _ => exact (show False from px).elim) (xo.up a1.g a1.p)
    cases e
    exact ⟨v, rfl, hi, sp⟩, xo⟩
theorem de_strI (c : ClsI X.K Cn C) (o : OwnF X C "__str__" f k 1 F) (hr : Room (k + 2) X.A) (tk : Takes X (WF' E)) (hm : X.mg "str" = none) (ha : PE X a (lL X.K (WF' E) fa)) (hgl : Gl X "str" := by rfl) (he : starEach [a] X.env = (false, eval a X.env) :: starEach [] X.env := by rfl) :
    PE X (.Call (.Name "str" p) [a] [] pos) (lE X.K (WF' E) (dStrI Cn F fa)) :=
  pe_imp (pe_callTy (call_ownS o hr (passE tk)) hgl hm bt_str (pa_cons ha pa_nil he) (by decide) (by decide) he rfl) fun σ H Q ⟨ρ, G, la, P, XX, r, h, q, xo⟩ => ⟨ρ, G, la, _, XX, r, h, fun x ρ1 v G1 la1 H1 p1 a1 z1 => by
    obtain ⟨⟨x', r', e, hi⟩, sp⟩ := own_sp c (Q := fun z H' => ∃ i : Str, z = .str i ∧ Q (.str i) H') (vs := [v]) a1.r (.cons z1 .nil) p1 (fun x ρ' w G' la' H' px a z => by
      cases x with
      | dat d =>
        cases d with
        | str i =>
          cases z
          exact ⟨i, rfl, q _ _ _ _ _ _ px (a1.trans a) (.str i)⟩
        | _ => exact (show False from px).elim
      | _ => exact (show False from px).elim) (xo.up a1.g a1.p)
    cases e
    exact ⟨v, rfl, hi, sp⟩, xo⟩
theorem de_boolI (c : ClsI X.K Cn C) (o : OwnF X C "__bool__" f k 1 F) (hr : Room (k + 2) X.A) (tk : Takes X (WF' E)) (hm : X.mg "bool" = none) (ha : PE X a (lL X.K (WF' E) fa)) (hgl : Gl X "bool" := by rfl) (he : starEach [a] X.env = (false, eval a X.env) :: starEach [] X.env := by rfl) :
    PE X (.Call (.Name "bool" p) [a] [] pos) (lE X.K (WF' E) (dBoolI Cn F fa)) :=
  pe_imp (pe_callTy (call_ownBo o hr (passE tk)) hgl hm bt_bool (pa_cons ha pa_nil he) (by decide) (by decide) he rfl) fun σ H Q ⟨ρ, G, la, P, XX, r, h, q, xo⟩ => ⟨ρ, G, la, _, XX, r, h, fun x ρ1 v G1 la1 H1 p1 a1 z1 => by
    obtain ⟨⟨x', r', e, hi⟩, sp⟩ := own_sp c (Q := fun z H' => ∃ i : Bool, z = .bl i ∧ Q (.bl i) H') (vs := [v]) a1.r (.cons z1 .nil) p1 (fun x ρ' w G' la' H' px a z => by
      cases x with
      | dat d =>
        cases d with
        | bl i =>
          cases z
          exact ⟨i, rfl, q _ _ _ _ _ _ px (a1.trans a) (.bl i)⟩
        | _ => exact (show False from px).elim
      | _ => exact (show False from px).elim) (xo.up a1.g a1.p)
    cases e
    exact ⟨v, rfl, hi, sp⟩, xo⟩
end
end DL
set_option Elab.async false
set_option linter.all false
set_option maxRecDepth 100000
set_option maxHeartbeats 4000000
set_option autoImplicit false
/-! The data level: instances made, methods called, x op= y. -/
namespace DL
open PySem PySem.Spec PyProof.Rows L2
section
variable {X : Cx} {E : XK} {Cn m : Str} {C f : Addr} {k n : Nat} {F : DF} {a b e o : Expr} {es : List Expr} {fa fb fe fo : DL'} {ff : DE} {fr : DA} {pos p apos : Pos}
theorem ds_augI {op : Operator} (i : Nat) {x : Str} {pos' : Pos} (c : ClsI X.K Cn C) (ow : OwnF X C (PySem.dunderI op.info.2) f k 2 F) (hr : Room k X.A) (tk : Takes X (WF' E)) (hN : X.N.Nodup) (he : PE X e (lL X.K (WF' E) fe)) (hi : X.N[i]? = some x := by rfl) (hx : Loc X.env.scope x := by first | exact Or.inl rfl | exact Or.inr rfl)
    (hf : X.fn x = true ∨ X.env.scope.names.lookup x = some .local := by first | exact .inl rfl | exact .inr rfl | assumption) : PS X (.AugAssign (.Name x pos') op e pos) (lS X.K (WF' E) (sAugI i Cn F fe)) :=
  ps_imp (ps_aug (i := i) hN hi hx he (in_own c ow hr (passE tk)) hf) fun D σ H ⟨ρ, G, la, Ed, r, h, bk⟩ => by
    unfold sAugI at h
    split at h
    · rename_i x hs
      obtain ⟨v, hv, z⟩ := r.at_ _ _ hs
      refine ⟨v, hv, ρ, G, la, _, _, r, h, fun y ρ1 u G1 la1 H1 p1 a1 z1 => ?_, bk.xn⟩
      obtain ⟨⟨x', r', e, hi'⟩, sp⟩ := own_sp c (Q := fun z H' => D.nx (σ.set i (some z)) H') (vs := [v, u]) a1.r (.cons (z.grow a1.g a1.p) (.cons z1 .nil)) p1 (fun x ρ' w G' la' H' px a z => by
        refine bk.nx _ _ _ _ _ px ⟨a1.g.trans a.g, a1.p.trans a.p, a.r.set z⟩) (bk.xn.up a1.g a1.p)
      cases e
      exact ⟨hi', sp⟩
    · exact h.elim
theorem dl_meth (c : ClsI X.K Cn C) (ow : OwnF X C m f k n F) (hr : Room k X.A) (tk : Takes X (WF' E)) (ho : PE X o (lL X.K (WF' E) fo)) (ha : PA X (e :: es) (lA X.K (WF' E) fr)) {pl : Sem Bool}
    (hst : starEach (e :: es) X.env = (false, eval e X.env) :: starEach es X.env := by rfl) (hpl : (backTo pos (starEach es X.env)).any (·.1) = false := by rfl)
    (ht : eval (.Call (.Attribute o m apos) (e :: es) [] pos) X.env = (do
      let ov ← eval o X.env
      standAt apos.atName
      let (f, first) ← holding [ov] (getMethod ov m pl)
      callWith pos f first (backTo pos (starEach (e :: es) X.env)) (backToKw pos (keywordEach [] X.env))) := by rfl) : PE X (.Call (.Attribute o m apos) (e :: es) [] pos) (lL X.K (WF' E) (dMeth Cn m n F fo fr)) :=
  pe_imp (pe_methR (pl := pl) ho c.cl ⟨ow.at_, ow.fn, ow.kp⟩ ow.run hr (passE tk) ha hst hpl ht) fun σ H Q ⟨ρ, G, la, P, XX, r, h, q, xo⟩ => ⟨ρ, G, la, _, XX, r, h, fun x ρ1 v G1 la1 H1 p1 a1 z1 => by
    cases x with
    | dat d => exact (show False from p1).elim
    | clo _ _ _ => exact (show False from p1).elim
    | ob k' =>
      have z0 := z1
      obtain ⟨a, hla, ev⟩ := z1
      have p2 : (match ρ1.T[k']? with
        | some (.ins C fs) => match fs.lookup m with
          | none => C = Cn ∧ fr XX ρ1 fun ss ρ2 => ss.length + 1 = n ∧ F (.ob k' :: ss) ρ2.T (fun x T' => P x ⟨T', ρ2.s⟩) (fun x T' => XX x ⟨T', ρ2.s⟩)
          | some _ => False
        | _ => False) := p1
      split at p2
      · rename_i C' fs hk
        split at p2
        · rename_i hl
          obtain ⟨rfl, p3⟩ := p2
          obtain ⟨dx, ws, hH, _, _, e1, e2⟩ := a1.r.tb.ins_at hla hk c.nm
          have hl2 : ws.lookup m = none := by
            have key : ∀ {ws : List (Str × V)} {fs : List (Str × D)}, ws.map (·.1) = fs.map (·.1) → fs.lookup m = none → ws.lookup m = none := by
              intro ws
              induction ws with
              | nil => intro fs _ _; rfl
              | cons w ws ih =>
                intro fs e h
                cases fs with
                | nil => cases e
                | cons g gs =>
                  have e3 := List.cons.inj e
                  obtain ⟨w1, w2⟩ := w
                  obtain ⟨g1, g2⟩ := g
                  have e4 : w1 = g1 := e3.1
                  subst e4
                  rw [List.lookup_cons] at h ⊢
                  split at h
                  · cases h
                  · exact ih e3.2 h
            exact key e1 hl
          refine ⟨a, dx, ws, ev, hH, hl2, ρ1, G1, la1, _, _, a1.r, p3, fun ss ρ2 vs G2 la2 H2 p4 a2 z2 => ?_, xo.up a1.g a1.p⟩
          have p5 : ss.length + 1 = n ∧ F (.ob k' :: ss) ρ2.T (fun x T' => P x ⟨T', ρ2.s⟩) (fun x T' => XX x ⟨T', ρ2.s⟩) := p4
          refine ⟨?_, .ob k' :: ss, G2, la2, ρ2.T, _, _, a2.r.tb, .cons (z0.grow a2.g a2.p) z2, p5.2, fun r2 T' v' G' la' H' pr g pp rl sr => ?_, fun y T' G' la' H' cls od px g pp rl xr' => ?_⟩
          · rw [List.length_cons, z2.len]
            exact p5.1
          · refine q _ _ _ _ _ _ pr ⟨(a1.trans a2).g.trans g, (a1.trans a2).p.trans pp, ⟨rl, a2.r.sl, fun i y hy => ?_⟩⟩ sr
            obtain ⟨u, hu, ru⟩ := a2.r.at_ i y hy
            exact ⟨u, hu, ru.grow g pp⟩
          · refine xo y ⟨T', ρ2.s⟩ σ G' la' H' cls od px ⟨(a1.trans a2).g.trans g, (a1.trans a2).p.trans pp, ⟨rl, a2.r.sl, fun i y hy => ?_⟩⟩ xr'
            obtain ⟨u, hu, ru⟩ := a2.r.at_ i y hy
            exact ⟨u, hu, ru.grow g pp⟩
        · exact p2.elim
      · exact p2.elim, xo⟩
/-- the def that makes an instance ready -/
def spDA (K : PySem.W.Frag) (F : DF) : Sp := fun vs H Q E => spD K vs.length F vs H Q E
structure IniF (X : Cx) (C f : Addr) (k : Nat) (F : DF) : Prop where
  mks : Mk X.K C f
  run : FnR X.prog X.w X.K X.mg X.base (L2.CX X.prog X.w) k f (spDA X.K F)
theorem make_core {K : PySem.W.Frag} (c : ClsI K Cn C) : ∀ (σ : L2.St) (H : Hp) (Q : VK), lL K (WF' E) (dMake Cn F fr) σ H Q → StX.tMakeR C (spDA K F) E (lA K (WF' E) fr) σ H Q := fun σ H Q ⟨ρ, G, la, P, XX, r, h, q, xo⟩ =>
  ⟨ρ, G, la, _, XX, r, h, fun ss ρ1 vs G1 la1 H1 p1 a1 z1 x dx hx hd hn => by
    have p2 : F (.ob ρ1.T.length :: ss) (ρ1.T ++ [.ins Cn []]) (fun r T' => match r with
      | .dat .non => P (.ob ρ1.T.length) ⟨T', ρ1.s⟩
      | _ => False) (fun x T' => XX x ⟨T', ρ1.s⟩) := p1
    have s0 : Same H1 (upd H1 dx (.own x)) := same_new hd
    have hx2 : (upd H1 dx (.own x)) x = none := by rw [upd_ne (Ne.symm hn)]; exact hx
    have rl1 := a1.r.tb.freshI hx hd hn c.nm
    have pf : la1 <+: la1 ++ [x] := List.prefix_append _ _
    have gx : (la1 ++ [x])[ρ1.T.length]? = some x := by
      rw [← a1.r.tb.len, List.getElem?_append_right (Nat.le_refl _)]
      simp
    refine ⟨rfl, .ob ρ1.T.length :: ss, G1, la1 ++ [x], ρ1.T ++ [.ins Cn []], _, _, rl1, .cons ⟨x, gx, rfl⟩ (z1.up (Same.refl _) pf), p2, fun r2 T' v' G' la' H' pr g pp rl sr => ?_, fun y T' G' la' H' cls od px g pp rl xr' => ?_⟩
    · have gr : ∀ {i : Nat} {y : Sl}, ρ1.s[i]? = some (some y) → ∃ v, σ[i]? = some (some v) ∧ SlR K G' la' v y := fun {i y} hy => by
        obtain ⟨u, hu, ru⟩ := a1.r.at_ i y hy
        exact ⟨u, hu, ru.grow g (pf.trans pp)⟩
      cases r2 with
      | dat d =>
        cases d with
        | non =>
          cases sr
          refine ⟨rfl, q _ _ _ _ _ _ pr ⟨a1.g.trans g, a1.p.trans (pf.trans pp), ⟨rl, a1.r.sl, fun i y hy => gr hy⟩⟩ ⟨x, pre_at pp gx, rfl⟩⟩
        | _ => exact (show False from pr).elim
      | _ => exact (show False from pr).elim
    · refine xo y ⟨T', ρ1.s⟩ σ G' la' H' cls od px ⟨a1.g.trans g, a1.p.trans (pf.trans pp), ⟨rl, a1.r.sl, fun i y hy => ?_⟩⟩ xr'
      obtain ⟨u, hu, ru⟩ := a1.r.at_ i y hy
      exact ⟨u, hu, ru.grow g (pf.trans pp)⟩, xo⟩
theorem dl_make {x : Str} (c : ClsI X.K Cn C) (ow : IniF X C f k F) (hr : Room (k + 1) X.A) (tk : Takes X (WF' E)) (hm : X.mg x = some (.ref C)) (ha : PA X (e :: es) (lA X.K (WF' E) fr)) (hg : Gl X x := by rfl) (hdb : (x == ("__debug__" : Str)) = false := by decide)
    (he : starEach (e :: es) X.env = (false, eval e X.env) :: starEach es X.env := by rfl) (hpl : (backTo pos (starEach es X.env)).any (·.1) = false := by rfl) : PE X (.Call (.Name x p) (e :: es) [] pos) (lL X.K (WF' E) (dMake Cn F fr)) :=
  pe_imp (StX.pe_makeR ow.mks ow.run hr hg hm (passE tk) ha hdb he hpl) (make_core c)
/-- C(e, *y) -/
theorem dl_makeS {x : Str} (c : ClsI X.K Cn C) (ow : IniF X C f k F) (hr : Room (k + 1) X.A) (tk : Takes X (WF' E)) (hm : X.mg x = some (.ref C)) (ha : PA X (e :: es) (lA X.K (WF' E) fr)) (hg : Gl X x := by rfl) (hdb : (x == ("__debug__" : Str)) = false := by decide)
    (he : starEach (e :: es) X.env = (false, eval e X.env) :: starEach es X.env := by rfl) (hst : (backTo pos (starEach es X.env)).any (·.1) = true := by rfl) : PE X (.Call (.Name x p) (e :: es) [] pos) (lL X.K (WF' E) (dMake Cn F fr)) :=
  pe_imp (t := StX.tMakeR C (spDA X.K F) E (lA X.K (WF' E) fr)) ⟨fun pins s σ H Q I h => wpAny_Call_Name_kw (ld_glob I hg hm (PySem.W.callWith_S2 (h₀ := X.base) I.ok.mod.kin ow.mks.kp (thn (ha.run pos pins s σ H _ I h) fun us s1 ⟨vs, H1, I1, r, q⟩ => ⟨I1.kIn, StX.run_makeR ow.mks ow.run hr (passE tk) I1 r q⟩) he hst) hdb)⟩ (make_core c)
theorem map_dat {K : PySem.W.Frag} {G : Hp} {la : List Addr} : ∀ {vs : List V} {ds : List D}, Dps K G vs ds → SlsR K G la vs (ds.map .dat)
  | _, _, .nil => .nil
  | _, _, .cons a r => .cons a (map_dat r)
theorem SlsR.app {K : PySem.W.Frag} {G : Hp} {la : List Addr} : ∀ {vs ws : List V} {xs ys : List Sl}, SlsR K G la vs xs → SlsR K G la ws ys → SlsR K G la (vs ++ ws) (xs ++ ys)
  | _, _, _, _, .nil, h => h
  | _, _, _, _, .cons a r, h => .cons a (SlsR.app r h)
theorem da_star {W : WX} (he : PE X e (lE X.K W ff)) (hs : PA X es (lA X.K W fr)) (hst : starEach (.Starred e p :: es) X.env = (true, eval e X.env) :: starEach es X.env := by rfl) : PA X (.Starred e p :: es) (lA X.K W (dStar ff fr)) :=
  pa_imp (StX.pa_star he hs hst) fun σ H Q ⟨ρ, G, la, P, XX, r, h, q, xo⟩ => ⟨ρ, G, la, _, XX, r, h, fun d ρ1 v G1 la1 H1 p1 a1 z1 => by
    cases d with
    | tup ds =>
      cases z1 with
      | tup hT l hd =>
        refine ⟨_, _, rfl, .inl (same_t a1.r.ext hT), ρ1, G1, la1, _, XX, a1.r, p1, fun xs ρ2 vs G2 la2 H2 p2 a2 z2 => ?_, xo.up a1.g a1.p⟩
        exact q _ _ _ _ _ _ p2 (a1.trans a2) ((map_dat (hd.up a2.g)).app z2)
    | _ => exact (show False from p1).elim, xo⟩
end
end DL
set_option Elab.async false
set_option linter.all false
set_option maxRecDepth 100000
set_option maxHeartbeats 4000000
set_option autoImplicit false
/-! The data level: properties, calls of instances, of classmethods; isinstance; a walk over a display that holds instances. -/
namespace DL
open PySem PySem.Spec PyProof.Rows L2
def E0 : XK := fun _ _ _ => False
theorem passE0 {X : Cx} : Passes (L2.CX X.prog X.w) X.nox E0 := fun pins σ H s e s' I c => by
  obtain ⟨a, B, H', cls, d, _, _, _, _, _, _, _, hE⟩ := c
  exact hE
def dProp (Cn : Str) (F : DF) (fo : DL') : DL' := fun X ρ Q => fo X ρ fun x ρ1 => OwnP Cn 1 F Q X0 [x] ρ1
def dCallO (Cn : Str) (n : Nat) (F : DF) (ff : DL') (fr : DA) : DL' := fun X ρ Q => ff X ρ fun x ρ1 => match x with
  | .ob k => fr X ρ1 fun ss ρ2 => OwnP Cn n F Q X (.ob k :: ss) ρ2
  | _ => False
/-- C(..) where the class stands in a name of the def -/
def dMakeV (i : Nat) (Cn : Str) (F : DF) (fa : DA) : DL' := fun X ρ Q => match ρ.s[i]? with
  | some (some (.dat (.fn x))) => x = Cn ∧ dMake Cn F fa X ρ Q
  | _ => False
def dIsI (Cn : Str) (fx : DL') : DE := fun X ρ Q => fx X ρ fun x ρ1 => match x with
  | .dat d => match tyD d with
    | some _ => Q (.bl false) ρ1
    | none => False
  | .ob k => match ρ1.T[k]? with
    | some (.ins C _) => C = Cn ∧ Q (.bl true) ρ1
    | _ => False
  | _ => False
def loopS (i : Nat) (B : DS) (E : DN) : List Sl → Env → Prop
  | [], ρ => E.nx ρ
  | x :: r, ρ => B { E with nx := loopS i B E r, ct := loopS i B E r, bk := E.nx } ⟨ρ.T, ρ.s.set i (some x)⟩
def sForM (i : Nat) (fa : DA) (B : DS) : DS := fun E ρ => fa E.xn ρ fun xs ρ' => xs.length ≤ 1000 ∧ loopS i B E xs ρ'
section
variable {X : Cx} {E : XK} {Cn m : Str} {C f g : Addr} {k n : Nat} {F : DF} {a b e o fe : Expr} {es : List Expr} {ff fo fx : DL'} {fr : DA} {pos p apos p2 : Pos}
theorem dl_prop {pa : Addr} {fd : FuncData} {ps : List Str} {W : WX} (c : ClsI X.K Cn C) (hp : PropOf X.K C m pa g) (Fk : FnOk X.prog X.w X.K X.mg X.base (L2.CX X.prog X.w) k g fd ps (spD X.K 1 F)) (hr : Room (k + 1) X.A) (hb : Binds X.K fd ps [])
    (ho : PE X o (lL X.K W fo)) (hab : attributeBase o m X.env (eval o X.env) = eval o X.env := by rfl) : PE X (.Attribute o m pos) (lL X.K W (dProp Cn F fo)) :=
  pe_imp (pe_prop (E := E0) ho c.cl hp Fk hr hb .nil passE0 hab) fun σ H Q ⟨ρ, G, la, P, XX, r, h, q, xo⟩ => ⟨ρ, G, la, _, XX, r, h, fun x ρ1 v G1 la1 H1 p1 a1 z1 => by
    obtain ⟨⟨x', r', e, a, dx, fs, ev, hi⟩, sp⟩ := own_sp c (E := E0) (Q := Q) (vs := [v]) a1.r (.cons z1 .nil) p1 (fun x ρ' w G' la' H' px a z => q _ _ _ _ _ _ px (a1.trans a) z) (fun _ _ _ _ _ _ _ _ f _ _ => f.elim)
    cases e
    subst ev
    exact ⟨a, dx, fs, rfl, hi, sp⟩, xo⟩
theorem dl_callO (c : ClsI X.K Cn C) (co : StX.CallO X.K C f) (Fk : FnR X.prog X.w X.K X.mg X.base (L2.CX X.prog X.w) k f (spD X.K n F)) (hr : Room k X.A) (tk : Takes X (WF' E)) (hf : PE X fe (lL X.K (WF' E) ff)) (ha : PA X (e :: es) (lA X.K (WF' E) fr))
    (ht : eval (.Call fe (e :: es) [] pos) X.env = (do callWith pos (← eval fe X.env) [] (backTo pos (starEach (e :: es) X.env)) (backToKw pos (keywordEach [] X.env))) := by rfl)
    (he : starEach (e :: es) X.env = (false, eval e X.env) :: starEach es X.env := by rfl) (hpl : (backTo pos (starEach es X.env)).any (·.1) = false := by rfl) : PE X (.Call fe (e :: es) [] pos) (lL X.K (WF' E) (dCallO Cn n F ff fr)) :=
  pe_imp (StX.pe_callO hf co Fk hr (passE tk) ha ht he hpl) fun σ H Q ⟨ρ, G, la, P, XX, r, h, q, xo⟩ => ⟨ρ, G, la, _, XX, r, h, fun x ρ1 v G1 la1 H1 p1 a1 z1 => by
    cases x with
    | dat d => exact (show False from p1).elim
    | clo _ _ _ => exact (show False from p1).elim
    | ob k' =>
      have z0 := z1
      obtain ⟨a, hla, ev⟩ := z1
      refine ⟨a, ev, ρ1, G1, la1, _, XX, a1.r, p1, fun ss ρ2 vs G2 la2 H2 p3 a2 z2 => ?_, xo.up a1.g a1.p⟩
      obtain ⟨⟨x', r', e, b, dx, fs, eb, hi⟩, sp⟩ := own_sp c (Q := Q) (vs := v :: vs) a2.r (.cons (z0.grow a2.g a2.p) z2) p3 (fun x ρ' w G' la' H' px a z => q _ _ _ _ _ _ px ((a1.trans a2).trans a) z) ((xo.up a1.g a1.p).up a2.g a2.p)
      cases e
      rw [ev] at eb sp
      cases eb
      exact ⟨.inr ⟨dx, fs, hi⟩, sp⟩, xo⟩
/-- C.m(..), m a classmethod -/
theorem dl_cmeth {x : Str} {mc : Value} {pa : Addr} {pl : Sem Bool} (c : ClsI X.K x C) (r : ClX.CRead X.K C mc) (cm : ClX.CMet X.K C mc m pa g) (Fk : FnR X.prog X.w X.K X.mg X.base (L2.CX X.prog X.w) k g (spD X.K n F)) (hr : Room k X.A) (tk : Takes X (WF' E)) (hm : X.mg x = some (.ref C))
    (ha : PA X (e :: es) (lA X.K (WF' E) fr)) (hg : Gl X x := by rfl) (hd : (x == ("__debug__" : Str)) = false := by decide)
    (hst : starEach (e :: es) X.env = (false, eval e X.env) :: starEach es X.env := by rfl) (hpl : (backTo pos (starEach es X.env)).any (·.1) = false := by rfl)
    (ht : eval (.Call (.Attribute (.Name x p2) m apos) (e :: es) [] pos) X.env = (do
      let ov ← eval (.Name x p2) X.env
      standAt apos.atName
      let (f, first) ← holding [ov] (getMethod ov m pl)
      callWith pos f first (backTo pos (starEach (e :: es) X.env)) (backToKw pos (keywordEach [] X.env))) := by rfl) :
    PE X (.Call (.Attribute (.Name x p2) m apos) (e :: es) [] pos) (lL X.K (WF' E) (dCall n F (dCons (dDat (dC (.fn x))) fr))) :=
  pe_imp (ClX.pe_cmeth (pe_glob hg hm (v := .ref C) rfl hd) r cm Fk hr (passE tk) ha hst hpl ht) fun σ H Q h => by
    obtain ⟨ρ, G, la, P, XX, re, h, q, xo⟩ := h
    refine ⟨rfl, ρ, G, la, _, XX, re, h, fun ss ρ1 vs G1 la1 H1 p1 a1 z1 => ?_, xo⟩
    have p2 : (Sl.dat (.fn x) :: ss).length = n ∧ F (.dat (.fn x) :: ss) ρ1.T (fun r T' => P r ⟨T', ρ1.s⟩) (fun y T' => XX y ⟨T', ρ1.s⟩) := p1
    refine ⟨?_, .dat (.fn x) :: ss, G1, la1, ρ1.T, _, _, a1.r.tb, .cons (show Dp _ _ _ _ from .fn c.nm) z1, p2.2, fun r2 T' v' G' la' H' pr g pp rl sr => ?_, fun y T' G' la' H' cls od px g pp rl xr' => ?_⟩
    · rw [List.length_cons, z1.len]
      exact p2.1
    · refine q _ _ _ _ _ _ pr ⟨a1.g.trans g, a1.p.trans pp, ⟨rl, a1.r.sl, fun i y hy => ?_⟩⟩ sr
      obtain ⟨u, hu, ru⟩ := a1.r.at_ i y hy
      exact ⟨u, hu, ru.grow g pp⟩
    · refine xo y ⟨T', ρ1.s⟩ σ G' la' H' cls od px ⟨a1.g.trans g, a1.p.trans pp, ⟨rl, a1.r.sl, fun i y hy => ?_⟩⟩ xr'
      obtain ⟨u, hu, ru⟩ := a1.r.at_ i y hy
      exact ⟨u, hu, ru.grow g pp⟩
/-- cls(e, *y), cls a name of the def that holds the class -/
theorem dl_makeV {x : Str} (i : Nat) (c : ClsI X.K Cn C) (ow : IniF X C f k F) (hr : Room (k + 1) X.A) (tk : Takes X (WF' E)) (ha : PA X (e :: es) (lA X.K (WF' E) fr)) (hN : X.N[i]? = some x := by rfl) (hv : Vis X.env.scope x := by first | exact Or.inl rfl | exact Or.inr (Or.inl rfl) | exact Or.inr (Or.inr rfl))
    (hdb : (x == ("__debug__" : Str)) = false := by decide) (hcd : (x == ("__classdict__" : Str)) = false := by decide)
    (he : starEach (e :: es) X.env = (false, eval e X.env) :: starEach es X.env := by rfl) (hst : (backTo pos (starEach es X.env)).any (·.1) = true := by rfl) : PE X (.Call (.Name x p) (e :: es) [] pos) (lL X.K (WF' E) (dMakeV i Cn F fr)) :=
  pe_imp (t := fun σ H Q => (∃ v, σ[i]? = some (some v) ∧ v = .ref C) ∧ StX.tMakeR C (spDA X.K F) E (lA X.K (WF' E) fr) σ H Q) ⟨fun pins s σ H Q I h => by
    obtain ⟨⟨v, hv', rfl⟩, h⟩ := h
    refine wpAny_Call_Name_kw (thn ((pe_var (pos := p) (i := i) hN hv hdb hcd).run pins s σ H (fun v H' => v = .ref C ∧ H' = H) I ⟨_, hv', rfl, rfl⟩) fun u s1 ⟨v, H1, I1, rv, ev, eH⟩ => ?_)
    subst ev eH
    obtain rfl : u = Value.ref C := rv
    exact PySem.W.callWith_S2 (h₀ := X.base) I1.ok.mod.kin ow.mks.kp (thn (ha.run pos pins s1 σ H1 _ I1 h) fun us s2 ⟨vs, H2, I2, r, q⟩ => ⟨I2.kIn, StX.run_makeR ow.mks ow.run hr (passE tk) I2 r q⟩) he hst⟩ fun σ H Q ⟨ρ, G, la, P, XX, r, h, q, xo⟩ => by
    unfold dMakeV at h
    split at h
    · rename_i x hs
      obtain ⟨rfl, h⟩ := h
      obtain ⟨v, hv', z⟩ := r.at_ _ _ hs
      refine ⟨⟨v, hv', ?_⟩, make_core c σ H Q ⟨ρ, G, la, P, XX, r, h, q, xo⟩⟩
      cases (show Dp X.K G v (.fn x) from z) with
      | fn hn =>
        rw [c.nm] at hn
        cases hn
        rfl
    · exact h.elim
theorem de_isI {x : Str} {W : WX} (c : ClsI X.K Cn C) (hmi : X.mg "isinstance" = none) (hm : X.mg x = some (.ref C)) (ha : PE X a (lL X.K W fx)) (hgi : Gl X "isinstance" := by rfl) (hg : Gl X x := by rfl) (hd : (x == ("__debug__" : Str)) = false := by decide)
    (he : starEach [a, .Name x p2] X.env = (false, eval a X.env) :: starEach [.Name x p2] X.env := by rfl) (he2 : starEach [.Name x p2] X.env = (false, eval (.Name x p2) X.env) :: starEach [] X.env := by rfl) (hpl : (backTo pos (starEach [.Name x p2] X.env)).any (·.1) = false := by rfl) :
    PE X (.Call (.Name "isinstance" p) [a, .Name x p2] [] pos) (lE X.K W (dIsI Cn fx)) :=
  pe_imp (pe_callB call_isi hgi hmi bt_isinstance (pa_cons ha (pa_cons (pe_glob hg hm (v := .ref C) rfl hd) pa_nil he2) he) (by decide) (by decide) he hpl) fun σ H Q ⟨ρ, G, la, P, XX, r, h, q, xo⟩ => ⟨ρ, G, la, _, XX, r, h, fun x ρ1 v G1 la1 H1 p1 a1 z1 => by
    cases x with
    | dat d =>
      have p2 : (match tyD d with
        | some _ => P (.bl false) ρ1
        | none => False) := p1
      split at p2
      · rename_i t ht
        obtain ⟨ty, mt⟩ := ty_dp a1.r.tb.ext (show Dp X.K G1 v d from z1) ht
        exact ⟨v, .ref C, .type t, .ref C, false, rfl, .own C, ty, c.mt t mt, q _ _ _ _ _ _ p2 a1 (.bl false)⟩
      · exact p2.elim
    | clo _ _ _ => exact (show False from p1).elim
    | ob k' =>
      obtain ⟨b, hb, ev⟩ := z1
      subst ev
      have p2 : (match ρ1.T[k']? with
        | some (.ins C' _) => C' = Cn ∧ P (.bl true) ρ1
        | _ => False) := p1
      split at p2
      · rename_i C' fs hk
        obtain ⟨rfl, p3⟩ := p2
        obtain ⟨dx, ws, hH, _, _, _, _⟩ := a1.r.tb.ins_at hb hk c.nm
        exact ⟨.ref b, .ref C, .ref C, .ref C, true, rfl, .own C, .base (.ins hH c.cl c.ca c.cn c.ct c.mo), c.me, q _ _ _ _ _ _ p3 a1 (.bl true)⟩
      · exact p2.elim, xo⟩
/-- C.f, a constant int of the class -/
theorem de_ccon {x : Str} {W : WX} {mc u : Value} {i : Int} {mm : Str} (hm : X.mg x = some (.ref C)) (r : ClX.CRead X.K C mc) (cv : ClX.CVal X.K C mc mm (.int i) u) (hg : Gl X x := by rfl) (hd : (x == ("__debug__" : Str)) = false := by decide)
    (hb : attributeBase (.Name x p2) mm X.env (eval (.Name x p2) X.env) = eval (.Name x p2) X.env := by rfl) : PE X (.Attribute (.Name x p2) mm pos) (lE X.K W (dC (.int i))) :=
  pe_imp (ClX.pe_cval (pe_glob hg hm (v := .ref C) rfl hd) hb) fun σ H Q ⟨ρ, G, la, P, XX, re, h, q, xo⟩ => ⟨C, mc, _, u, rfl, r, cv, q _ _ _ _ _ _ h (Aft.refl re) (.int i)⟩
/-- bool of a bool -/
def gBool : List D → (D → Prop) → Prop
  | [.bl b], P => P (.bl b)
  | _, _ => False
theorem c_bool {K : PySem.W.Frag} : COp K (fun xs H Q => (∃ i, xs = [.int i] ∧ Q (.bl (i != 0)) H) ∨ ∃ k, xs = [.bl k] ∧ Q (.bl k) H) gBool := by
  intro G H vs ds P Q sm h gp k
  unfold gBool at gp
  split at gp
  · obtain ⟨v, rfl, a⟩ := one_of h
    cases a
    exact .inr ⟨_, rfl, k _ _ _ _ gp (Grow.refl sm) (.bl _)⟩
  · exact gp.elim
end
section
variable {X : Cx} {W : WX}
theorem ds_forM (i : Nat) {x : Str} {px pl pos : Pos} {es : List Expr} {body : List Stmt} {fa : DA} {B : DS} (po : PassesOwn (model X.prog X.w) X.A X.env X.xe) (hc : X.calm = true) (hN : X.N.Nodup) (ha : PA X es (lA X.K W fa)) (hb : PSs X body (lS X.K W B)) (hi : X.N[i]? = some x := by rfl) (hx : Loc X.env.scope x := by first | exact Or.inl rfl | exact Or.inr rfl)
    (hf : X.fn x = true ∨ X.env.scope.names.lookup x = some .local := by first | exact .inl rfl | exact .inr rfl | assumption) (hs : ∀ x, foldedSetIterable (.List es pl) X.env x = pure x := by intro _; rfl) : PS X (.For (.Name x px) (.List es pl) body [] pos) (lS X.K W (sForM i fa B)) :=
  ps_imp (ps_for po hc (pi_seq (pe_lst ha)) (pg_name (i := i) hN hi hx hf) hb hs) fun D σ H ⟨ρ, G, la, E, r, h, b⟩ =>
  ⟨ρ, G, la, _, _, r, h, fun xs ρ1 vs G1 la1 H1 p1 a1 z1 => by
    obtain ⟨hl, p1⟩ := p1
    have lv : vs.length ≤ sizeLine := by rw [z1.len]; exact short hl
    refine ⟨lv, fun p hp => ⟨p, vs, rfl, .inl ⟨SqL.of upd_same, ?_⟩⟩⟩
    have gw := Grow.new (o := .lst vs) a1.r.ext hp
    have a2 := a1.grow gw
    have zz := z1.up gw.g List.prefix_rfl
    have hG : (upd G1 p (.lst vs)) p = some (.lst vs) := upd_same
    generalize upd G1 p (.lst vs) = G2 at *
    generalize upd H1 p (.lst vs) = H2 at *
    refine ⟨fun j m σ3 H3 => m + j = xs.length ∧ ∃ ρ3 G3 la3, Aft X.K G2 la1 σ3 ρ3 G3 la3 H3 ∧ loopS i B E (xs.drop j) ρ3, ⟨xs.length, by simp, ρ1, G2, la1, Aft.refl a2.r, by simpa using p1⟩, ?_⟩
    rintro j m σ3 H3 ⟨hm, ρ3, G3, la3, a3, c3⟩
    have hL : SqL X.K H3 p vs := SqL.of (a3.r.ext _ _ (a3.g _ _ hG))
    by_cases hj : j < xs.length
    · right
      have ed : xs.drop j = xs[j] :: xs.drop (j + 1) := List.drop_eq_getElem_cons hj
      rw [ed] at c3
      have hv : j < vs.length := by rw [z1.len]; exact hj
      refine ⟨⟨vs, vs[j], hL, List.getElem?_eq_getElem hv⟩, fun σ4 H4 => ∃ ρ4 G4 la4, Aft X.K G2 la1 σ4 ρ4 G4 la4 H4 ∧ loopS i B E (xs.drop (j + 1)) ρ4, fun σ4 H4 ⟨ρ4, G4, la4, a4, c4⟩ => ⟨m - 1, by omega, by omega, ρ4, G4, la4, a4, c4⟩, fun y H4 yy => ?_⟩
      obtain ⟨rfl, yv⟩ := yy
      obtain ⟨u, hu, ru⟩ := zz.get (List.getElem?_eq_getElem hj)
      have hy := yv vs hL
      rw [hu] at hy
      cases hy
      refine ⟨⟨ρ3.T, ρ3.s.set i (some xs[j])⟩, G3, la3, _, a3.r.set (ru.grow a3.g a3.p), c3, ?_⟩
      have b2 : Bk X.K G3 la3 W E D := b.up (a2.g.trans a3.g) (a2.p.trans a3.p)
      exact ⟨fun ρ5 σ5 G5 la5 H5 p5 a5 => ⟨ρ5, G5, la5, ⟨a3.g.trans a5.g, a3.p.trans a5.p, a5.r⟩, p5⟩, b2.nx, fun ρ5 σ5 G5 la5 H5 p5 a5 => ⟨ρ5, G5, la5, ⟨a3.g.trans a5.g, a3.p.trans a5.p, a5.r⟩, p5⟩, b2.rt, b2.xn⟩
    · left
      have ej : j = xs.length := by omega
      subst ej
      rw [List.drop_length] at c3
      exact ⟨⟨vs, hL, by rw [z1.len]; exact Nat.le_refl _⟩, b.nx ρ3 σ3 G3 la3 H3 c3 ⟨a2.g.trans a3.g, a2.p.trans a3.p, a3.r⟩⟩, b.xn⟩
end
end DL
set_option Elab.async false
set_option linter.all false
set_option maxRecDepth 100000
set_option maxHeartbeats 4000000
set_option autoImplicit false
/-! The data level: defs with two parameters and a star parameter. -/
namespace DL
open PySem PySem.Spec PyProof.Rows L2
/-- called with the two and any data behind them -/
def starF (F : DF) : DF := fun ss T Q QX => match ss with
  | x :: g :: r => match dats r with
    | some ds => ds.length ≤ 1000 ∧ F [x, g, .dat (.tup ds)] T Q QX
    | none => False
  | _ => False
section
variable {P : Program} {w : World} {K : PySem.W.Frag} {mg : Str → Option Value} {base : Heap}
theorem fn_star2 {x qual : Str} {st : Stmt} {f : Addr} {N : List Str} {p1 p2 pv : Str} {k : Nat} {F : DF} {B : DS} {oc kV doc pm cdv ct : Value} {od an : Option Addr} {osl : Array (Option Value)}
    (lk : K.lookup f = some ⟨oc, od, .func (PySem.W.fnOf x qual (defArgs st) (defBody st) (defScope st) .none kV doc pm an cdv ct), osl⟩) (hcd : PySem.W.codeIn K cdv qual = true) (S : FnScope N [p1, p2, pv] (defScope st))
    (h0 : ∀ a b, bindArgs (PySem.W.fnOf x qual (defArgs st) (defBody st) (defScope st) .none kV doc pm an cdv ct) ⟨[a, b], []⟩ = (newTuple [] >>= fun t => pure [(p1, a), (p2, b), (pv, t)]))
    (h1 : ∀ a b r rs, bindArgs (PySem.W.fnOf x qual (defArgs st) (defBody st) (defScope st) .none kV doc pm an cdv ct) ⟨a :: b :: r :: rs, []⟩ = (newTuple (r :: rs) >>= fun t => pure [(p1, a), (p2, b), (pv, t)]))
    (hB : ∀ (A : Around) (outer : List PySem.Env) (s : Shared) (H : Hp) (E : XK), Room k (A.deeper (envOfC qual (defScope st) s.heap.objs.size f cdv)) →
      PSs (cxOf (L2.CX P w) P w K mg base N qual (defScope st) f cdv A outer s H E) (defBody st) (lS K (fun cls d _ H => E cls d H) B))
    (hF : ∀ (ss : List Sl) (T : List Ob) (Q : Sl → List Ob → Prop) (QX : Xn → List Ob → Prop), ss.length = 3 → F ss T Q QX → B (endsOf T.length Q QX) (startD N.length 3 ss T)) (n : Nat) :
    FnR P w K mg base (L2.CX P w) (k + 1) f (spD K n (starF F)) := by
  have z := StX.fn_star (CX := L2.CX P w) (ps := [p1, p2]) (pv := pv) (sp := spD K 3 F) (k := k) lk hcd S StX.cxUp (StX.bind_star2 (B := fun l => bindArgs _ ⟨l, []⟩) h0 h1) (fun A outer s H vs Q E hr h => ⟨_, hB A outer s H E hr, by
    obtain ⟨hl, ss, G, la, T, Pd, PX, rl, sr, fp, q, qx⟩ := h
    exact ⟨startD N.length 3 ss T, G, la, endsOf T.length Pd PX, start_re rfl (hl.symm.trans sr.len) rl sr, hF ss T Pd PX (sr.len.symm.trans hl) fp, ends_bk rl.len q qx⟩⟩)
  refine z.imp fun vs H Q E h => ?_
  obtain ⟨hl, ss, G, la, T, Pd, PX, rl, sr, fp, q, qx⟩ := h
  cases sr with
  | nil => exact (show False from fp).elim
  | cons a sr =>
    cases sr with
    | nil => exact (show False from fp).elim
    | cons b sr =>
      rename_i v1 x1 v2 vr x2 xr
      have fp' : (match dats xr with
        | some ds => ds.length ≤ 1000 ∧ F [x1, x2, .dat (.tup ds)] T Pd PX
        | none => False) := fp
      split at fp'
      · rename_i ds hd
        obtain ⟨hl2, fp2⟩ := fp'
        have lr : vr.length ≤ sizeLine := by
          rw [sr.len, dats_len hd]
          exact short hl2
        refine ⟨[v1, v2], vr, rfl, rfl, lr, fun p hp => ?_⟩
        have w := Grow.new (o := .tup vr) rl.ext hp
        refine ⟨rfl, [x1, x2, .dat (.tup ds)], _, la, T, Pd, PX, rl.grow w, .cons (a.grow w.g List.prefix_rfl) (.cons (b.grow w.g List.prefix_rfl) (.cons ?_ .nil)), fp2, fun r T' v G' la' H' pr g pp rl' sr' => q r T' v G' la' H' pr (w.g.trans g) pp rl' sr', fun y T' G' la' H' cls od px g pp rl' xr' => qx y T' G' la' H' cls od px (w.g.trans g) pp rl' xr'⟩
        exact (show Dp K _ (.ref p) (.tup ds) from .tup (.inl (.inl upd_same)) lr ((dats_of sr hd).up w.g))
      · exact fp'.elim
theorem FnR.any {k : Nat} {f : Addr} {F : DF} (h : ∀ n, FnR P w K mg base (L2.CX P w) k f (spD K n F)) : FnR P w K mg base (L2.CX P w) k f (spDA K F) := fun A outer s H us vs Q E hr e0 r hs => h vs.length A outer s H us vs Q E hr e0 r hs
end
end DL
set_option Elab.async false
set_option linter.all false
set_option maxRecDepth 100000
set_option maxHeartbeats 1000000
set_option autoImplicit false
/-! Generators: if, for. -/
namespace DL
open PySem PySem.Spec PyProof.Rows GenW L2
section
variable {M : Model} {A : Around} {R : GenEnd} {Y : Protocol} {n : Nat} {s₀ : Shared} {c : Code} {fs : List Frame} {s : Shared} {env : PySem.Env}
  {K : Flow → Sem Fin} {H : Value → Sem Fin} {gd : Bool → Bool} {lv : List Value → List Value}
theorem seg_If {test : Expr} {body orelse : List Stmt} {pos : Pos}
    (h : wpAny M (A.over c fs) (isTrue test env (eval test env)) (fun b s' => Seg M A R Y n s₀ c ((if b = true then execs body env else execs orelse env).wrap K H gd lv) fs s') (fun x s' => Seg M A R Y n s₀ c (H x) fs s') s) :
    Seg M A R Y n s₀ c ((exec (.If test body orelse pos) env).wrap K H gd lv) fs s := by
  rw [exec_If]
  refine seg_bind_wrap (wpAny_standAt ?_)
  exact seg_bind_wrap h
theorem seg_For {target iter : Expr} {body orelse : List Stmt} {pos : Pos}
    (h : wpAny M (A.over c fs) (eval iter env) (fun x s₁ => wpAny M (A.over c fs) (pyIter x) (fun it s₂ => ∀ p, Seg M A R Y n s₀ (.forLoop target it body orelse env) (M.den (.forLoop target it body orelse env))
      (.ret (fun r => ((match r with | .ok f => (.pure f : Sem Flow) | .error e => .raise e).onRaise fun (x : Value) => do
        if (← field x 1) == Value.none then unsupported "frame.own-activation:exception-without-traceback"
        setFlight x env.frame).wrap K H gd lv) none (gd false) (lv []) c p [] :: fs) s₂) (fun x s' => Seg M A R Y n s₀ c (H x) fs s') s₁) (fun x s' => Seg M A R Y n s₀ c (H x) fs s') s)
    (hs : ∀ x, foldedSetIterable iter env x = pure x) :
    Seg M A R Y n s₀ c ((exec (.For target iter body orelse pos) env).wrap K H gd lv) fs s := by
  rw [exec_For]
  refine seg_bind_wrap (wpAny_standAt ?_)
  refine seg_bind_wrap (wpAny_mono h (fun x s₁ h₁ => ?_) fun _ _ z => z)
  refine seg_bind_wrap (wpAny_of_eq (hs x) ?_)
  refine seg_bind_wrap (wpAny_standAt ?_)
  refine seg_bind_wrap (wpAny_holding (wpAny_mono h₁ (fun it s₂ h₂ => ?_) fun _ _ z => z))
  exact seg_call h₂
end
section
variable {prog : Program} {w : World} {A : Around} {R : GenEnd} {Y : Protocol} {n : Nat} {s₀ : Shared} {fs : List Frame} {s : Shared} {env : PySem.Env}
theorem seg_block0 (h : Seg (model prog w) A R Y n s₀ (.block [] env) (.pure (.done .next)) fs s) : Seg (model prog w) A R Y n s₀ (.block [] env) ((model prog w).den (.block [] env)) fs s := h
theorem seg_forLoop {target : Expr} {it : Value} {body : List Stmt} {EE : Value → Shared → Prop} (hE : EE = fun x s' => Seg (model prog w) A R Y n s₀ (.forLoop target it body [] env) ((do noteFrame x env; theTreesLotGoes x : Sem Unit).wrap (fun _ => .raise x) .raise id id) fs s')
    (h : wpAny (model prog w) (A.over (.forLoop target it body [] env) fs) (pyNext it) (fun r s₁ => match r with
      | none => Seg (model prog w) A R Y n s₀ (.forLoop target it body [] env) (.pure (.again (.block [] env))) fs s₁
      | some v => wpAny (model prog w) (A.over (.forLoop target it body [] env) fs) (letOwnedTupleGo target it v) (fun _ s₂ => wpAny (model prog w) (A.over (.forLoop target it body [] env) fs) (assign target env v) (fun _ s₃ =>
          Seg (model prog w) A R Y n s₀ (.forLoop target it body [] env) ((execs body env).wrap (fun f => match f with
            | .next | .cont => .pure (.again (.forLoop target it body [] env))
            | .brk => .pure (.done .next)
            | .ret v => .pure (.done (.ret v))) (fun e => (do noteFrame e env; theTreesLotGoes e : Sem Unit).wrap (fun _ => .raise e) .raise id id) id id) fs s₃) EE s₂) EE s₁) EE s) :
    Seg (model prog w) A R Y n s₀ (.forLoop target it body [] env) ((model prog w).den (.forLoop target it body [] env)) fs s := by
  subst hE
  show Seg _ A R Y n s₀ _ ((forTurn target it body [] env).onRaise (fun x => do noteFrame x env; theTreesLotGoes x)) fs s
  unfold forTurn
  rw [Sem.onRaise_eq_wrap]
  have key : ∀ x, ((do noteFrame x env; theTreesLotGoes x : Sem Unit).bind fun _ => (.raise x : Sem Fin)) = (do noteFrame x env; theTreesLotGoes x : Sem Unit).wrap (fun _ => .raise x) .raise id id := fun x => Sem.bind_eq_wrap _ _
  refine seg_bind_wrap (wpAny_standAt ?_)
  refine seg_bind_wrap ?_
  refine wpAny_onRaise (wpAny_mono h (fun r s₁ h₁ => ?_) fun x s' hx => wpAny_standAt ?_)
  · cases r with
    | none => exact h₁
    | some v =>
      refine seg_bind_wrap (wpAny_mono h₁ (fun _ s₂ h₂ => ?_) fun x s' hx => ?_)
      · refine seg_bind_wrap (wpAny_mono h₂ (fun _ s₃ h₃ => ?_) fun x s' hx => ?_)
        · rw [Sem.bind_eq_wrap', Sem.wrap_wrap]
          rw [Sem.wrap_congr (execs body env) _ _ (K' := fun f => match f with
            | .next | .cont => .pure (.again (.forLoop target it body [] env))
            | .brk => .pure (.done .next)
            | .ret v => .pure (.done (.ret v))) (H' := (fun e => (do noteFrame e env; theTreesLotGoes e : Sem Unit).wrap (fun _ => .raise e) .raise id id))
            (fun f => by cases f <;> rfl) (fun e => by first | exact Sem.bind_eq_wrap _ _ | (show (do noteFrame e env; theTreesLotGoes e : Sem Unit).bind (fun _ => .raise e) = _; rw [Sem.bind_eq_wrap]))]
          exact h₃
        · first | exact hx | (rw [key x]; exact hx)
      · first | exact hx | (rw [key x]; exact hx)
  · first | exact hx | (rw [key x]; exact hx)
end
section
variable {X : Cx}
/-! ### if -/
def tGIf (c : TT) (ta tb : TGn) : TGn := fun D ys σ H => c σ H fun b H1 => if b = true then ta D ys σ H1 else tb D ys σ H1
theorem gs_if {test : Expr} {body orelse : List Stmt} {pos : Pos} {tc : TT} {ta tb : TGn} (hc : PT X test tc) (ha : GSs X body ta) (hb : GSs X orelse tb) : GS X (.If test body orelse pos) (tGIf tc ta tb) := by
  refine ⟨fun A S ip R n ys s₀ c fs K J gd lv s σ H D g hn k hI ht => ?_⟩
  obtain ⟨acc, cc, r, I⟩ := hI
  refine seg_If ?_
  rw [g.over]
  refine wpAny_mono (hc.run _ s σ H _ I ht) (fun b s' hq => ?_) fun x s' hx => k.exc n s₀ x s' hx
  obtain ⟨H2, I2, q2⟩ := hq
  cases b with
  | true =>
    rw [if_pos rfl] at q2 ⊢
    exact ha.run A S ip R n ys s₀ c fs K J gd lv s' σ H2 D g hn k ⟨acc, cc, r, I2⟩ q2
  | false =>
    rw [if_neg Bool.false_ne_true] at q2 ⊢
    exact hb.run A S ip R n ys s₀ c fs K J gd lv s' σ H2 D g hn k ⟨acc, cc, r, I2⟩ q2
/-! ### for -/
def tGFor (wi : TI) (g : TG) (tb : TGn) : TGn := fun D ys σ H => wi σ H fun J H1 => ∃ W : Nat → Nat → List V → L2.St → Hp → Prop, (∃ m, W 0 m ys σ H1) ∧ ∀ i m ys σ H, W i m ys σ H →
  (J.stop i H ∧ D.nx ys σ H) ∨ (J.go i H ∧ ∃ N : List V → L2.St → Hp → Prop, (∀ ys' σ' H', N ys' σ' H' → ∃ m', m' < m ∧ W (i + 1) m' ys' σ' H') ∧ ∀ x H', J.yld i H x H' → g x σ H' fun σ2 H2 => tb { D with nx := N, ct := N, bk := D.nx } ys σ2 H2)
theorem gs_for {tg iter : Expr} {body : List Stmt} {wi : TI} {g : TG} {tb : TGn} {pos : Pos} (hp : PassesOwn (model X.prog X.w) X.A X.env X.xe) (hc : X.calm = true) (hi : PI X tg iter wi) (hg : PG X tg g) (hb : GSs X body tb)
    (hs : ∀ x, foldedSetIterable iter X.env x = pure x := by intro _; rfl) : GS X (.For tg iter body [] pos) (tGFor wi g tb) := by
  refine ⟨fun A S ip R n ys s₀ c fs K J gd lv s σ H D gc hn k hI ht => ?_⟩
  obtain ⟨acc0, cc0, r0, I0⟩ := hI
  refine seg_For ?_ hs
  rw [gc.over]
  refine wpAny_mono (hi.run _ s σ H _ I0 ht) (fun v s1 h1 => ?_) fun x s' hx => k.exc n s₀ x s' hx
  refine wpAny_mono h1 (fun itv s2 h2 p => ?_) fun x s' hx => k.exc n s₀ x s' hx
  obtain ⟨it, fp, tn, JJ, H2, e, I2, T, st2, f2, W, ⟨m0, w0⟩, turn⟩ := h2
  subst e
  have stat : ∀ (acc : Array Value) (cc : Nat) {H' : Hp}, (∀ b ∈ fp, H' b = none) → ∀ b ∈ fp, FpOk X ((S, lstObj acc cc) :: ip) H' b := fun acc cc H' hn b hb => by
    obtain ⟨_, q1, q2, q3, q4, q5⟩ := f2 b hb
    refine ⟨hn b hb, q1, q2, q3, q4, fun p hp => ?_⟩
    rcases List.mem_append.mp hp with hp | hp
    · exact q5 p (List.mem_append_left _ hp)
    · rcases List.mem_cons.mp hp with rfl | hp
      · exact q5 (S, lstObj acc0 cc0) (List.mem_append_right _ List.mem_cons_self)
      · exact q5 p (List.mem_append_right _ (List.mem_cons_of_mem _ hp))
  have notS : ∀ b ∈ fp, b ≠ S := fun b hb z => (f2 b hb).2.2.2.2.2 (S, lstObj acc0 cc0) (List.mem_append_right _ List.mem_cons_self) z.symm
  have gl := fun (kk : Result → Sem PySem.Fin) => gc_loop (k := kk) (c' := .forLoop tg (.ref it) body [] X.env) (l := lv []) (kp := []) (p := p) gc rfl rfl
  have loop : ∀ (m n i : Nat) (ys : List V) (s₀ s : Shared) (σ : L2.St) (H : Hp), n + ys.length = sizeLine → W i m ys σ H → GI X S ip ys σ H s → tn i s.heap → (∀ b ∈ fp, H b = none) →
      Seg (model X.prog X.w) A R (GY X S) n s₀ (.forLoop tg (.ref it) body [] X.env) ((model X.prog X.w).den (.forLoop tg (.ref it) body [] X.env))
        (.ret (fun r => ((match r with | .ok f => (.pure f : Sem Flow) | .error e => .raise e).onRaise (cameBack X.env)).wrap K J gd lv) none (gd false) (lv []) c p [] :: fs) s := by
    intro m
    induction m using Nat.strongRecOn with
    | ind m ih =>
      intro n i ys s₀ s σ H hn w hI st fr
      have ee : ∀ (n : Nat) (s₀ : Shared) (x : Value) (s' : Shared), X.xe x s' → Seg (model X.prog X.w) A R (GY X S) n s₀ (.forLoop tg (.ref it) body [] X.env)
          ((do noteFrame x X.env; theTreesLotGoes x : Sem Unit).wrap (fun _ => .raise x) .raise id id)
          (.ret (fun r => ((match r with | .ok f => (.pure f : Sem Flow) | .error e => .raise e).onRaise (cameBack X.env)).wrap K J gd lv) none (gd false) (lv []) c p [] :: fs) s' := fun n s₀ x s' hx => by
        refine seg_wrap ?_
        rw [(gl _).over]
        refine wpAny_bind (wpAny_mono (hp x s' hx) (fun _ s'' hcb => wpAny_theTreesLotGoes ?_) fun y s'' hcb => ?_)
        · exact seg_leaf (.error x) (seg_cameBack gc k hcb)
        · exact seg_leaf (.error y) (seg_cameBack gc k hcb)
      refine seg_forLoop rfl ?_
      rw [(gl _).over]
      obtain ⟨acc, cc, r, I⟩ := hI
      rcases turn i m ys σ H w with ⟨stop, qn⟩ | ⟨go, N, hN, step⟩
      · refine wpAny_mono (T.done X rfl rfl rfl hc i _ s σ H X.xe I (stat acc cc fr) st stop) (fun r3 s4 hq => ?_) fun x s' hx => ee n s₀ x s' hx
        obtain ⟨hr, I4⟩ := hq
        subst hr
        refine seg_again rfl (seg_block0 ?_)
        exact seg_leaf (.ok .next) (k.ok n ys s₀ s4 .next hn ⟨σ, H, ⟨acc, cc, r, I4⟩, qn⟩)
      · refine wpAny_mono (T.item X rfl rfl rfl hc i _ s σ H X.xe I (stat acc cc fr) st go) (fun r3 s4 hq => ?_) fun x s' hx => ee n s₀ x s' hx
        obtain ⟨u, hr, h4⟩ := hq
        subst hr
        refine wpAny_mono h4 (fun _ s5 hq => ?_) fun x s' hx => ee n s₀ x s' hx
        obtain ⟨x, H5, I5, r5, y5, st5, fr5⟩ := hq
        have I5' := I5.pinned (stat acc cc fr5) (T.obj _ _ st5)
        refine wpAny_mono (hg.run _ s5 σ H5 x u _ I5' r5 (step x H5 y5)) (fun _ s6 hq => ?_) fun x s' hx => ee n s₀ x s' hx
        obtain ⟨σ6, H6, I6, q6⟩ := hq
        have g2 : GC X S (ip ++ pinsAt fp s5.heap) A (.forLoop tg (.ref it) body [] X.env) (.ret (fun r => ((match r with | .ok f => (.pure f : Sem Flow) | .error e => .raise e).onRaise (cameBack X.env)).wrap K J gd lv) none (gd false) (lv []) c p [] :: fs) id := by
          obtain ⟨a1, a2, a3, a4, a5, a6, a7⟩ := gl (fun r => ((match r with | .ok f => (.pure f : Sem Flow) | .error e => .raise e).onRaise (cameBack X.env)).wrap K J gd lv)
          refine ⟨a1, fun p hp => ?_, a3, a4, a5, a6, a7⟩
          rcases List.mem_append.mp hp with hp | hp
          · exact a2 p hp
          · exact notS _ (of_pinsAt hp).1
        have again : ∀ {n' : Nat} {ys' : List V} {s₀' s7 : Shared} {σ7 : L2.St} {H7 : Hp}, n' + ys'.length = sizeLine → GI X S (ip ++ pinsAt fp s5.heap) ys' σ7 H7 s7 → N ys' σ7 H7 →
            Seg (model X.prog X.w) A R (GY X S) n' s₀' (.forLoop tg (.ref it) body [] X.env) (.pure (.again (.forLoop tg (.ref it) body [] X.env)))
              (.ret (fun r => ((match r with | .ok f => (.pure f : Sem Flow) | .error e => .raise e).onRaise (cameBack X.env)).wrap K J gd lv) none (gd false) (lv []) c p [] :: fs) s7 := by
          intro n' ys' s₀' s7 σ7 H7 hn' I7 n7
          obtain ⟨acc7, cc7, r7, I7⟩ := I7
          obtain ⟨m', hm, w7⟩ := hN ys' σ7 H7 n7
          have pin7 : ∀ b ∈ fp, ∀ o, s5.heap.get? b = some o → s7.heap.get? b = some o ∧ H7 b = none := fun b hb o e => by
            have q := I7.pin (b, o) (List.mem_append_right _ (List.mem_cons_of_mem _ (List.mem_append_right _ (mem_pinsAt hb e))))
            exact ⟨q.1, q.2.1⟩
          refine seg_again rfl (ih m' hm n' (i + 1) ys' s₀' s7 σ7 H7 hn' w7 ⟨acc7, cc7, r7, I7.pins_of fun p hp => ?_⟩ (T.keep _ _ _ st5 fun b hb o e => (pin7 b hb o e).1) fun b hb => ?_)
          · rcases List.mem_cons.mp hp with rfl | hp
            · exact I7.pin _ (List.mem_append_right _ List.mem_cons_self)
            · exact I7.pin p (List.mem_append_right _ (List.mem_cons_of_mem _ (List.mem_append_left _ hp)))
          · obtain ⟨o, e, _⟩ := T.obj _ _ st5 b hb
            exact (pin7 b hb o e).2
        have I6' : GI X S (ip ++ pinsAt fp s5.heap) ys σ6 H6 s6 := ⟨acc, cc, r, I6⟩
        refine hb.run A S (ip ++ pinsAt fp s5.heap) R n ys s₀ _ _ _ _ id id s6 σ6 H6 { D with nx := N, ct := N, bk := D.nx } g2 hn ⟨fun n' ys' s₀' s3 f hn' hs => ?_, fun n' s₀' x s3 hx => ee n' s₀' x s3 hx⟩ I6' q6
        have un : ∀ {ys' : List V} {σ7 : L2.St} {H7 : Hp} {s7 : Shared}, GI X S (ip ++ pinsAt fp s5.heap) ys' σ7 H7 s7 → GI X S ip ys' σ7 H7 s7 := by
          intro ys' σ7 H7 s7 ⟨acc7, cc7, r7, I7⟩
          refine ⟨acc7, cc7, r7, I7.pins_of fun p hp => ?_⟩
          rcases List.mem_cons.mp hp with rfl | hp
          · exact I7.pin _ (List.mem_append_right _ List.mem_cons_self)
          · exact I7.pin p (List.mem_append_right _ (List.mem_cons_of_mem _ (List.mem_append_left _ hp)))
        cases f with
        | next =>
          obtain ⟨σ3, H3, I3, n3⟩ := hs
          exact again hn' I3 n3
        | cont =>
          obtain ⟨σ3, H3, I3, n3⟩ := hs
          exact again hn' I3 n3
        | brk =>
          obtain ⟨σ3, H3, I3, n3⟩ := hs
          exact seg_leaf (.ok .next) (k.ok n' ys' s₀' s3 .next hn' ⟨σ3, H3, un I3, n3⟩)
        | ret v =>
          obtain ⟨x3, σ3, H3, I3, r3, n3⟩ := hs
          exact seg_leaf (.ok (.ret v)) (k.ok n' ys' s₀' s3 (.ret v) hn' ⟨x3, σ3, H3, un I3, r3, n3⟩)
  exact loop m0 n 0 ys s₀ s2 σ H2 hn w0 ⟨acc0, cc0, r0, I2⟩ st2 fun b hb => (f2 b hb).1
end
end DL
set_option Elab.async false
set_option linter.all false
set_option maxRecDepth 100000
set_option maxHeartbeats 1000000
set_option autoImplicit false
/-! The data level: defs that hand out one thing after another. -/
namespace DL
open PySem PySem.Spec PyProof.Rows L2
/-- no error -/
def Xz : XP := fun _ _ => False
structure DGN where
  nx : List D → Env → Prop
  bk : List D → Env → Prop := fun _ _ => False
  ct : List D → Env → Prop := fun _ _ => False
abbrev DGn := DGN → List D → Env → Prop
structure BkG (K : PySem.W.Frag) (G : Hp) (la : List Addr) (E : DGN) (D : GEnds) : Prop where
  nx : ∀ (ds' : List DL.D) (ρ' : Env) (ys' : List V) (σ' : L2.St) (G' : Hp) (la' : List Addr) (H' : Hp), E.nx ds' ρ' → Aft K G la σ' ρ' G' la' H' → Dps K G' ys' ds' → D.nx ys' σ' H'
  bk : ∀ (ds' : List DL.D) (ρ' : Env) (ys' : List V) (σ' : L2.St) (G' : Hp) (la' : List Addr) (H' : Hp), E.bk ds' ρ' → Aft K G la σ' ρ' G' la' H' → Dps K G' ys' ds' → D.bk ys' σ' H'
  ct : ∀ (ds' : List DL.D) (ρ' : Env) (ys' : List V) (σ' : L2.St) (G' : Hp) (la' : List Addr) (H' : Hp), E.ct ds' ρ' → Aft K G la σ' ρ' G' la' H' → Dps K G' ys' ds' → D.ct ys' σ' H'
theorem BkG.up {K : PySem.W.Frag} {G G' : Hp} {la la' : List Addr} {E : DGN} {D : GEnds} (b : BkG K G la E D) (g : Same G G') (p : la <+: la') : BkG K G' la' E D :=
  ⟨fun ds ρ ys σ G2 la2 H2 h a z => b.nx ds ρ ys σ G2 la2 H2 h ⟨g.trans a.g, p.trans a.p, a.r⟩ z, fun ds ρ ys σ G2 la2 H2 h a z => b.bk ds ρ ys σ G2 la2 H2 h ⟨g.trans a.g, p.trans a.p, a.r⟩ z, fun ds ρ ys σ G2 la2 H2 h a z => b.ct ds ρ ys σ G2 la2 H2 h ⟨g.trans a.g, p.trans a.p, a.r⟩ z⟩
def lGn (K : PySem.W.Frag) (f : DGn) : TGn := fun D ys σ H => ∃ ρ G la E ds, Re K G H la σ ρ ∧ Dps K G ys ds ∧ f E ds ρ ∧ BkG K G la E D
def gG0 : DGn := fun E ds ρ => E.nx ds ρ
def gGThen (t u : DGn) : DGn := fun E ds ρ => t { E with nx := u E } ds ρ
def gPl (B : DS) : DGn := fun E ds ρ => B { nx := E.nx ds, rt := fun _ _ => False, bk := E.bk ds, ct := E.ct ds, xn := Xz } ρ
def gGIf (t : DT) (A B : DGn) : DGn := fun E ds ρ => t Xz ρ fun b ρ1 => if b = true then A E ds ρ1 else B E ds ρ1
def gYld (e : DE) : DGn := fun E ds ρ => ds.length ≤ 1000 ∧ e Xz ρ fun d ρ1 => E.nx (ds ++ [d]) ρ1
def loopG (g : DG) (B : DGn) (E : DGN) : List D → List D → Env → Prop
  | [], ds, ρ => E.nx ds ρ
  | x :: r, ds, ρ => g x ρ fun ρ' => B { E with nx := loopG g B E r, ct := loopG g B E r, bk := E.nx } ds ρ'
def gGFor (fi : DI) (g : DG) (B : DGn) : DGn := fun E ds ρ => fi Xz ρ fun xs ρ1 => loopG g B E xs ds ρ1
section
variable {X : Cx} {W : WX} {st : Stmt} {rest : List Stmt} {pos : Pos}
theorem gs_imp {t t' : TGn} (h : GS X st t) (w : ∀ D ys σ H, t' D ys σ H → t D ys σ H) : GS X st t' := ⟨fun A S ip R n ys s₀ c fs K J gd lv s σ H D g hn k hI ht => h.run A S ip R n ys s₀ c fs K J gd lv s σ H D g hn k hI (w D ys σ H ht)⟩
theorem gss_imp {t t' : TGn} (h : GSs X rest t) (w : ∀ D ys σ H, t' D ys σ H → t D ys σ H) : GSs X rest t' := ⟨fun A S ip R n ys s₀ c fs K J gd lv s σ H D g hn k hI ht => h.run A S ip R n ys s₀ c fs K J gd lv s σ H D g hn k hI (w D ys σ H ht)⟩
theorem xo_z {K : PySem.W.Frag} {G : Hp} {la : List Addr} : XO K G la W Xz := fun x ρ' σ' G' la' H' cls od h _ _ => h.elim
theorem dgn_nil : GSs X [] (lGn X.K gG0) := gss_imp gss_nil fun D ys σ H ⟨ρ, G, la, E, ds, r, z, h, b⟩ => b.nx ds ρ ys σ G la H h (Aft.refl r) z
theorem dgn_cons {f g : DGn} (a : GS X st (lGn X.K f)) (b : GSs X rest (lGn X.K g)) : GSs X (st :: rest) (lGn X.K (gGThen f g)) :=
  gss_imp (gss_cons a b) fun D ys σ H ⟨ρ, G, la, E, ds, r, z, h, bk⟩ => ⟨ρ, G, la, _, ds, r, z, h, fun ds' ρ' ys' σ' G' la' H' p a z' => ⟨ρ', G', la', E, ds', a.r, z', p, bk.up a.g a.p⟩, bk.bk, bk.ct⟩
theorem dg_pl {B : DS} (h : PS X st (lS X.K W B)) : GS X st (lGn X.K (gPl B)) :=
  gs_imp (gs_ps h) fun D ys σ H ⟨ρ, G, la, E, ds, r, z, hb, b⟩ => ⟨ρ, G, la, _, r, hb, fun ρ' σ' G' la' H' p a => b.nx ds ρ' ys σ' G' la' H' p a (z.up a.g), fun ρ' σ' G' la' H' p a => b.bk ds ρ' ys σ' G' la' H' p a (z.up a.g), fun ρ' σ' G' la' H' p a => b.ct ds ρ' ys σ' G' la' H' p a (z.up a.g), fun _ _ _ _ _ _ _ p _ _ => p.elim, xo_z⟩
theorem dg_if {test : Expr} {body orelse : List Stmt} {t : DT} {f g : DGn} (hc : PT X test (lT X.K W t)) (ha : GSs X body (lGn X.K f)) (hb : GSs X orelse (lGn X.K g)) : GS X (.If test body orelse pos) (lGn X.K (gGIf t f g)) :=
  gs_imp (gs_if hc ha hb) fun D ys σ H ⟨ρ, G, la, E, ds, r, z, h, b⟩ => ⟨ρ, G, la, _, _, r, h, fun c ρ' G' la' H' p a => by
    cases c with
    | true =>
      rw [if_pos rfl]
      exact ⟨ρ', G', la', E, ds, a.r, z.up a.g, p, b.up a.g a.p⟩
    | false =>
      rw [if_neg Bool.false_ne_true]
      exact ⟨ρ', G', la', E, ds, a.r, z.up a.g, p, b.up a.g a.p⟩, xo_z⟩
theorem dg_yield {e : Expr} {f : DE} {yp : Pos} (he : PE X e (lE X.K W f)) (hco : X.env.scope.isCoroutine = false := by rfl) (hi : interactive X.env = false := by rfl) : GS X (.Expr (.Yield (some e) yp) pos) (lGn X.K (gYld f)) :=
  gs_imp (gs_yield he hco hi) fun D ys σ H ⟨ρ, G, la, E, ds, r, z, h, b⟩ => ⟨by
    have := h.1
    rw [z.len]
    exact Nat.lt_of_le_of_lt this (by rw [sizeLine_eq]; omega), ρ, G, la, _, _, r, h.2, fun d ρ' v G' la' H' p a dv => b.nx (ds ++ [d]) ρ' (ys ++ [v]) σ G' la' H' p a ((z.up a.g).app (.cons dv .nil)), xo_z⟩
theorem dg_for {tg iter : Expr} {body : List Stmt} {fi : DI} {g : DG} {B : DGn} {is_ : List Nat} (po : PassesOwn (model X.prog X.w) X.A X.env X.xe) (hc : X.calm = true) (hi : PI X tg iter (lI X.K W fi)) (hg : PG X tg (lG X.K is_ g)) (hb : GSs X body (lGn X.K B))
    (hs : ∀ x, foldedSetIterable iter X.env x = pure x := by intro _; rfl) : GS X (.For tg iter body [] pos) (lGn X.K (gGFor fi g B)) :=
  gs_imp (gs_for po hc hi hg hb hs) fun D ys σ H ⟨ρ, G, la, E, ds, r, z, h, b⟩ => ⟨ρ, G, la, _, _, r, h, fun xs ρ1 G1 la1 H1 J p1 a1 wk lz => by
    refine ⟨fun i m ys2 σ2 H2 => m + i = xs.length ∧ ∃ ds2 ρ2 G2 la2, Aft X.K G1 la1 σ2 ρ2 G2 la2 H2 ∧ Dps X.K G2 ys2 ds2 ∧ loopG g B E (xs.drop i) ds2 ρ2, ⟨xs.length, by simp, ds, ρ1, G1, la1, Aft.refl a1.r, z.up a1.g, by simpa using p1⟩, ?_⟩
    rintro i m ys2 σ2 H2 ⟨hm, ds2, ρ2, G2, la2, a2, z2, c2⟩
    by_cases hi : i < xs.length
    · right
      have ed : xs.drop i = xs[i] :: xs.drop (i + 1) := List.drop_eq_getElem_cons hi
      rw [ed] at c2
      refine ⟨wk.goes i H2 hi (a2.g.trans a2.r.ext), fun ys3 σ3 H3 => ∃ ds3 ρ3 G3 la3, Aft X.K G1 la1 σ3 ρ3 G3 la3 H3 ∧ Dps X.K G3 ys3 ds3 ∧ loopG g B E (xs.drop (i + 1)) ds3 ρ3, fun ys3 σ3 H3 ⟨ds3, ρ3, G3, la3, a3, z3, c3⟩ => ⟨m - 1, by omega, by omega, ds3, ρ3, G3, la3, a3, z3, c3⟩, fun x H3 y => ?_⟩
      obtain ⟨G3, gr, dx⟩ := wk.yields i G2 H2 x H3 a2.g a2.r.ext y xs[i] (List.getElem?_eq_getElem hi)
      have a3 := a2.grow gr
      refine ⟨ρ2, G3, la2, xs[i], _, a3.r, dx, c2, fun ρ4 σ4 p4 r4 _ => ⟨ρ4, G3, la2, _, ds2, r4, z2.up gr.g, p4, ?_⟩⟩
      have b2 : BkG X.K G3 la2 E D := b.up (a1.g.trans a3.g) (a1.p.trans a3.p)
      exact ⟨fun ds5 ρ5 ys5 σ5 G5 la5 H5 p5 a5 z5 => ⟨ds5, ρ5, G5, la5, ⟨a3.g.trans a5.g, a3.p.trans a5.p, a5.r⟩, z5, p5⟩, b2.nx, fun ds5 ρ5 ys5 σ5 G5 la5 H5 p5 a5 z5 => ⟨ds5, ρ5, G5, la5, ⟨a3.g.trans a5.g, a3.p.trans a5.p, a5.r⟩, z5, p5⟩⟩
    · left
      have ei : i = xs.length := by omega
      subst ei
      rw [List.drop_length] at c2
      exact ⟨wk.stops H2 (a2.g.trans a2.r.ext), b.nx ds2 ρ2 ys2 σ2 G2 la2 H2 c2 ⟨a1.g.trans a2.g, a1.p.trans a2.p, a2.r⟩ z2⟩, xo_z⟩
end
/-! ### the def -/
abbrev DFG := List Sl → List Ob → (List D → List Ob → Prop) → Prop
def spG (K : PySem.W.Frag) (n : Nat) (F : DFG) : SpG := fun vs H Q E => vs.length = n ∧ ∃ ss G la T P, Rl K G H la T ∧ SlsR K G la vs ss ∧ F ss T P ∧ ∀ ds T' ys G' la' H', P ds T' → Same G G' → la <+: la' → Rl K G' H' la' T' → Dps K G' ys ds → Q ys H'
theorem fn_G {P : Program} {w : World} {K : PySem.W.Frag} {mg : Str → Option Value} {base : Heap} {x qual : Str} {st : Stmt} {f : Addr} {N ps : List Str} {k n : Nat} {F : DFG} {B : DGn} {oc kV doc pm cdv ct : Value} {od an : Option Addr} {osl : Array (Option Value)}
    (lk : K.lookup f = some ⟨oc, od, .func (PySem.W.fnOf x qual (defArgs st) (defBody st) (defScope st) .none kV doc pm an cdv ct), osl⟩) (hcd : PySem.W.codeIn K cdv qual = true) (S : GScope N ps (defScope st)) (hn : ps.length = n)
    (hB : ∀ (A : Around) (outer : List PySem.Env) (s : Shared) (H : Hp) (E : XK) (pn : List (Addr × Obj)), Room k (A.deeper (envOfC qual (defScope st) s.heap.objs.size f cdv)) →
      GSs (gcxOf P w K mg base N qual (defScope st) f cdv A outer s H E pn) (defBody st) (lGn K B))
    (hF : ∀ (ss : List Sl) (T : List Ob) (Q : List D → List Ob → Prop), ss.length = n → F ss T Q → B { nx := fun ds ρ => Q ds (ρ.T.take T.length) } [] (startD N.length n ss T)) :
    GFn P w K mg base (k + 1) f (PySem.W.fnOf x qual (defArgs st) (defBody st) (defScope st) .none kV doc pm an cdv ct) ps (spG K n F) := by
  refine gfn_of lk hcd S (fun vs H Q E h => h.1.trans hn.symm) (fun A outer s H vs Q E pn hr h => ⟨_, hB A outer s H E pn hr, ?_⟩)
  obtain ⟨hl, ss, G, la, T, Pd, rl, sr, fp, q⟩ := h
  refine ⟨startD N.length n ss T, G, la, _, [], start_re rfl (hl.symm.trans sr.len) rl sr, .nil, hF ss T Pd (sr.len.symm.trans hl) fp, fun ds' ρ' ys' σ' G' la' H' p a z => ?_, fun _ _ _ _ _ _ _ p _ _ => p.elim, fun _ _ _ _ _ _ _ p _ _ => p.elim⟩
  have e : la'.take T.length = la := by
    rw [← rl.len]
    exact pre_take a.p
  have z2 := a.r.tb.take T.length
  rw [e] at z2
  exact q ds' _ ys' G' la H' p a.g List.prefix_rfl z2 z
/-- list(o.m()), m hands out one thing after another -/
def dListG (Cn m : Str) (F : DFG) (fo : DL') : DE := fun X ρ Q => fo X ρ fun x ρ1 => match x with
  | .ob k => match ρ1.T[k]? with
    | some (.ins C fs) => C = Cn ∧ fs.lookup m = none ∧ F [.ob k] ρ1.T fun ds T' => ds.length ≤ 1000 ∧ Q (.lst ds) ⟨T', ρ1.s⟩
    | _ => False
  | _ => False
theorem lookD_none {m : Str} : ∀ {ws : List (Str × V)} {fs : List (Str × D)}, ws.map (·.1) = fs.map (·.1) → fs.lookup m = none → ws.lookup m = none
  | [], _, _, _ => rfl
  | w :: ws, [], e, _ => by cases e
  | w :: ws, g :: gs, e, h => by
    have e3 := List.cons.inj e
    obtain ⟨w1, w2⟩ := w
    obtain ⟨g1, g2⟩ := g
    have e4 : w1 = g1 := e3.1
    subst e4
    rw [List.lookup_cons] at h ⊢
    split at h
    · cases h
    · exact lookD_none e3.2 h
theorem noStop0 {K : PySem.W.Frag} : NoStop K E0 := fun _ _ _ h => h.elim
theorem de_listG {X : Cx} {W : WX} {Cn m : Str} {C f : Addr} {fd : FuncData} {ps : List Str} {k : Nat} {F : DFG} {fo : DL'} {o : Expr} {nm : Str} {apos pos' p pos : Pos} {pl : Sem Bool} (c : ClsI X.K Cn C) (hm : Meth X.K C m f) (Fk : GFn X.prog X.w X.K X.mg X.base k f fd ps (spG X.K 1 F)) (hr : Room (k + 3) X.A) (hb : Binds X.K fd ps [])
    (hx : Passes (CX X.prog X.w) X E0) (ho : PE X o (lL X.K W fo)) (hg : Gl X nm) (hmg : X.mg nm = none) (hv : bootBuiltins nm = some (.type "list")) (hnm : nm ≠ "__name__" := by decide) (hdb : (nm == ("__debug__" : Str)) = false := by decide)
    (ht : eval (.Call (.Attribute o m apos) [] [] pos') X.env = (do
      let ov ← eval o X.env
      standAt apos.atName
      let (f, first) ← holding [ov] (getMethod ov m pl)
      callWith pos' f first (backTo pos' (starEach [] X.env)) (backToKw pos' (keywordEach [] X.env))) := by rfl)
    (he : starEach [.Call (.Attribute o m apos) [] [] pos'] X.env = (false, eval (.Call (.Attribute o m apos) [] [] pos') X.env) :: starEach [] X.env := by rfl) :
    PE X (.Call (.Name nm p) [.Call (.Attribute o m apos) [] [] pos'] [] pos) (lE X.K W (dListG Cn m F fo)) :=
  pe_imp (pe_listG (pgen_meth0 (E := E0) ho c.cl hm Fk (hr.mono (Nat.le_add_right _ _)) hb .nil ht) hx noStop0 hr hg hmg hv hnm hdb he) fun σ H Q ⟨ρ, G, la, P, XX, r, h, q, xo⟩ => ⟨ρ, G, la, _, XX, r, h, fun x ρ1 v G1 la1 H1 p1 a1 z1 => by
    cases x with
    | dat d => exact (show False from p1).elim
    | clo _ _ _ => exact (show False from p1).elim
    | ob k' =>
      obtain ⟨a, hla, ev⟩ := z1
      have p2 : (match ρ1.T[k']? with
        | some (.ins C fs) => C = Cn ∧ fs.lookup m = none ∧ F [.ob k'] ρ1.T fun ds T' => ds.length ≤ 1000 ∧ P (.lst ds) ⟨T', ρ1.s⟩
        | _ => False) := p1
      split at p2
      · rename_i C' fs hk
        obtain ⟨rfl, hl, p3⟩ := p2
        obtain ⟨dx, ws, hH, _, _, e1, e2⟩ := a1.r.tb.ins_at hla hk c.nm
        refine ⟨a, dx, ws, ev, hH, lookD_none e1 hl, rfl, [.ob k'], G1, la1, ρ1.T, _, a1.r.tb, .cons ⟨a, hla, ev⟩ .nil, p3, fun ds T' ys G' la' H' pr g pp rl dz pnew hp => ?_⟩
        have w := Grow.new (o := .lst ys) rl.ext hp
        have l0 : ys.length ≤ sizeLine := by
          rw [dz.len]
          exact Nat.le_trans pr.1 (by rw [sizeLine_eq]; omega)
        refine q _ ⟨T', ρ1.s⟩ _ _ la' _ pr.2 ⟨a1.g.trans (g.trans w.g), a1.p.trans pp, ⟨rl.grow w, a1.r.sl, fun i y hy => ?_⟩⟩ (.lst upd_same l0 (dz.up w.g))
        obtain ⟨u, hu, ru⟩ := a1.r.at_ i y hy
        exact ⟨u, hu, ru.grow (g.trans w.g) pp⟩
      · exact p2.elim, xo⟩
end DL
set_option Elab.async false
set_option linter.all false
set_option maxRecDepth 100000
set_option maxHeartbeats 1000000
set_option autoImplicit false
/-! The data level: sorted(tuple of ints), tuple.index(int), o.f for constants, xs.append(e) as an expression, defs with one parameter and a star. -/
namespace SrtO
open PySem PyProof.Rows Srt
section
variable {prog : Program} {w : World} {A : Around} {E : Value → Shared → Prop} {s : Shared}
theorem collect_tup {l : Addr} {vs : List Value} {Q : List Value → Shared → Prop} (hl : s.heap.IsTuple l vs.toArray)
    (h : Q vs { s with heap := (s.heap.push (seqObj "list" #[] 0)).update s.heap.objs.size (Obj.mapSeq (· ++ vs.toArray)) }) (hsz : vs.length ≤ sizeLine) :
    wpAny (model prog w) A (collect (.ref l)) Q E s := by
  obtain ⟨o, ho, hc, n, hd⟩ := id hl
  unfold collect
  refine wpAny_bind (wpAny_runValue (codeAny_builtin entry_proto_collect' ?_))
  show wpAny _ _ (do again (.builtin "list.__iadd__" ⟨[← newList [], .ref l], []⟩)) _ _ s
  refine wpAny_bind (wpAny_newList (wpAny_pure ⟨Code.quiet_builtin _ (by decide +kernel), codeAny_builtin entry_list_iadd' ?_⟩))
  show wpAny _ _ (Builtin.List.listExtendWith (.ref s.heap.objs.size) (.ref l) (.ref s.heap.objs.size)) _ _ { s with heap := s.heap.push (seqObj "list" #[] 0) }
  unfold Builtin.List.listExtendWith
  have ho' : (s.heap.push (seqObj "list" #[] 0)).get? l = some o := Heap.get?_push_of_some _ ho
  refine wpAny_bind (wpAny_typeOf (T := "tuple") ⟨o, ho', hc⟩ ?_)
  have ht : (Value.type "tuple" == Value.type "tuple") = true := by rfl
  rw [if_pos (by rw [ht]; simp)]
  refine wpAny_bind (listItems_at ho' hd ?_)
  refine wpAny_bind (listItems_at (xs := #[]) (n := 0) (Heap.get?_push_size _ rfl) rfl ?_)
  rw [if_neg (by simp)]
  refine wpAny_bind (listUpdate_at (xs := #[]) (n := 0) (Heap.get?_push_size _ rfl) rfl ?_ (Nat.zero_le _) (by show (#[] ++ vs.toArray).size ≤ sizeLine + 1; simp only [Array.size_append, List.size_toArray, List.length_nil]; omega))
  refine wpAny_pure ?_
  show wpAny (model prog w) A (do
      let o ← load s.heap.objs.size
      match o.data with
      | .seq xs _ => pure xs.toList
      | _ => unsupported "internal:collect") Q E { s with heap := (s.heap.push (seqObj "list" #[] 0)).update s.heap.objs.size (Obj.mapSeq (· ++ vs.toArray)) }
  refine wpAny_bind (wpAny_load (get?_update_seq (Heap.get?_push_size _ rfl) _) ?_)
  show wpAny _ _ (pure ((#[] : Array Value) ++ vs.toArray).toList) Q E _
  rw [show ((#[] : Array Value) ++ vs.toArray).toList = vs by simp]
  exact wpAny_pure h
theorem sorted_ordT {l : Addr} {vs : List Value} {ltv : Value → Value → Bool} {Q : Value → Shared → Prop} (O : Swo ltv) (hl : s.heap.IsTuple l vs.toArray) (hz : vs.length ≤ sizeLine)
    (hS : 2 ≤ vs.length → ∀ (h₁ : Heap) (a : Addr), h₁.get? a = some (seqObj "list" vs.toArray 0) → (∀ b o, s.heap.get? b = some o → b ≠ a ∧ h₁.get? b = some o) → SortableO prog w A.in1.in1 { s with heap := h₁ } a vs ltv)
    (h : ∀ out : List Value, Srtd ltv out → Stb ltv out vs → Q (.ref (s.heap.objs.size + 1)) { s with heap := sortedAll s.heap vs out.toArray }) :
    wpAny (model prog w) A (call (.builtin "sorted") [.ref l]) Q E s := by
  refine Calls.call_function_entry kind_sorted plain_sorted entry_sorted (args_sorted1 _) ?_
  unfold Builtin.«sorted»
  refine wpAny_bind (m := checkCount "sorted" 1 1 _) (wpAny_pure ?_)
  refine wpAny_bind (collect_tup hl ?_ hz)
  refine wpAny_bind (wpAny_newList ?_ hz)
  have hsz : ((s.heap.push (seqObj "list" #[] 0)).update s.heap.objs.size (Obj.mapSeq (· ++ vs.toArray))).objs.size = s.heap.objs.size + 1 := by
    rw [Heap.size_update, size_push']
  have hoL : (((s.heap.push (seqObj "list" #[] 0)).update s.heap.objs.size (Obj.mapSeq (· ++ vs.toArray))).push (seqObj "list" vs.toArray 0)).get? (s.heap.objs.size + 1) = some (seqObj "list" vs.toArray 0) := by
    rw [← hsz]; exact Heap.get?_push_size _ rfl
  have keep : ∀ b o, s.heap.get? b = some o → b ≠ s.heap.objs.size + 1 ∧ (((s.heap.push (seqObj "list" #[] 0)).update s.heap.objs.size (Obj.mapSeq (· ++ vs.toArray))).push (seqObj "list" vs.toArray 0)).get? b = some o := fun b o q => by
    have hlt : b < s.heap.objs.size := Heap.lt_size q
    refine ⟨Nat.ne_of_lt (Nat.lt_succ_of_lt hlt), Heap.get?_push_of_some _ ?_⟩
    rw [Heap.get?_update_ne _ _ _ _ (Nat.ne_of_lt hlt)]
    exact Heap.get?_push_of_some _ q
  show wpAny _ _ _ _ _ { s with heap := ((s.heap.push (seqObj "list" #[] 0)).update s.heap.objs.size (Obj.mapSeq (· ++ vs.toArray))).push (seqObj "list" vs.toArray 0) }
  rw [hsz]
  refine wpAny_bind (wpAny_holding (wpAny_call_entry slot_list_sort ⟨_, hoL, rfl⟩ entry_list_sort (list_sort_ord O hoL hz (fun h2 => hS h2 _ _ hoL keep) fun out hs hb => ⟨_, rfl, ?_⟩) (args_list_sort _)))
  exact wpAny_pure ⟨_, rfl, h out hs hb⟩
end
end SrtO
namespace DL
open PySem PySem.Spec PyProof.Rows L2
/-! ### sorted, index -/
def rSortedIT (K : PySem.W.Frag) : List V → Hp → VK → Prop := fun vs H Q => ∃ (a : Addr) (ns : List Int), vs = [V.ref a] ∧ SqT K H a (ns.map V.int) ∧
  ∀ (ns' : List Int) (p : Addr), ns'.Perm ns → ns'.Pairwise (· ≤ ·) → H p = none → Q (.ref p) (upd H p (.lst (ns'.map V.int)))
theorem cr_sortedIT {X : Cx} : CallR X (.builtin "sorted") (rSortedIT X.K) := by
  intro pins s σ H vs us Q I r h
  obtain ⟨a, ns, rfl, hs, q⟩ := h
  obtain ⟨its, rv, hl, hz⟩ := I.tuple hs
  rw [Vals.ref1 r]
  have hi := rv.ints
  refine SrtO.sorted_ordT SrtO.swo_int hl (by rw [← rv.length]; exact hz) (fun h2 h₁ a' _ _ => SrtO.ints_sortable hi h2) fun out h1 h2 => ?_
  obtain ⟨k1, k2, k3⟩ := SrtO.ints_out hi h1 h2
  obtain ⟨ep, he'⟩ := PyProof.Rows.sortedAll_at s.heap its out.toArray
  have hlen : ((out.map SrtO.iv).map V.int).length ≤ sizeLine := by
    rw [List.length_map, k2.length_eq]
    rw [List.length_map] at hz
    exact hz
  exact ⟨.ref _, upd H (s.heap.objs.size + 1) (.lst ((out.map SrtO.iv).map V.int)), I.laid (t' := s.toks) (fun _ _ => PyProof.Rows.sortedAll_old) (Nat.le_succ _) ⟨hlen, out, ep, vals_of_ints k1, he'⟩, rfl, q _ _ k2 k3 (I.hok.fresh (Nat.le_succ _))⟩
def gSortedI : List D → (D → Prop) → Prop
  | [.tup xs], P => ∃ ns : List Int, xs = ns.map .int ∧ ∀ ns' : List Int, ns'.Perm ns → ns'.Pairwise (· ≤ ·) → P (.lst (ns'.map .int))
  | _, _ => False
theorem dps_ints {K : PySem.W.Frag} {G : Hp} : ∀ {ns : List Int} {vs : List V}, Dps K G vs (ns.map D.int) → vs = ns.map V.int
  | [], _, h => by cases h; rfl
  | n :: ns, _, h => by
    cases h with
    | cons a r =>
      cases a
      rw [dps_ints r]
      rfl
theorem c_sortedI {K : PySem.W.Frag} : COp K (rSortedIT K) gSortedI := by
  intro G H vs ds P Q sm h gp k
  unfold gSortedI at gp
  split at gp
  · obtain ⟨v, rfl, a⟩ := one_of h
    obtain ⟨ns, rfl, gp⟩ := gp
    cases a with
    | tup a l r =>
      have e := dps_ints r
      subst e
      refine ⟨_, ns, rfl, same_t sm a, fun ns' p hp hs hn => ?_⟩
      refine k _ _ _ _ (gp ns' hp hs) (Grow.new sm hn) (.lst upd_same ?_ (Dps.ints ns'))
      rw [List.length_map, hp.length_eq]
      rw [List.length_map] at l
      exact l
  · exact gp.elim
def rTIndexI (K : PySem.W.Frag) : V → List V → Hp → VK → Prop := fun x xs H Q => ∃ (a : Addr) (ns : List Int) (k : Int), x = V.ref a ∧ xs = [.int k] ∧ SqT K H a (ns.map V.int) ∧ k ∈ ns ∧ Q (.int (ns.idxOf k : Nat)) H
theorem mt_tindexI {X : Cx} : MtR X "tuple.index" (rTIndexI X.K) := by
  intro pins s σ H x xs v us Q I rx rs h
  obtain ⟨a, ns, k, rfl, rfl, hq, hk, q⟩ := h
  cases rx
  obtain ⟨u, rfl, t, rfl⟩ := vals1 rs
  obtain ⟨its, r, pl, hz⟩ := I.tuple hq
  exact SeqAt.tuple_index_ints pl r.ints hk ⟨.int (ns.idxOf k : Nat), H, I.tok _, ⟨_, rfl⟩, q⟩
/-! ### a tuple that is known to have no dict: a slot for it -/
def cr_tupF (K : PySem.W.Frag) : List V → Hp → VK → Prop := fun xs H Q => ∃ p ys, xs = [V.ref p] ∧ SqL K H p ys ∧ ∀ (l : Addr) (o : Obj), o.dict = none → H l = none → Q (.ref l) (upd H l (.frz o (.tup ys)))
theorem call_tupF {X : Cx} : CallR X (.type "tuple") (cr_tupF X.K) := by
  intro pins s σ H xs us Q I r h
  obtain ⟨p, ys, rfl, hq, q⟩ := h
  obtain ⟨u, rfl, rx⟩ := vals1 r
  cases rx
  obtain ⟨its, r', pl, hz⟩ := I.list hq
  have hlen := r'.length
  refine call_tuple_list pl.isList (fun h' kp => ?_) (by simp only [List.size_toArray] <;> omega)
  have I1 : Inv X pins σ H { s with heap := h' } := I.kept (t' := s.toks) kp
  have I2 : Inv X pins σ (upd H h'.objs.size (.frz { cls := .type "tuple", data := .seq its.toArray } (.tup ys))) { s with heap := h'.push { cls := .type "tuple", data := .seq its.toArray } } :=
    I1.laid (t' := s.toks) (fun b o e => Heap.get?_push_of_some _ e) (Nat.le_refl _) (show ObjOk X.prog X.w _ _ _ (.frz _ (.tup ys)) from ⟨Heap.get?_push_size _ rfl, hz, its, r', IsTup.new _ _⟩)
  exact ⟨.ref h'.objs.size, _, I2, rfl, q _ _ rfl (I1.hok.fresh (Nat.le_refl _))⟩
/-- the slot of such a tuple of ints, at a -/
def tplI (a : Addr) (o : Obj) (ns : List Int) : Sl := .clo a (upd (fun _ => none) a (.frz o (.tup (ns.map V.int)))) []
theorem same_one {G : Hp} {a : Addr} {u : HO} (h : G a = some u) : Same (upd (fun _ => none) a u) G := fun b v e => by
  by_cases hb : b = a
  · subst hb
    rw [upd_same] at e
    rw [h, e]
  · rw [upd_ne hb] at e
    cases e
def dTupF (fe : DE) : DL' := fun X ρ Q => fe X ρ fun d ρ1 => ∃ ns : List Int, d = .lst (ns.map .int) ∧ ∀ (a : Addr) (o : Obj), o.dict = none → Q (tplI a o ns) ρ1
def dVarT (i : Nat) : DE := fun X ρ Q => ∃ (a : Addr) (o : Obj) (ns : List Int), ρ.s[i]? = some (some (tplI a o ns)) ∧ ns.length ≤ 1000 ∧ Q (.tup (ns.map .int)) ρ
def dTIdx (i : Nat) (fe : DE) : DE := fun X ρ Q => ∃ (a : Addr) (o : Obj) (ns : List Int), ρ.s[i]? = some (some (tplI a o ns)) ∧ o.dict = none ∧ fe X ρ fun e ρ1 => ∃ k : Int, e = .int k ∧ k ∈ ns ∧ Q (.int (ns.idxOf k : Nat)) ρ1
section
variable {X : Cx} {W : WX} {e : Expr} {x : Str} {p pos : Pos} {fe : DE}
theorem dl_tupF (hm : X.mg "tuple" = none) (ha : PE X e (lE X.K W fe)) (hgl : Gl X "tuple" := by rfl)
    (he : starEach [e] X.env = (false, eval e X.env) :: starEach [] X.env := by rfl) : PE X (.Call (.Name "tuple" p) [e] [] pos) (lL X.K W (dTupF fe)) :=
  pe_imp (pe_callTy call_tupF hgl hm boot_tuple (pa_cons ha pa_nil he) (by decide) (by decide) he rfl) fun σ H Q ⟨ρ, G, la, P, XX, re, h, q, xo⟩ => ⟨ρ, G, la, _, XX, re, h, fun d ρ1 v G1 la1 H1 p1 a1 z1 => by
    obtain ⟨ns, rfl, p2⟩ := p1
    cases z1 with
    | lst hp hl hd =>
      have e1 := dps_ints hd
      subst e1
      refine ⟨_, _, rfl, SqL.of (a1.r.ext _ _ hp), fun l o od hn => ?_⟩
      have w := Grow.new (o := .frz o (.tup (ns.map V.int))) a1.r.ext hn
      exact q _ _ _ _ _ _ (p2 l o od) (a1.grow w) ⟨rfl, same_one upd_same, List.nil_prefix⟩, xo⟩
theorem de_varT (i : Nat) (hN : X.N[i]? = some x := by rfl) (hv : Vis X.env.scope x := by first | exact Or.inl rfl | exact Or.inr (Or.inl rfl) | exact Or.inr (Or.inr rfl)) (hd : (x == ("__debug__" : Str)) = false := by decide)
    (hcd : (x == ("__classdict__" : Str)) = false := by decide) : PE X (.Name x pos) (lE X.K W (dVarT i)) := pe_imp (pe_var (i := i) hN hv hd hcd) fun σ H Q h => by
  obtain ⟨ρ, G, la, P, XX, r, ⟨a, o, ns, hs, hl, f⟩, q, _⟩ := h
  obtain ⟨v, hv, ev, sm, _⟩ := r.at_ _ _ hs
  subst ev
  exact ⟨_, hv, q _ _ _ _ _ _ f (Aft.refl r) (.tup (.inl (.inr ⟨o, sm _ _ upd_same⟩)) (by rw [List.length_map, sizeLine_eq]; omega) (Dps.ints ns))⟩
/-- o.m(e), o a tuple without a dict -/
def tBMF (r : V → List V → Hp → VK → Prop) (to : TE) (t : TA) : TE := fun σ H Q => to σ H fun x H1 => (∃ p ob ys, x = .ref p ∧ H1 p = some (.frz ob (.tup ys)) ∧ ob.dict = none) ∧ t σ H1 fun xs H2 => r x xs H2 Q
theorem pe_bmF {o : Expr} {es : List Expr} {to : TE} {t : TA} {name : Str} {apos cpos : Pos} {id : String} {r : V → List V → Hp → VK → Prop} (pa : PlainAttrs "tuple") (slot : Slot "tuple" name id) (hty : typeOf (.builtin id) = pure (.type "method_descriptor")) (hm : MtR X id r) (ho : PE X o to) (ha : PA X (e :: es) t)
    (hbase : attributeBase o name X.env (eval o X.env) = eval o X.env := by rfl)
    (hfew : ((backTo cpos (starEach (e :: es) X.env)).all (fun x => !x.1) && (backToKw cpos (keywordEach [] X.env)).all (fun x => x.1.isSome)
      && decide ((e :: es).length + ([] : List Keyword).length + (if ([] : List Keyword).isEmpty then 0 else 1) < 30)) = true := by rfl)
    (hline : (apos.endLine == cpos.line) = true := by rfl) (hs : starEach (e :: es) X.env = (false, eval e X.env) :: starEach es X.env := by rfl) (hplain : (backTo cpos (starEach es X.env)).any (·.1) = false := by rfl) :
    PE X (.Call (.Attribute o name apos) (e :: es) [] cpos) (tBMF r to t) := by
  refine ⟨fun pins s σ H Q I h => ?_⟩
  refine wpAny_Call_method_late hbase hfew hline rfl (thn (ho.run pins s σ H _ I h) fun v s1 ⟨x, H1, I1, r1, ty, q1⟩ => ?_)
  obtain ⟨p, ob, ys, rfl, hp, od⟩ := ty
  obtain rfl : v = Value.ref p := r1
  obtain ⟨hg, _, its, _, ho', ho2, hc, _⟩ := I1.hok p _ hp
  have e2 := hg.symm.trans ho2
  cases e2
  refine ⟨"tuple", id, pa, slot, hty, ⟨ob, hg, hc⟩, fun a ea => by cases ea; exact ⟨ob, hg, od⟩, ?_⟩
  have hA := ha.run cpos pins s1 σ H1 _ I1 q1
  rw [hs] at hA ⊢
  refine Calls.callWith_builtin (by show (false || (backTo cpos (starEach es X.env)).any (·.1)) = false; rw [hplain] <;> rfl) (Calls.evalArgs_plain ?_)
  exact thn hA fun us s2 ⟨vs, H2, I2, r2, q2⟩ => hm pins s2 σ H2 (.ref p) vs _ us Q I2 rfl r2 q2
theorem de_tidx (i : Nat) {apos cpos : Pos} (he : PE X e (lE X.K W fe)) (hN : X.N[i]? = some x := by rfl) (hv : Vis X.env.scope x := by first | exact Or.inl rfl | exact Or.inr (Or.inl rfl) | exact Or.inr (Or.inr rfl)) (hd : (x == ("__debug__" : Str)) = false := by decide)
    (hcd : (x == ("__classdict__" : Str)) = false := by decide) (hbase : attributeBase (.Name x pos) "index" X.env (eval (.Name x pos) X.env) = eval (.Name x pos) X.env := by rfl)
    (hfew : ((backTo cpos (starEach [e] X.env)).all (fun x => !x.1) && (backToKw cpos (keywordEach [] X.env)).all (fun x => x.1.isSome)
      && decide (([e] : List Expr).length + ([] : List Keyword).length + (if ([] : List Keyword).isEmpty then 0 else 1) < 30)) = true := by rfl)
    (hline : (apos.endLine == cpos.line) = true := by rfl) (hs : starEach [e] X.env = (false, eval e X.env) :: starEach [] X.env := by rfl) (hplain : (backTo cpos (starEach [] X.env)).any (·.1) = false := by rfl) :
    PE X (.Call (.Attribute (.Name x pos) "index" apos) [e] [] cpos) (lE X.K W (dTIdx i fe)) :=
  pe_imp (pe_bmF F.plainAttrs_tuple F.slot_tuple_index F.type_tuple_index mt_tindexI (pe_var (i := i) hN hv hd hcd) (pa_cons he pa_nil hs) hbase hfew hline hs hplain) fun σ H Q ⟨ρ, G, la, P, XX, r, ⟨a, o, ns, hsl, od, f⟩, q, xo⟩ => by
    obtain ⟨v, hv2, ev, sm, _⟩ := r.at_ _ _ hsl
    subst ev
    have ha := sm _ _ upd_same
    refine ⟨_, hv2, ⟨a, o, _, rfl, r.tb.ext _ _ ha, od⟩, ρ, G, la, _, XX, r, f, fun e' ρ1 u G1 la1 H1 p1 a1 z1 => ?_, xo⟩
    obtain ⟨k, rfl, hk, p2⟩ := p1
    cases z1
    exact ⟨a, ns, k, rfl, rfl, .inl (.inr ⟨o, a1.r.tb.ext _ _ (a1.g _ _ ha)⟩), hk, q _ _ _ _ _ _ p2 a1 (.int _)⟩
end
/-! ### o.f, a constant of the class -/
def dConO (Cn f : Str) (i : Int) (o : DL') : DE := fun X ρ Q => o X ρ fun x ρ1 => match x with
  | .ob k => match ρ1.T[k]? with
    | some (.ins C fs) => C = Cn ∧ fs.lookup f = none ∧ Q (.int i) ρ1
    | _ => False
  | _ => False
section
variable {X : Cx} {W : WX} {Cn f : Str} {C : Addr} {o e : Expr} {fo : DL'} {fe : DE} {pos : Pos}
theorem de_conO {i : Int} {u : Value} (c : ClsI X.K Cn C) (k : Con X.K C f (.int i) u) (ho : PE X o (lL X.K W fo)) (hb : attributeBase o f X.env (eval o X.env) = eval o X.env := by rfl) : PE X (.Attribute o f pos) (lE X.K W (dConO Cn f i fo)) :=
  pe_imp (pe_con ho hb) fun σ H Q ⟨ρ, G, la, P, XX, re, h, q, xo⟩ => ⟨ρ, G, la, _, XX, re, h, fun x ρ1 v G1 la1 H1 p1 a1 z1 => by
    cases x with
    | dat d => exact (show False from p1).elim
    | clo _ _ _ => exact (show False from p1).elim
    | ob k' =>
      obtain ⟨a, hla, ev⟩ := z1
      have p2 : (match ρ1.T[k']? with
        | some (.ins C fs) => C = Cn ∧ fs.lookup f = none ∧ P (.int i) ρ1
        | _ => False) := p1
      split at p2
      · rename_i C' fs hk
        obtain ⟨rfl, hl, p3⟩ := p2
        obtain ⟨dx, ws, hH, _, _, e1, e2⟩ := a1.r.tb.ins_at hla hk c.nm
        exact ⟨a, _, dx, ws, _, u, ev, hH, c.cl, k, lookD_none e1 hl, q _ _ _ _ _ _ p3 a1 (.int _)⟩
      · exact p2.elim, xo⟩
/-- xs.append(e), an expression -/
def dAppE (i : Nat) (f : DE) : DL' := fun X ρ Q => match ρ.s[i]? with
  | some (some (.ob k)) => match ρ.T[k]? with
    | some (.lst _) => f X ρ fun d ρ1 => match ρ1.T[k]? with
      | some (.lst xs) => xs.length < sizeLine ∧ Q (.dat .non) ⟨ρ1.T.set k (.lst (xs ++ [d])), ρ1.s⟩
      | _ => False
    | _ => False
  | _ => False
theorem dl_appE (i : Nat) {x : Str} {p apos cpos : Pos} (he : PE X e (lE X.K W fe)) (hN : X.N[i]? = some x := by rfl) (hv : Vis X.env.scope x := by first | exact Or.inl rfl | exact Or.inr (Or.inl rfl) | exact Or.inr (Or.inr rfl)) (hd : (x == ("__debug__" : Str)) = false := by decide)
    (hcd : (x == ("__classdict__" : Str)) = false := by decide) (hbase : attributeBase (.Name x p) "append" X.env (eval (.Name x p) X.env) = eval (.Name x p) X.env := by rfl)
    (hfew : ((backTo cpos (starEach [e] X.env)).all (fun x => !x.1) && (backToKw cpos (keywordEach [] X.env)).all (fun x => x.1.isSome) && decide ([e].length + ([] : List Keyword).length + (if ([] : List Keyword).isEmpty then 0 else 1) < 30)) = true := by rfl)
    (hline : (apos.endLine == cpos.line) = true := by rfl) (hs : starEach [e] X.env = (false, eval e X.env) :: starEach [] X.env := by rfl) :
    PE X (.Call (.Attribute (.Name x p) "append" apos) [e] [] cpos) (lL X.K W (dAppE i fe)) :=
  pe_imp (pe_bm (r := rAppend) PySem.F.plainAttrs_list PySem.F.slot_list_append PySem.F.type_list_append mt_append (pe_var (i := i) hN hv hd hcd) (pa_cons he pa_nil hs) hbase hfew hline hs rfl) fun σ H Q ⟨ρ, G, la, P, XX, r, h, q, xo⟩ => by
    unfold dAppE at h
    split at h
    · rename_i k hk
      obtain ⟨v, hv, a, ha, ev⟩ := r.at_ _ _ hk
      subst ev
      refine ⟨_, hv, ?_⟩
      split at h
      · rename_i xs hxs
        obtain ⟨gn, vs, hH, lv, dv⟩ := r.tb.tab k a _ ha hxs
        refine ⟨.inl ⟨rfl, _, SqL.of hH⟩, ρ, G, la, _, _, r, h, fun d ρ1 v1 G1 la1 H1 p1 a1 z1 => ?_, xo⟩
        have p1' : (match (generalizing := false) ρ1.T[k]? with
          | some (.lst xs) => xs.length < sizeLine ∧ P (.dat .non) ⟨ρ1.T.set k (.lst (xs ++ [d])), ρ1.s⟩
          | _ => False) := p1
        split at p1'
        · rename_i ys hys
          have ha1 := pre_at a1.p ha
          obtain ⟨gn1, ws, hH1, lw, dw⟩ := a1.r.tb.tab k a _ ha1 hys
          refine ⟨a, ws, v1, rfl, rfl, hH1, by rw [dw.len]; exact p1'.1, q _ _ _ _ _ _ p1'.2 ⟨a1.g, a1.p, ⟨a1.r.tb.write ha1 hys (by rw [List.length_append, List.length_singleton, dw.len]; exact p1'.1) (dw.app (.cons z1 .nil)), a1.r.sl, a1.r.at_⟩⟩ (show Dp X.K _ .non .non from .non)⟩
        · exact p1'.elim
      · exact h.elim
    · exact h.elim
end
/-- called with the first and any data behind it -/
def starF1 (F : DF) : DF := fun ss T Q QX => match ss with
  | x :: r => match dats r with
    | some ds => ds.length ≤ 1000 ∧ F [x, .dat (.tup ds)] T Q QX
    | none => False
  | _ => False
section
variable {P : Program} {w : World} {K : PySem.W.Frag} {mg : Str → Option Value} {base : Heap}
theorem fn_star1 {x qual : Str} {st : Stmt} {f : Addr} {N : List Str} {p1 pv : Str} {k : Nat} {F : DF} {B : DS} {oc kV doc pm cdv ct : Value} {od an : Option Addr} {osl : Array (Option Value)}
    (lk : K.lookup f = some ⟨oc, od, .func (PySem.W.fnOf x qual (defArgs st) (defBody st) (defScope st) .none kV doc pm an cdv ct), osl⟩) (hcd : PySem.W.codeIn K cdv qual = true) (S : FnScope N [p1, pv] (defScope st))
    (h0 : ∀ a, bindArgs (PySem.W.fnOf x qual (defArgs st) (defBody st) (defScope st) .none kV doc pm an cdv ct) ⟨[a], []⟩ = (newTuple [] >>= fun t => pure [(p1, a), (pv, t)]))
    (h1 : ∀ a r rs, bindArgs (PySem.W.fnOf x qual (defArgs st) (defBody st) (defScope st) .none kV doc pm an cdv ct) ⟨a :: r :: rs, []⟩ = (newTuple (r :: rs) >>= fun t => pure [(p1, a), (pv, t)]))
    (hB : ∀ (A : Around) (outer : List PySem.Env) (s : Shared) (H : Hp) (E : XK), Room k (A.deeper (envOfC qual (defScope st) s.heap.objs.size f cdv)) →
      PSs (cxOf (L2.CX P w) P w K mg base N qual (defScope st) f cdv A outer s H E) (defBody st) (lS K (fun cls d _ H => E cls d H) B))
    (hF : ∀ (ss : List Sl) (T : List Ob) (Q : Sl → List Ob → Prop) (QX : Xn → List Ob → Prop), ss.length = 2 → F ss T Q QX → B (endsOf T.length Q QX) (startD N.length 2 ss T)) (n : Nat) :
    FnR P w K mg base (L2.CX P w) (k + 1) f (spD K n (starF1 F)) := by
  have z := StX.fn_star (CX := L2.CX P w) (ps := [p1]) (pv := pv) (sp := spD K 2 F) (k := k) lk hcd S StX.cxUp (StX.bind_star1 (B := fun l => bindArgs _ ⟨l, []⟩) h0 h1) (fun A outer s H vs Q E hr h => ⟨_, hB A outer s H E hr, by
    obtain ⟨hl, ss, G, la, T, Pd, PX, rl, sr, fp, q, qx⟩ := h
    exact ⟨startD N.length 2 ss T, G, la, endsOf T.length Pd PX, start_re rfl (hl.symm.trans sr.len) rl sr, hF ss T Pd PX (sr.len.symm.trans hl) fp, ends_bk rl.len q qx⟩⟩)
  refine z.imp fun vs H Q E h => ?_
  obtain ⟨hl, ss, G, la, T, Pd, PX, rl, sr, fp, q, qx⟩ := h
  cases sr with
  | nil => exact (show False from fp).elim
  | cons a sr =>
    rename_i v1 vr x1 xr
    have fp' : (match dats xr with
      | some ds => ds.length ≤ 1000 ∧ F [x1, .dat (.tup ds)] T Pd PX
      | none => False) := fp
    split at fp'
    · rename_i ds hd
      obtain ⟨hl2, fp2⟩ := fp'
      have lr : vr.length ≤ sizeLine := by
        rw [sr.len, dats_len hd]
        exact short hl2
      refine ⟨[v1], vr, rfl, rfl, lr, fun p hp => ?_⟩
      have w := Grow.new (o := .tup vr) rl.ext hp
      refine ⟨rfl, [x1, .dat (.tup ds)], _, la, T, Pd, PX, rl.grow w, .cons (a.grow w.g List.prefix_rfl) (.cons ?_ .nil), fp2, fun r T' v G' la' H' pr g pp rl' sr' => q r T' v G' la' H' pr (w.g.trans g) pp rl' sr', fun y T' G' la' H' cls od px g pp rl' xr' => qx y T' G' la' H' cls od px (w.g.trans g) pp rl' xr'⟩
      exact (show Dp K _ (.ref p) (.tup ds) from .tup (.inl (.inl upd_same)) lr ((dats_of sr hd).up w.g))
    · exact fp'.elim
end
end DL
set_option Elab.async false
set_option linter.all false
set_option maxRecDepth 100000
set_option maxHeartbeats 1000000
set_option autoImplicit false
/-! The data level: instances whose making takes so many things; methods with a star. -/
namespace DL
open PySem PySem.Spec PyProof.Rows L2
theorem passEz {X : Cx} : Passes (L2.CX X.prog X.w) X E0 := by
  intro pins σ H s e s' I c
  obtain ⟨a, B, H', cls, d, _, _, _, _, _, _, _, hE⟩ := c
  exact hE.elim
/-- called with so many -/
def fixF (n : Nat) (F : DF) : DF := fun ss T Q QX => ss.length = n ∧ F ss T Q QX
theorem IniF.of {X : Cx} {C f : Addr} {k n : Nat} {F : DF} {fd : FuncData} {ps : List Str} (mk : Mk X.K C f) (Fk : FnOk X.prog X.w X.K X.mg X.base (L2.CX X.prog X.w) k f fd ps (spD X.K n F)) (hb : Binds X.K fd ps []) : IniF X C f k (fixF n F) :=
  ⟨mk, (FnOk.raw Fk hb .nil).imp fun vs H Q E h => by
    rw [List.append_nil]
    obtain ⟨_, ss, G, la, T, Pd, PX, rl, sr, ⟨hl, fp⟩, q, qx⟩ := h
    exact ⟨sr.len.trans hl, ss, G, la, T, Pd, PX, rl, sr, fp, q, qx⟩⟩
end DL
set_option Elab.async false
set_option linter.all false
set_option maxRecDepth 100000
set_option maxHeartbeats 4000000
set_option autoImplicit false
/-! The program's defs at data level: what a drill and a beginning are. -/
namespace DL
open PySem PySem.Spec PyProof.Rows L2
local macro_rules | `(tactic| walk_at "dl") => `(tactic| (try simp only [sSeq, sSet, sRet, sRetN, sIf, sNil, sDrop, sFor, sTo, sPar2, sPar3, sNever, sRaise, sSetIx, dVar, dC, dVarL, dDat, dVal, valK_dat, valK_ob, dBin, dUn, dNil, dCons, dats, dTup, dLst, dNew, dNewOf, dTest, dtAnd, dtOr, dtNot, dAnd, dOr, dNot, dIf, dChain, dCB, dSl, dNo, dSo, sApp, dIxO, dLenO, dMaxD, dGetP, dCall, dSeq, dRng1, dRng2, dZip, dEnum, gNm, gTp, gCs, gNl, dYes,
  startD, endsOf, retD, wipeS, gAdd, gSub, gMul, gMulA, gMulB, gDiv, gMod, gPow, gNeg, gLt, gLe, gGt, gGe, gEq, gNe, gIn, gIx, gSl, gIsi, tyD, isiD, gLen, gAbs, gInt, gMax2, gMin2, gTuple, gList, gIsN, isNon, gIsB, gNotB,
  List.getElem?_cons_zero, List.getElem?_cons_succ, List.getElem?_nil, List.set_cons_zero, List.set_cons_succ, List.map_cons, List.map_nil, List.cons_append, List.nil_append, List.length_cons, List.length_nil, List.replicate_succ, List.replicate_zero, Option.map_some, Nat.reduceSub, Nat.reduceAdd, Nat.reduceLeDiff,
  List.take_length, beq_self_eq_true, String.reduceBEq, Bool.or_true, Bool.true_or, Bool.or_false, Bool.false_or, Bool.and_true, Bool.and_false, Bool.true_and, Bool.false_and, Bool.or_self, Bool.and_self, decide_true, decide_false, dmem, List.any_cons, List.any_nil, okd_non, okd_bl, okd_int, okd_str, okds_nil, okds_cons, okd_60t, okd_59t, okd_58t, okd_60l, okd_59l, okd_58l, st_tk, st_tb, st_tf, st_kt, st_kb, st_kf, st_bt, st_bk, st_bf, st_ft, st_fk, st_fb, nat_num, Int.reduceBEq, Int.reduceBNe, Int.reduceEq, Int.reduceLT, Int.reduceLE, Int.reduceAdd, Int.reduceSub, Int.reduceMul, Int.reduceNeg, Int.reduceToNat, Int.reducePow, atI_0, atI_1, atI_2, set_last, get_last, take_last, deq_str, deq_int, deq_non, deq_bl, deq_tt, deq_ll, deqs_nn, deqs_cc, deqs_nc, deqs_cn, Nat.lt_irrefl, List.set_set, ixN_20, ixN_21, tupI, okds_ints, atI_map', List.length_map, cutL_map, eq_self, if_true, if_false, ite_true, ite_false, Bool.false_eq_true, decide_eq_true_eq, true_and, and_true, and_self, Bool.not_true, Bool.not_false, true_or, or_true, false_or, or_false, Option.some.injEq, reduceCtorEq]))
def isInt (d : D) (lo hi : Int) : Bool := match d with
  | .int i => decide (lo ≤ i) && decide (i ≤ hi)
  | _ => false
/-- slots: 0 value, 1 low, 2 high -/
def B_is_int : DS :=
  (sRet (dDat (dAnd (dCB gIsi (dCons (dDat (dVar 0)) (dCons (dDat (dC (.raw (.ty "int")))) dNil))) (dAnd (dNot (dCB gIsi (dCons (dDat (dVar 0)) (dCons (dDat (dC (.raw (.ty "bool")))) dNil)))) (dChain gLe gLe (dVar 1) (dVar 0) (dVar 2))))))
def S_is_int : DF := fun ss T Q _ => match ss with
  | [.dat d, .dat (.int lo), .dat (.int hi)] => okd 60 d = true ∧ Q (.dat (.bl (isInt d lo hi))) T
  | _ => False
theorem h_is_int : ∀ (ss : List Sl) (T : List Ob) (Q : Sl → List Ob → Prop) (QX : Xn → List Ob → Prop), ss.length = 3 → S_is_int ss T Q QX → B_is_int (endsOf T.length Q QX) (startD 3 3 ss T) := by
  intro ss T Q QX hl h
  unfold S_is_int at h
  split at h
  · rename_i d lo hi
    obtain ⟨ok, h⟩ := h
    unfold B_is_int
    cases d with
    | raw v => simp [okd] at ok
    | int i =>
      walk_at "dl"
      unfold isInt at h
      split
      · rename_i q
        simpa [q] using h
      · rename_i q
        simpa [q] using h
    | scr ns => simp [okd] at ok
    | fn _ => simp [okd] at ok
    | err _ _ => simp [okd] at ok
    | _ =>
      walk_at "dl"
      exact h
  · exact h.elim
/-- a run -/
def isRun (d : D) : Bool := match d with
  | .tup [.str w, a] => (w == "to" && isInt a 0 1000000000000) || (w == "bark" && isInt a 1 1000000000000)
  | .tup [.str w, a, b] => (w == "back" || w == "front") && isInt a 0 3 && isInt b 1 1000000000000
  | _ => false
/-- slots: 0 value -/
def B_is_a_run : DS :=
  (sSeq (sIf (dtOr (dtNot (dTest (dCB gIsi (dCons (dDat (dVar 0)) (dCons (dDat (dC (.raw (.ty "tuple")))) dNil))))) (dtOr (dTest (dBin gEq (dVar 0) (dTup dNil))) (dtNot (dTest (dCB gIsi (dCons (dDat (dBin gIx (dVar 0) (dC (.int 0)))) (dCons (dDat (dC (.raw (.ty "str")))) dNil))))))) (sRet (dDat (dC (.bl false)))) sNil)
  (sSeq (sIf (dTest (dBin gEq (dBin gIx (dVar 0) (dC (.int 0))) (dC (.str "to")))) (sRet (dDat (dAnd (dBin gEq (dCB gLen (dCons (dDat (dVar 0)) dNil)) (dC (.int 2))) (dVal (dCall 3 S_is_int (dCons (dDat (dBin gIx (dVar 0) (dC (.int 1)))) (dCons (dDat (dC (.int 0))) (dCons (dDat (dC (.int 1000000000000))) dNil)))))))) sNil)
  (sSeq (sIf (dTest (dBin gEq (dBin gIx (dVar 0) (dC (.int 0))) (dC (.str "bark")))) (sRet (dDat (dAnd (dBin gEq (dCB gLen (dCons (dDat (dVar 0)) dNil)) (dC (.int 2))) (dVal (dCall 3 S_is_int (dCons (dDat (dBin gIx (dVar 0) (dC (.int 1)))) (dCons (dDat (dC (.int 1))) (dCons (dDat (dC (.int 1000000000000))) dNil)))))))) sNil)
  (sSeq (sIf (dtOr (dTest (dBin (gIn true) (dBin gIx (dVar 0) (dC (.int 0))) (dTup (dCons (dDat (dC (.str "back"))) (dCons (dDat (dC (.str "front"))) dNil))))) (dTest (dBin gNe (dCB gLen (dCons (dDat (dVar 0)) dNil)) (dC (.int 3))))) (sRet (dDat (dC (.bl false)))) sNil)
  (sRet (dDat (dAnd (dVal (dCall 3 S_is_int (dCons (dDat (dBin gIx (dVar 0) (dC (.int 1)))) (dCons (dDat (dC (.int 0))) (dCons (dDat (dC (.int 3))) dNil))))) (dVal (dCall 3 S_is_int (dCons (dDat (dBin gIx (dVar 0) (dC (.int 2)))) (dCons (dDat (dC (.int 1))) (dCons (dDat (dC (.int 1000000000000))) dNil))))))))))))
def S_is_a_run : DF := fun ss T Q _ => match ss with
  | [.dat d] => okd 60 d = true ∧ Q (.dat (.bl (isRun d))) T
  | _ => False
theorem h_is_a_run : ∀ (ss : List Sl) (T : List Ob) (Q : Sl → List Ob → Prop) (QX : Xn → List Ob → Prop), ss.length = 1 → S_is_a_run ss T Q QX → B_is_a_run (endsOf T.length Q QX) (startD 1 1 ss T) := by
  intro ss T Q QX hl h
  unfold S_is_a_run at h
  split at h
  · rename_i d
    obtain ⟨ok, h⟩ := h
    unfold B_is_a_run
    cases d with
    | raw v => simp [okd] at ok
    | tup xs =>
      cases xs with
      | nil =>
        walk_at "dl"
        exact h
      | cons x r =>
        have okx := okd_item ok (d := x) (by simp)
        cases x with
        | raw v => simp [okd] at okx
        | str w =>
          have ok' := ok
          simp only [okd_60t, okds_cons, okd_str, Bool.true_and] at ok'
          by_cases w1 : w = "to"
          · subst w1
            cases r with
            | nil =>
              walk_at "dl"
              exact h
            | cons a r =>
              have oka := okd_item ok (d := a) (by simp)
              cases r with
              | nil =>
                simp only [okds_cons, okds_nil, Bool.and_true] at ok'
                walk_at "dl"
                simp only [S_is_int]
                walk_at "dl"
                simpa [isRun, oka, ok', st_tk] using h
              | cons b r =>
                simp only [okds_cons] at ok'
                walk_at "dl"
                have e : (((r.length + 1 + 1 + 1 : Nat) : Int) == 2) = false := by simp; omega
                simp only [ok', e]
                walk_at "dl"
                cases r <;> simpa [isRun, st_tb, st_tf] using h
          by_cases w2 : w = "bark"
          · subst w2
            cases r with
            | nil =>
              walk_at "dl"
              exact h
            | cons a r =>
              have oka := okd_item ok (d := a) (by simp)
              cases r with
              | nil =>
                simp only [okds_cons, okds_nil, Bool.and_true] at ok'
                walk_at "dl"
                simp only [S_is_int]
                walk_at "dl"
                simpa [isRun, oka, ok', st_kt] using h
              | cons b r =>
                simp only [okds_cons] at ok'
                walk_at "dl"
                have e : (((r.length + 1 + 1 + 1 : Nat) : Int) == 2) = false := by simp; omega
                simp only [ok', e]
                walk_at "dl"
                cases r <;> simpa [isRun, st_kb, st_kf] using h
          have v1 : (w == ("to" : Str)) = false := by simpa using w1
          have v2 : (w == ("bark" : Str)) = false := by simpa using w2
          by_cases w3 : w = "back" ∨ w = "front"
          · have v3 : ((("back" : Str) == w) || (("front" : Str) == w)) = true := by
              rcases w3 with rfl | rfl <;> simp
            have v3' : ((w == ("back" : Str)) || (w == ("front" : Str))) = true := by
              rcases w3 with rfl | rfl <;> simp
            cases r with
            | nil =>
              walk_at "dl"
              simp only [v1, v2, v3]
              walk_at "dl"
              exact h
            | cons a r =>
              have oka := okd_item ok (d := a) (by simp)
              cases r with
              | nil =>
                simp only [okds_cons, okds_nil, Bool.and_true] at ok'
                walk_at "dl"
                simp only [v1, v2, v3, ok']
                walk_at "dl"
                simpa [isRun, v1, v2] using h
              | cons b r =>
                have okb := okd_item ok (d := b) (by simp)
                cases r with
                | nil =>
                  simp only [okds_cons, okds_nil, Bool.and_true] at ok'
                  walk_at "dl"
                  simp only [v1, v2, v3, ok', S_is_int]
                  walk_at "dl"
                  refine ⟨oka, ?_⟩
                  simp only [isRun, v3', Bool.true_and] at h
                  cases q : isInt a 0 3 with
                  | true =>
                    rw [q] at h
                    simp only [Bool.true_and] at h
                    walk_at "dl"
                    refine ⟨okb, ?_⟩
                    walk_at "dl"
                    exact h
                  | false =>
                    rw [q] at h
                    walk_at "dl"
                    exact h
                | cons c r =>
                  simp only [okds_cons] at ok'
                  walk_at "dl"
                  have e : (((r.length + 1 + 1 + 1 + 1 : Nat) : Int) == 3) = false := by simp; omega
                  simp only [v1, v2, v3, ok', e]
                  walk_at "dl"
                  simpa [isRun] using h
          · have v3 : ((("back" : Str) == w) || (("front" : Str) == w)) = false := by
              simp only [not_or] at w3
              simp [Ne.symm w3.1, Ne.symm w3.2]
            have v4 : (w == ("back" : Str)) = false := by simp only [not_or] at w3; simpa using w3.1
            have v5 : (w == ("front" : Str)) = false := by simp only [not_or] at w3; simpa using w3.2
            cases r with
            | nil =>
              walk_at "dl"
              simp only [v1, v2, v3]
              walk_at "dl"
              exact h
            | cons a r =>
              simp only [okds_cons] at ok'
              walk_at "dl"
              simp only [v1, v2, v3, ok']
              walk_at "dl"
              rcases r with _ | ⟨b, _ | ⟨c, r⟩⟩ <;> simpa [isRun, v1, v2, v4, v5] using h
        | scr ns => simp [okd] at okx
        | fn _ => simp [okd] at okx
        | err _ _ => simp [okd] at okx
        | _ =>
          have ok' := ok
          simp only [okd_60t, okds_cons] at ok'
          try simp only [okd_non, okd_bl, okd_int, Bool.true_and] at ok'
          try simp only [okd_59t, okd_59l] at ok'
          walk_at "dl"
          exact ⟨ok', h⟩
    | scr ns => simp [okd] at ok
    | fn _ => simp [okd] at ok
    | err _ _ => simp [okd] at ok
    | _ =>
      walk_at "dl"
      exact h
  · exact h.elim
end DL
set_option Elab.async false
set_option linter.all false
set_option maxRecDepth 100000
set_option maxHeartbeats 4000000
set_option autoImplicit false
/-! The program's defs at data level: drills, beginnings. -/
namespace DL
open PySem PySem.Spec PyProof.Rows L2
local macro_rules | `(tactic| walk_at "dl") => `(tactic| (try simp only [sSeq, sSet, sRet, sRetN, sIf, sNil, sDrop, sFor, sTo, sPar2, sPar3, sNever, sRaise, sSetIx, dVar, dC, dVarL, dDat, dVal, valK_dat, valK_ob, dBin, dUn, dNil, dCons, dats, dTup, dLst, dNew, dNewOf, dTest, dtAnd, dtOr, dtNot, dAnd, dOr, dNot, dIf, dChain, dCB, dSl, dNo, dSo, sApp, dIxO, dLenO, dMaxD, dGetP, dCall, dSeq, dRng1, dRng2, dZip, dEnum, gNm, gTp, gCs, gNl, dYes,
  startD, endsOf, retD, wipeS, gAdd, gSub, gMul, gMulA, gMulB, gDiv, gMod, gPow, gNeg, gLt, gLe, gGt, gGe, gEq, gNe, gIn, gIx, gSl, gIsi, tyD, isiD, gLen, gAbs, gInt, gMax2, gMin2, gTuple, gList, gIsN, isNon, gIsB, gNotB,
  List.getElem?_cons_zero, List.getElem?_cons_succ, List.getElem?_nil, List.set_cons_zero, List.set_cons_succ, List.map_cons, List.map_nil, List.cons_append, List.nil_append, List.length_cons, List.length_nil, List.replicate_succ, List.replicate_zero, Option.map_some, Nat.reduceSub, Nat.reduceAdd, Nat.reduceLeDiff,
  List.take_length, beq_self_eq_true, String.reduceBEq, Bool.or_true, Bool.true_or, Bool.or_false, Bool.false_or, Bool.and_true, Bool.and_false, Bool.true_and, Bool.false_and, Bool.or_self, Bool.and_self, decide_true, decide_false, dmem, List.any_cons, List.any_nil, okd_non, okd_bl, okd_int, okd_str, okds_nil, okds_cons, okd_60t, okd_59t, okd_58t, okd_60l, okd_59l, okd_58l, st_tk, st_tb, st_tf, st_kt, st_kb, st_kf, st_bt, st_bk, st_bf, st_ft, st_fk, st_fb, nat_num, Int.reduceBEq, Int.reduceBNe, Int.reduceEq, Int.reduceLT, Int.reduceLE, Int.reduceAdd, Int.reduceSub, Int.reduceMul, Int.reduceNeg, Int.reduceToNat, Int.reducePow, atI_0, atI_1, atI_2, set_last, get_last, take_last, deq_str, deq_int, deq_non, deq_bl, deq_tt, deq_ll, deqs_nn, deqs_cc, deqs_nc, deqs_cn, Nat.lt_irrefl, List.set_set, ixN_20, ixN_21, tupI, okds_ints, atI_map', List.length_map, cutL_map, eq_self, if_true, if_false, ite_true, ite_false, Bool.false_eq_true, decide_eq_true_eq, true_and, and_true, and_self, Bool.not_true, Bool.not_false, true_or, or_true, false_or, or_false, Option.some.injEq, reduceCtorEq]))
/-- a drill -/
def fitsB (d : D) : Bool := match d with
  | .tup [g, .tup rs] => isInt g 1 9 && (decide (rs.length ≤ 8) && rs.all isRun)
  | _ => false
/-- slots: 0 value, 1 run -/
def B_fits : DS :=
  (sSeq (sIf (dtOr (dtNot (dTest (dCB gIsi (dCons (dDat (dVar 0)) (dCons (dDat (dC (.raw (.ty "tuple")))) dNil))))) (dtOr (dTest (dBin gNe (dCB gLen (dCons (dDat (dVar 0)) dNil)) (dC (.int 2)))) (dtNot (dTest (dVal (dCall 3 S_is_int (dCons (dDat (dBin gIx (dVar 0) (dC (.int 0)))) (dCons (dDat (dC (.int 1))) (dCons (dDat (dC (.int 9))) dNil))))))))) (sRet (dDat (dC (.bl false)))) sNil)
  (sSeq (sIf (dtOr (dtNot (dTest (dCB gIsi (dCons (dDat (dBin gIx (dVar 0) (dC (.int 1)))) (dCons (dDat (dC (.raw (.ty "tuple")))) dNil))))) (dTest (dBin gGt (dCB gLen (dCons (dDat (dBin gIx (dVar 0) (dC (.int 1)))) dNil)) (dC (.int 8))))) (sRet (dDat (dC (.bl false)))) sNil)
  (sRet (dDat (dBin gEq (dComp (dSeq (dBin gIx (dVar 0) (dC (.int 1)))) (gNm 1) (dtNot (dTest (dVal (dCall 1 S_is_a_run (dCons (dDat (dVar 1)) dNil))))) (dVar 1) [1]) (dLst dNil))))))
def S_fits : DF := fun ss T Q _ => match ss with
  | [.dat d] => okd 60 d = true ∧ Q (.dat (.bl (fitsB d))) T
  | _ => False
theorem filt_none {α : Type} (p : α → Bool) (l : List α) : l.filterMap (fun d => if !p d then some d else none) = [] ↔ l.all p = true := by
  induction l with
  | nil => simp
  | cons x r ih =>
    rw [List.filterMap_cons]
    cases q : p x <;> simp [q, ih]
theorem deqs_nil_iff (l : List D) : deqs l [] = l.isEmpty := by
  cases l with
  | nil => simp [deqs_nn]
  | cons x r => simp [deqs_cn]
theorem h_fits : ∀ (ss : List Sl) (T : List Ob) (Q : Sl → List Ob → Prop) (QX : Xn → List Ob → Prop), ss.length = 1 → S_fits ss T Q QX → B_fits (endsOf T.length Q QX) (startD 2 1 ss T) := by
  intro ss T Q QX hl h
  unfold S_fits at h
  split at h
  · rename_i d
    obtain ⟨ok, h⟩ := h
    unfold B_fits
    cases d with
    | raw v => simp [okd] at ok
    | fn _ => simp [okd] at ok
    | err _ _ => simp [okd] at ok
    | scr ns => simp [okd] at ok
    | tup xs =>
      rcases xs with _ | ⟨g, _ | ⟨x, _ | ⟨y, r⟩⟩⟩
      · walk_at "dl"
        exact h
      · walk_at "dl"
        exact h
      · have okg := okd_item ok (d := g) (by simp)
        have okx := okd_item ok (d := x) (by simp)
        walk_at "dl"
        simp only [S_is_int]
        walk_at "dl"
        refine ⟨okg, ?_⟩
        cases qg : isInt g 1 9 with
        | false =>
          walk_at "dl"
          cases x <;> simpa [fitsB, qg] using h
        | true =>
          walk_at "dl"
          cases x with
          | raw v => simp [okd] at okx
          | fn _ => simp [okd] at okx
          | err _ _ => simp [okd] at okx
          | scr ns => simp [okd] at okx
          | tup rs =>
            walk_at "dl"
            by_cases q8 : (8 : Int) < rs.length
            · rw [if_pos q8]
              have e : ¬ (rs.length ≤ 8) := by omega
              simpa [fitsB, e] using h
            · rw [if_neg q8]
              have e : rs.length ≤ 8 := by omega
              refine dComp_pure (fun d => if !isRun d then some d else none) rs T [some (.dat (.tup [g, .tup rs])), none] [some (.dat (.tup [g, .tup rs])), none] ?_ rfl rfl rfl (by rw [sizeLine_eq]; omega) ?_ ?_
              · intro P hP
                walk_at "dl"
                exact hP
              · intro d hd acc R hR
                have okd' := okd_item (n := 59) (ds := rs) okx hd
                walk_at "dl"
                simp only [S_is_a_run]
                walk_at "dl"
                refine ⟨okd', ?_⟩
                cases q : isRun d with
                | true =>
                  walk_at "dl"
                  have := hR [some (.dat (.tup [g, .tup rs])), some (.dat d)] rfl
                  simpa [q] using this
                | false =>
                  walk_at "dl"
                  have := hR [some (.dat (.tup [g, .tup rs])), some (.dat d)] rfl
                  simpa [q] using this
              · walk_at "dl"
                rw [deqs_nil_iff]
                have e2 : (List.filterMap (fun d => if !isRun d then some d else none) rs).isEmpty = rs.all isRun := by
                  rw [Bool.eq_iff_iff, List.isEmpty_iff]
                  exact filt_none isRun rs
                rw [e2]
                refine ⟨?_, ?_⟩
                · rw [okds_iff]
                  intro d hd
                  obtain ⟨x, hx, ex⟩ := List.mem_filterMap.mp hd
                  have okx' : okds 59 rs = true := okx
                  have := (okds_iff 59 rs).mp okx' x hx
                  split at ex
                  · cases ex
                    exact this
                  · cases ex
                · simpa [fitsB, qg, e] using h
          | _ =>
            walk_at "dl"
            exact h
      · walk_at "dl"
        have e : (((r.length + 1 + 1 + 1 : Nat) : Int) == 2) = false := by simp; omega
        simp only [e]
        walk_at "dl"
        cases x <;> exact h
    | _ =>
      walk_at "dl"
      exact h
  · exact h.elim
end DL
set_option Elab.async false
set_option linter.all false
set_option maxRecDepth 100000
set_option maxHeartbeats 4000000
set_option autoImplicit false
/-! The program's defs at data level: beginnings. -/
namespace DL
open PySem PySem.Spec PyProof.Rows L2
local macro_rules | `(tactic| walk_at "dl") => `(tactic| (try simp only [sSeq, sSet, sRet, sRetN, sIf, sNil, sDrop, sFor, sTo, sPar2, sPar3, sNever, sRaise, sSetIx, dVar, dC, dVarL, dDat, dVal, valK_dat, valK_ob, dBin, dUn, dNil, dCons, dats, dTup, dLst, dNew, dNewOf, dTest, dtAnd, dtOr, dtNot, dAnd, dOr, dNot, dIf, dChain, dCB, dSl, dNo, dSo, sApp, dIxO, dLenO, dMaxD, dGetP, dCall, dSeq, dRng1, dRng2, dZip, dEnum, gNm, gTp, gCs, gNl, dYes,
  startD, endsOf, retD, wipeS, gAdd, gSub, gMul, gMulA, gMulB, gDiv, gMod, gPow, gNeg, gLt, gLe, gGt, gGe, gEq, gNe, gIn, gIx, gSl, gIsi, tyD, isiD, gLen, gAbs, gInt, gMax2, gMin2, gTuple, gList, gIsN, isNon, gIsB, gNotB,
  List.getElem?_cons_zero, List.getElem?_cons_succ, List.getElem?_nil, List.set_cons_zero, List.set_cons_succ, List.map_cons, List.map_nil, List.cons_append, List.nil_append, List.length_cons, List.length_nil, List.replicate_succ, List.replicate_zero, Option.map_some, Nat.reduceSub, Nat.reduceAdd, Nat.reduceLeDiff,
  List.take_length, beq_self_eq_true, String.reduceBEq, Bool.or_true, Bool.true_or, Bool.or_false, Bool.false_or, Bool.and_true, Bool.and_false, Bool.true_and, Bool.false_and, Bool.or_self, Bool.and_self, decide_true, decide_false, dmem, List.any_cons, List.any_nil, okd_non, okd_bl, okd_int, okd_str, okds_nil, okds_cons, okd_60t, okd_59t, okd_58t, okd_60l, okd_59l, okd_58l, st_tk, st_tb, st_tf, st_kt, st_kb, st_kf, st_bt, st_bk, st_bf, st_ft, st_fk, st_fb, nat_num, Int.reduceBEq, Int.reduceBNe, Int.reduceEq, Int.reduceLT, Int.reduceLE, Int.reduceAdd, Int.reduceSub, Int.reduceMul, Int.reduceNeg, Int.reduceToNat, Int.reducePow, atI_0, atI_1, atI_2, set_last, get_last, take_last, deq_str, deq_int, deq_non, deq_bl, deq_tt, deq_ll, deqs_nn, deqs_cc, deqs_nc, deqs_cn, Nat.lt_irrefl, List.set_set, ixN_20, ixN_21, tupI, okds_ints, atI_map', List.length_map, cutL_map, eq_self, if_true, if_false, ite_true, ite_false, Bool.false_eq_true, decide_eq_true_eq, true_and, and_true, and_self, Bool.not_true, Bool.not_false, true_or, or_true, false_or, or_false, Option.some.injEq, reduceCtorEq]))
def spaced (g : Int) : List Int → Bool
  | x :: y :: r => decide (x + g ≤ y) && spaced g (y :: r)
  | _ => true
def inGreat (x : Int) : Bool := decide (0 ≤ x) && decide (x ≤ 1000000000000000000000000000000)
/-- a beginning -/
def beginsB (g : Int) (d : D) : Bool := match d with
  | .tup ds => (decide (1 ≤ ds.length) && decide (ds.length ≤ 40)) && match intsOf ds with
    | some xs => xs.all inGreat && spaced g xs
    | none => false
  | _ => false
theorem great_ints : ∀ ds : List D, ds.all (fun d => isInt d 0 1000000000000000000000000000000) = true → ∃ xs : List Int, ds = xs.map .int ∧ xs.all inGreat = true
  | [], _ => ⟨[], rfl, rfl⟩
  | d :: ds, h => by
    simp only [List.all_cons, Bool.and_eq_true] at h
    obtain ⟨xs, e, a⟩ := great_ints ds h.2
    cases d with
    | int i => exact ⟨i :: xs, by rw [e]; rfl, by rw [List.all_cons, a]; have h1 := h.1; unfold isInt at h1; simpa [inGreat] using h1⟩
    | _ => simp [isInt] at h
theorem great_not : ∀ {ds : List D} {xs : List Int}, ds.all (fun d => isInt d 0 1000000000000000000000000000000) = false → intsOf ds = some xs → xs.all inGreat = false
  | [], _, h, _ => by simp at h
  | d :: ds, xs, h, e => by
    cases d with
    | int i =>
      have e' : (intsOf ds).map (i :: ·) = some xs := e
      obtain ⟨ys, e1, rfl⟩ := Option.map_eq_some_iff.mp e'
      simp only [List.all_cons, Bool.and_eq_false_iff] at h ⊢
      rcases h with h | h
      · left
        simpa [isInt, inGreat] using h
      · exact .inr (great_not h e1)
    | _ => cases e
def pairLt (g : Int) (d : D) : Option D := match d with
  | .tup [.int a, .int b] => if b - a < g then some (.int 1) else none
  | _ => none
theorem spaced_zip (g : Int) : ∀ xs : List Int, ((zipD (xs.map .int) ((xs.drop 1).map .int)).filterMap (pairLt g)).isEmpty = spaced g xs
  | [] => rfl
  | [x] => rfl
  | x :: y :: r => by
    have ih := spaced_zip g (y :: r)
    show ((.tup [.int x, .int y] :: zipD ((y :: r).map .int) (((y :: r).drop 1).map .int)).filterMap (pairLt g)).isEmpty = (decide (x + g ≤ y) && spaced g (y :: r))
    rw [List.filterMap_cons, ← ih]
    simp only [pairLt]
    by_cases q : y - x < g
    · rw [if_pos q, show decide (x + g ≤ y) = false by simp; omega]
      rfl
    · rw [if_neg q, show decide (x + g ≤ y) = true by simp; omega]
      rfl
theorem zip_mem : ∀ (xs ys : List Int) (d : D), d ∈ zipD (xs.map .int) (ys.map .int) → ∃ a b, d = .tup [.int a, .int b]
  | [], _, d, h => by simp [zipD] at h
  | _ :: _, [], d, h => by simp [zipD] at h
  | x :: xs, y :: ys, d, h => by
    rcases List.mem_cons.mp h with rfl | h
    · exact ⟨x, y, rfl⟩
    · exact zip_mem xs ys d h
/-- slots: 0 gap, 1 value, 2 place, 3 one, 4 other -/
def B_begins : DS :=
  (sSeq (sIf (dtOr (dtNot (dTest (dCB gIsi (dCons (dDat (dVar 1)) (dCons (dDat (dC (.raw (.ty "tuple")))) dNil))))) (dtNot (dTest (dChain gLe gLe (dC (.int 1)) (dCB gLen (dCons (dDat (dVar 1)) dNil)) (dC (.int 40)))))) (sRet (dDat (dC (.bl false)))) sNil)
  (sSeq (sIf (dTest (dBin gNe (dComp (dSeq (dVar 1)) (gNm 2) (dtNot (dTest (dVal (dCall 3 S_is_int (dCons (dDat (dVar 2)) (dCons (dDat (dC (.int 0))) (dCons (dDat (dC (.int 1000000000000000000000000000000))) dNil))))))) (dVar 2) [2]) (dLst dNil))) (sRet (dDat (dC (.bl false)))) sNil)
  (sRet (dDat (dBin gEq (dComp (dZip (dCons (dDat (dVar 1)) (dCons (dDat (dSl (dVar 1) (dSo (dC (.int 1))) dNo)) dNil))) (gTp 2 (gCs (gNm 3) (gCs (gNm 4) gNl))) (dTest (dBin gLt (dBin gSub (dVar 4) (dVar 3)) (dVar 0))) (dC (.int 1)) [3, 4]) (dLst dNil))))))
def S_begins : DF := fun ss T Q _ => match ss with
  | [.dat (.int g), .dat d] => okd 60 d = true ∧ Q (.dat (.bl (beginsB g d))) T
  | _ => False
theorem h_begins : ∀ (ss : List Sl) (T : List Ob) (Q : Sl → List Ob → Prop) (QX : Xn → List Ob → Prop), ss.length = 2 → S_begins ss T Q QX → B_begins (endsOf T.length Q QX) (startD 5 2 ss T) := by
  intro ss T Q QX hl h
  unfold S_begins at h
  split at h
  · rename_i g d
    obtain ⟨ok, h⟩ := h
    unfold B_begins
    cases d with
    | raw v => simp [okd] at ok
    | fn _ => simp [okd] at ok
    | err _ _ => simp [okd] at ok
    | scr ns => simp [okd] at ok
    | tup ds =>
      walk_at "dl"
      by_cases q1 : (1 : Int) ≤ ds.length
      rotate_left
      · rw [if_neg q1]
        have e : ds.length = 0 := by omega
        simpa [beginsB, e] using h
      rw [if_pos q1]
      by_cases q2 : (ds.length : Int) ≤ 40
      rotate_left
      · rw [if_pos (by simpa using q2)]
        have e : ¬ (ds.length ≤ 40) := by omega
        simpa [beginsB, e] using h
      rw [if_neg (by simpa using q2)]
      have e1 : decide (1 ≤ ds.length) = true := by simp; omega
      have e2 : decide (ds.length ≤ 40) = true := by simp; omega
      refine dComp_pure (fun d => if !isInt d 0 1000000000000000000000000000000 then some d else none) ds T [some (.dat (.int g)), some (.dat (.tup ds)), none, none, none] [some (.dat (.int g)), some (.dat (.tup ds)), none, none, none] ?_ rfl rfl rfl (by rw [sizeLine_eq]; omega) ?_ ?_
      · intro P hP
        walk_at "dl"
        exact hP
      · intro d hd acc R hR
        have okd' := okd_item (n := 59) (ds := ds) ok hd
        walk_at "dl"
        simp only [S_is_int]
        walk_at "dl"
        refine ⟨okd', ?_⟩
        have := hR [some (.dat (.int g)), some (.dat (.tup ds)), some (.dat d), none, none] rfl
        cases q : isInt d 0 1000000000000000000000000000000 with
        | true =>
          walk_at "dl"
          simpa [q] using this
        | false =>
          walk_at "dl"
          simpa [q] using this
      · walk_at "dl"
        rw [deqs_nil_iff]
        have e3 : (List.filterMap (fun d => if !isInt d 0 1000000000000000000000000000000 then some d else none) ds).isEmpty = ds.all (fun d => isInt d 0 1000000000000000000000000000000) := by
          rw [Bool.eq_iff_iff, List.isEmpty_iff]
          exact filt_none (fun d => isInt d 0 1000000000000000000000000000000) ds
        rw [e3]
        refine ⟨?_, ?_⟩
        · rw [okds_iff]
          intro d hd
          obtain ⟨x, hx, ex⟩ := List.mem_filterMap.mp hd
          have okx' : okds 59 ds = true := ok
          have := (okds_iff 59 ds).mp okx' x hx
          split at ex
          · cases ex
            exact this
          · cases ex
        · cases q : ds.all (fun d => isInt d 0 1000000000000000000000000000000) with
          | false =>
            walk_at "dl"
            cases qi : intsOf ds with
            | none => simpa [beginsB, qi] using h
            | some xs => simpa [beginsB, qi, great_not q qi] using h
          | true =>
            walk_at "dl"
            obtain ⟨xs, rfl, ha⟩ := great_ints ds q
            have hlen : xs.length ≤ 40 := by simpa using e2
            refine dComp_pure (pairLt g) (zipD (xs.map .int) ((xs.drop 1).map .int)) T [some (.dat (.int g)), some (.dat (.tup (xs.map .int))), none, none, none] [some (.dat (.int g)), some (.dat (.tup (xs.map .int))), none, none, none] ?_ rfl rfl rfl ?_ ?_ ?_
            · intro P hP
              walk_at "dl"
              rw [cut_from _ (by omega)]
              exact hP
            · rw [zipD_len, List.length_map, sizeLine_eq]
              omega
            · intro d hd acc R hR
              obtain ⟨a, b, rfl⟩ := zip_mem _ _ _ hd
              walk_at "dl"
              have := hR [some (.dat (.int g)), some (.dat (.tup (xs.map .int))), none, some (.dat (.int a)), some (.dat (.int b))] rfl
              by_cases q : b - a < g
              · rw [if_pos q]
                simpa [pairLt, q] using this
              · rw [if_neg q]
                simpa [pairLt, q] using this
            · walk_at "dl"
              rw [deqs_nil_iff, spaced_zip]
              refine ⟨?_, ?_⟩
              · rw [okds_iff]
                intro d hd
                obtain ⟨x, hx, ex⟩ := List.mem_filterMap.mp hd
                obtain ⟨a, b, rfl⟩ := zip_mem _ _ _ hx
                unfold pairLt at ex
                simp only at ex
                split at ex
                · cases ex
                  rfl
                · cases ex
              · have e1' : decide (1 ≤ xs.length) = true := by simpa using e1
                have e2' : decide (xs.length ≤ 40) = true := by simpa using e2
                simpa only [beginsB, e1', e2', intsOf_map, ha, List.length_map, Bool.true_and] using h
    | _ =>
      walk_at "dl"
      exact h
  · exact h.elim
/-- slots: 0 value -/
def B_need_drill : DS :=
  (sIf (dtNot (dTest (dVal (dCall 1 S_fits (dCons (dDat (dVar 0)) dNil))))) (sRaise "InvalidDrill") sNil)
def S_need_drill : DF := fun ss T Q QX => match ss with
  | [.dat d] => okd 60 d = true ∧ ((fitsB d = true ∧ Q (.dat .non) T) ∨ (fitsB d = false ∧ QX ⟨"InvalidDrill", none⟩ T))
  | _ => False
theorem h_need_drill : ∀ (ss : List Sl) (T : List Ob) (Q : Sl → List Ob → Prop) (QX : Xn → List Ob → Prop), ss.length = 1 → S_need_drill ss T Q QX → B_need_drill (endsOf T.length Q QX) (startD 1 1 ss T) := by
  intro ss T Q QX hl h
  unfold S_need_drill at h
  split at h
  · rename_i d
    obtain ⟨ok, h⟩ := h
    unfold B_need_drill
    walk_at "dl"
    simp only [S_fits]
    refine ⟨ok, ?_⟩
    rcases h with ⟨f, h⟩ | ⟨f, h⟩
    all_goals
      rw [f]
      walk_at "dl"
    · exact h
    · exact h
  · exact h.elim
/-- slots: 0 gap, 1 value -/
def B_need_beginning : DS :=
  (sIf (dtNot (dTest (dVal (dCall 2 S_begins (dCons (dDat (dVar 0)) (dCons (dDat (dVar 1)) dNil)))))) (sRaise "InvalidBeginning") sNil)
def S_need_beginning : DF := fun ss T Q QX => match ss with
  | [.dat (.int g), .dat d] => okd 60 d = true ∧ ((beginsB g d = true ∧ Q (.dat .non) T) ∨ (beginsB g d = false ∧ QX ⟨"InvalidBeginning", none⟩ T))
  | _ => False
theorem h_need_beginning : ∀ (ss : List Sl) (T : List Ob) (Q : Sl → List Ob → Prop) (QX : Xn → List Ob → Prop), ss.length = 2 → S_need_beginning ss T Q QX → B_need_beginning (endsOf T.length Q QX) (startD 2 2 ss T) := by
  intro ss T Q QX hl h
  unfold S_need_beginning at h
  split at h
  · rename_i g d
    obtain ⟨ok, h⟩ := h
    unfold B_need_beginning
    walk_at "dl"
    simp only [S_begins]
    refine ⟨ok, ?_⟩
    rcases h with ⟨f, h⟩ | ⟨f, h⟩
    all_goals
      rw [f]
      walk_at "dl"
    · exact h
    · exact h
  · exact h.elim
end DL
set_option Elab.async false
set_option linter.all false
set_option maxRecDepth 100000
set_option maxHeartbeats 4000000
set_option autoImplicit false
/-! The program's defs at data level: running. -/
namespace DL
open PySem PySem.Spec PyProof.Rows L2
local macro_rules | `(tactic| walk_at "dl") => `(tactic| (try simp only [sSeq, sSet, sRet, sRetN, sIf, sNil, sDrop, sFor, sTo, sPar2, sPar3, sNever, sRaise, sSetIx, dVar, dC, dVarL, dDat, dVal, valK_dat, valK_ob, dBin, dUn, dNil, dCons, dats, dTup, dLst, dNew, dNewOf, dTest, dtAnd, dtOr, dtNot, dAnd, dOr, dNot, dIf, dChain, dCB, dSl, dNo, dSo, sApp, dIxO, dLenO, dMaxD, dGetP, dCall, dSeq, dRng1, dRng2, dZip, dEnum, gNm, gTp, gCs, gNl, dYes,
  startD, endsOf, retD, wipeS, gAdd, gSub, gMul, gMulA, gMulB, gDiv, gMod, gPow, gNeg, gLt, gLe, gGt, gGe, gEq, gNe, gIn, gIx, gSl, gIsi, tyD, isiD, gLen, gAbs, gInt, gMax2, gMin2, gTuple, gList, gIsN, isNon, gIsB, gNotB,
  List.getElem?_cons_zero, List.getElem?_cons_succ, List.getElem?_nil, List.set_cons_zero, List.set_cons_succ, List.map_cons, List.map_nil, List.cons_append, List.nil_append, List.length_cons, List.length_nil, List.replicate_succ, List.replicate_zero, Option.map_some, Nat.reduceSub, Nat.reduceAdd, Nat.reduceLeDiff,
  List.take_length, beq_self_eq_true, String.reduceBEq, Bool.or_true, Bool.true_or, Bool.or_false, Bool.false_or, Bool.and_true, Bool.and_false, Bool.true_and, Bool.false_and, Bool.or_self, Bool.and_self, decide_true, decide_false, dmem, List.any_cons, List.any_nil, okd_non, okd_bl, okd_int, okd_str, okds_nil, okds_cons, okd_60t, okd_59t, okd_58t, okd_60l, okd_59l, okd_58l, st_tk, st_tb, st_tf, st_kt, st_kb, st_kf, st_bt, st_bk, st_bf, st_ft, st_fk, st_fb, nat_num, Int.reduceBEq, Int.reduceBNe, Int.reduceEq, Int.reduceLT, Int.reduceLE, Int.reduceAdd, Int.reduceSub, Int.reduceMul, Int.reduceNeg, Int.reduceToNat, Int.reducePow, atI_0, atI_1, atI_2, set_last, get_last, take_last, deq_str, deq_int, deq_non, deq_bl, deq_tt, deq_ll, deqs_nn, deqs_cc, deqs_nc, deqs_cn, Nat.lt_irrefl, List.set_set, ixN_20, ixN_21, tupI, okds_ints, atI_map', List.length_map, cutL_map, eq_self, if_true, if_false, ite_true, ite_false, Bool.false_eq_true, decide_eq_true_eq, true_and, and_true, and_self, Bool.not_true, Bool.not_false, true_or, or_true, false_or, or_false, Option.some.injEq, reduceCtorEq]))
theorem rangeD_cons {lo hi : Int} (h : lo < hi) : rangeD lo hi = .int lo :: rangeD (lo + 1) hi := by
  unfold rangeD
  rw [show (hi - lo).toNat = (hi - (lo + 1)).toNat + 1 by omega, List.range_succ_eq_map, List.map_cons, List.map_map]
  congr 1
  · simp
  · apply List.map_congr_left
    intro k _
    simp only [Function.comp]
    congr 1
    push_cast
    omega
theorem rangeD_nil {lo hi : Int} (h : hi ≤ lo) : rangeD lo hi = [] := by
  unfold rangeD
  rw [show (hi - lo).toNat = 0 by omega]
  rfl
theorem ints_at (A B : List Int) (x : Int) : ((A ++ x :: B).map D.int)[A.length]? = some (.int x) := by simp
theorem ints_set (A B : List Int) (x y : Int) : ((A ++ x :: B).map D.int).set A.length (.int y) = (A ++ y :: B).map D.int := by simp
theorem atI_ints (A B : List Int) (x i : Int) (h : i = A.length) : atI (A ++ x :: B) i = some x := by
  rw [h, atI_nat]
  simp
theorem atI_intsP (A B : List Int) (p x i : Int) (h : i = A.length + 1) : atI (A ++ p :: x :: B) i = some x := by
  rw [show A ++ p :: x :: B = (A ++ [p]) ++ x :: B by simp]
  exact atI_ints _ _ _ _ (by rw [h]; simp)
/-- each at least g behind the one before -/
def clo (g : Int) : Int → List Int → List Int
  | _, [] => []
  | p, x :: r => (if p + g > x then p + g else x) :: clo g (if p + g > x then p + g else x) r
theorem clo_len (g : Int) : ∀ (r : List Int) (p : Int), (clo g p r).length = r.length
  | [], _ => rfl
  | x :: r, p => congrArg (· + 1) (clo_len g r _)
def pushedL (g : Int) (xs : List Int) (i : Nat) (s : Int) : List Int := xs.take i ++ match xs.drop i with
  | [] => []
  | x :: r => (x + s) :: clo g (x + s) r
theorem pushedL_at (g s x : Int) (A r : List Int) : pushedL g (A ++ x :: r) A.length s = A ++ (x + s) :: clo g (x + s) r := by simp [pushedL]
theorem pushedL_len (g s : Int) (xs : List Int) (i : Nat) : (pushedL g xs i s).length = xs.length := by
  unfold pushedL
  rw [List.length_append]
  cases h : xs.drop i with
  | nil =>
    have := congrArg List.length h
    simp at this ⊢
    omega
  | cons x r =>
    have := congrArg List.length h
    simp [clo_len] at this ⊢
    omega
theorem split_at {xs : List Int} {i : Nat} (h : i < xs.length) : ∃ A x r, xs = A ++ x :: r ∧ A.length = i := by
  refine ⟨xs.take i, xs[i], xs.drop (i + 1), ?_, by simp; omega⟩
  rw [← List.drop_eq_getElem_cons h, List.take_append_drop]
/-- slots: 0 gap, 1 places, 2 sheep, 3 steps, 4 found, 5 at -/
def B_pushed : DS :=
  (sSeq (sSet 4 (dNewOf (dCons (dDat (dVar 1)) dNil)))
  (sSeq (sSetIx 4 (dVar 2) (dBin gAdd (dIxO 4 (dVar 2)) (dVar 3)))
  (sSeq (sFor (dRng2 (dCons (dDat (dBin gAdd (dVar 2) (dC (.int 1)))) (dCons (dDat (dLenO 4)) dNil))) (gNm 5) (sSetIx 4 (dVar 5) (dCB gMax2 (dCons (dDat (dIxO 4 (dVar 5))) (dCons (dDat (dBin gAdd (dIxO 4 (dBin gSub (dVar 5) (dC (.int 1)))) (dVar 0))) dNil)))))
  (sRet (dDat (dCB gTuple (dCons (dDat (dVar 4)) dNil)))))))
def S_pushed : DF := fun ss T Q _ => ∃ (g : Int) (xs : List Int) (i s : Int), ss = [.dat (.int g), .dat (tupI xs), .dat (.int i), .dat (.int s)] ∧ 0 ≤ i ∧ i < xs.length ∧ xs.length ≤ 1000 ∧ Q (.dat (tupI (pushedL g xs i.toNat s))) T
theorem h_pushed : ∀ (ss : List Sl) (T : List Ob) (Q : Sl → List Ob → Prop) (QX : Xn → List Ob → Prop), ss.length = 4 → S_pushed ss T Q QX → B_pushed (endsOf T.length Q QX) (startD 6 4 ss T) := by
  intro ss T Q QX hl h
  obtain ⟨g, xs, i, s, rfl, h0, h1, hz, h⟩ := h
  obtain ⟨A, x, r, rfl, hA⟩ := split_at (i := i.toNat) (xs := xs) (by omega)
  have hi : i = A.length := by omega
  subst hi
  rw [Int.toNat_natCast, pushedL_at] at h
  unfold B_pushed
  simp only [tupI]
  walk_at "dl"
  rw [atI_ints A r x _ rfl]
  walk_at "dl"
  rw [ixN_pos (by omega) (by simp; omega)]
  walk_at "dl"
  rw [Int.toNat_natCast, ints_set]
  refine ⟨by simp at hz ⊢; omega, ?_⟩
  refine loop_inv (fun ds ρ => ∃ P p rest v, ρ = ⟨T ++ [.lst ((P ++ p :: rest).map .int)], [some (.dat (.int g)), some (.dat (.tup ((A ++ x :: r).map .int))), some (.dat (.int A.length)), some (.dat (.int s)), some (.ob T.length), v]⟩ ∧
    ds = rangeD (P.length + 1) (P.length + 1 + rest.length) ∧ P ++ p :: clo g p rest = A ++ (x + s) :: clo g (x + s) r) ?_ ?_ _ _ ?_
  · rintro d ds ρ ⟨P, p, rest, v, rfl, e, f⟩ N hN
    cases rest with
    | nil =>
      rw [rangeD_nil (by simp)] at e
      cases e
    | cons y rest =>
      rw [rangeD_cons (by simp; omega)] at e
      cases e
      walk_at "dl"
      rw [atI_intsP P rest p y _ rfl]
      walk_at "dl"
      rw [show ((P.length : Int) + 1 - 1) = P.length by omega, atI_ints P (y :: rest) p _ rfl]
      walk_at "dl"
      rw [ixN_pos (by omega) (by simp; omega)]
      walk_at "dl"
      apply hN
      refine ⟨P ++ [p], (if p + g > y then p + g else y), rest, some (.dat (.int (P.length + 1))), ?_, ?_, ?_⟩
      · have e1 : ((P.length : Int) + 1).toNat = (P ++ [p]).length := by simp
        rw [e1, show P ++ p :: y :: rest = (P ++ [p]) ++ y :: rest by simp, ints_set]
      · congr 1
        · simp
        · simp
          omega
      · rw [← f]
        simp [clo]
  · rintro ρ ⟨P, p, rest, v, rfl, e, f⟩
    have hr : rest = [] := by
      cases rest with
      | nil => rfl
      | cons y rest =>
        rw [rangeD_cons (by simp; omega)] at e
        cases e
    subst hr
    walk_at "dl"
    rw [show (P ++ [p]) = A ++ (x + s) :: clo g (x + s) r by simpa [clo] using f]
    exact h
  · refine ⟨A, x + s, r, none, rfl, ?_, rfl⟩
    congr 1
    simp
    omega
end DL
set_option Elab.async false
set_option linter.all false
set_option maxRecDepth 100000
set_option maxHeartbeats 4000000
set_option autoImplicit false
/-! The program's defs at data level: courses. -/
namespace DL
open PySem PySem.Spec PyProof.Rows L2
local macro_rules | `(tactic| walk_at "dl") => `(tactic| (try simp only [sSeq, sSet, sRet, sRetN, sIf, sNil, sDrop, sFor, sTo, sPar2, sPar3, sNever, sRaise, sSetIx, dVar, dC, dVarL, dDat, dVal, valK_dat, valK_ob, dBin, dUn, dNil, dCons, dats, dTup, dLst, dNew, dNewOf, dTest, dtAnd, dtOr, dtNot, dAnd, dOr, dNot, dIf, dChain, dCB, dSl, dNo, dSo, sApp, dIxO, dLenO, dMaxD, dGetP, dCall, dSeq, dRng1, dRng2, dZip, dEnum, gNm, gTp, gCs, gNl, dYes,
  startD, endsOf, retD, wipeS, gAdd, gSub, gMul, gMulA, gMulB, gDiv, gMod, gPow, gNeg, gLt, gLe, gGt, gGe, gEq, gNe, gIn, gIx, gSl, gIsi, tyD, isiD, gLen, gAbs, gInt, gMax2, gMin2, gTuple, gList, gIsN, isNon, gIsB, gNotB,
  List.getElem?_cons_zero, List.getElem?_cons_succ, List.getElem?_nil, List.set_cons_zero, List.set_cons_succ, List.map_cons, List.map_nil, List.cons_append, List.nil_append, List.length_cons, List.length_nil, List.replicate_succ, List.replicate_zero, Option.map_some, Nat.reduceSub, Nat.reduceAdd, Nat.reduceLeDiff,
  List.take_length, beq_self_eq_true, String.reduceBEq, Bool.or_true, Bool.true_or, Bool.or_false, Bool.false_or, Bool.and_true, Bool.and_false, Bool.true_and, Bool.false_and, Bool.or_self, Bool.and_self, decide_true, decide_false, dmem, List.any_cons, List.any_nil, okd_non, okd_bl, okd_int, okd_str, okds_nil, okds_cons, okd_60t, okd_59t, okd_58t, okd_60l, okd_59l, okd_58l, st_tk, st_tb, st_tf, st_kt, st_kb, st_kf, st_bt, st_bk, st_bf, st_ft, st_fk, st_fb, nat_num, Int.reduceBEq, Int.reduceBNe, Int.reduceEq, Int.reduceLT, Int.reduceLE, Int.reduceAdd, Int.reduceSub, Int.reduceMul, Int.reduceNeg, Int.reduceToNat, Int.reducePow, atI_0, atI_1, atI_2, set_last, get_last, take_last, deq_str, deq_int, deq_non, deq_bl, deq_tt, deq_ll, deqs_nn, deqs_cc, deqs_nc, deqs_cn, Nat.lt_irrefl, List.set_set, ixN_20, ixN_21, tupI, okds_ints, atI_map', List.length_map, cutL_map, eq_self, if_true, if_false, ite_true, ite_false, Bool.false_eq_true, decide_eq_true_eq, true_and, and_true, and_self, Bool.not_true, Bool.not_false, true_or, or_true, false_or, or_false, Option.some.injEq, reduceCtorEq]))
/-- a run -/
inductive Rn | to (p : Int) | bark (s : Int) | back (n s : Int) | front (n s : Int)
def Rn.d : Rn → D
  | .to p => .tup [.str "to", .int p]
  | .bark s => .tup [.str "bark", .int s]
  | .back n s => .tup [.str "back", .int n, .int s]
  | .front n s => .tup [.str "front", .int n, .int s]
def Rn.ok : Rn → Prop
  | .to p => 0 ≤ p ∧ p ≤ 1000000000000
  | .bark s => 1 ≤ s ∧ s ≤ 1000000000000
  | .back n s => (0 ≤ n ∧ n ≤ 3) ∧ 1 ≤ s ∧ s ≤ 1000000000000
  | .front n s => (0 ≤ n ∧ n ≤ 3) ∧ 1 ≤ s ∧ s ≤ 1000000000000
theorem isInt_int {i lo hi : Int} (h : lo ≤ i) (h2 : i ≤ hi) : isInt (.int i) lo hi = true := by simp [isInt, h, h2]
theorem Rn.run {r : Rn} (h : r.ok) : isRun r.d = true := by
  cases r with
  | to p => simp [Rn.d, DL.isRun, isInt_int h.1 h.2]
  | bark p => simp [Rn.d, DL.isRun, isInt_int h.1 h.2]
  | back n s => simp [Rn.d, DL.isRun, isInt_int h.1.1 h.1.2, isInt_int h.2.1 h.2.2]
  | front n s => simp [Rn.d, DL.isRun, isInt_int h.1.1 h.1.2, isInt_int h.2.1 h.2.2]
theorem Rn.okd (r : Rn) (n : Nat) : okd (n + 1) r.d = true := by
  cases r <;> simp [Rn.d, DL.okd, okds]
def drD (g : Int) (rs : List Rn) : D := .tup [.int g, .tup (rs.map Rn.d)]
structure DrOk (g : Int) (rs : List Rn) : Prop where
  g1 : 1 ≤ g
  g9 : g ≤ 9
  l8 : rs.length ≤ 8
  ok : ∀ r ∈ rs, r.ok
theorem okd_drD (g : Int) (rs : List Rn) (n : Nat) : okd (n + 3) (drD g rs) = true := by
  simp only [drD, okd, okds, Bool.and_true, Bool.true_and]
  rw [okds_iff]
  intro d hd
  obtain ⟨r, _, rfl⟩ := List.mem_map.mp hd
  exact r.okd n
theorem DrOk.fits {g : Int} {rs : List Rn} (h : DrOk g rs) : fitsB (drD g rs) = true := by
  simp only [drD, fitsB, isInt_int h.g1 h.g9, List.length_map, Bool.true_and, Bool.and_eq_true, decide_eq_true_eq]
  refine ⟨h.l8, ?_⟩
  rw [List.all_eq_true]
  intro d hd
  obtain ⟨r, hr, rfl⟩ := List.mem_map.mp hd
  exact Rn.run (h.ok r hr)
structure BgOk (g : Int) (xs : List Int) : Prop where
  l1 : 1 ≤ xs.length
  l40 : xs.length ≤ 40
  great : ∀ x ∈ xs, 0 ≤ x ∧ x ≤ 1000000000000000000000000000000
  sp : spaced g xs = true
theorem BgOk.begins {g : Int} {xs : List Int} (h : BgOk g xs) : beginsB g (tupI xs) = true := by
  simp only [tupI, beginsB, intsOf_map, List.length_map, Bool.and_eq_true, decide_eq_true_eq]
  refine ⟨⟨h.l1, h.l40⟩, ?_, h.sp⟩
  rw [List.all_eq_true]
  intro x hx
  have := h.great x hx
  simp [inGreat, this]
/-- what the program does with a run -/
def ranL (g : Int) (xs : List Int) : Rn → List Int
  | .to p => pushedL g xs 0 (if p - xs.headD 0 > 0 then p - xs.headD 0 else 0)
  | .bark s => xs.map (· + s)
  | .back n s => if n < xs.length then pushedL g xs n.toNat s else xs
  | .front n s => if 0 ≤ (xs.length : Int) - 1 - n then pushedL g xs ((xs.length : Int) - 1 - n).toNat s else xs
theorem ranL_len (g : Int) (xs : List Int) (r : Rn) : (ranL g xs r).length = xs.length := by
  cases r with
  | to p => simp [ranL, pushedL_len]
  | bark s => simp [ranL]
  | back n s => simp only [ranL]; split <;> simp [pushedL_len]
  | front n s => simp only [ranL]; split <;> simp [pushedL_len]
theorem gMax2_ii (i j : Int) (P : D → Prop) : gMax2 [.int i, .int j] P = P (.int (if j > i then j else i)) := rfl
theorem filterMap_some {α β : Type} (f : α → β) (l : List α) : l.filterMap (fun x => some (f x)) = l.map f := by simp
/-- slots: 0 gap, 1 places, 2 run, 3 sheep, 4 place -/
def B_ran : DS :=
  (sSeq (sIf (dTest (dBin gEq (dBin gIx (dVar 2) (dC (.int 0))) (dC (.str "to")))) (sRet (dDat (dVal (dCall 4 S_pushed (dCons (dDat (dVar 0)) (dCons (dDat (dVar 1)) (dCons (dDat (dC (.int 0))) (dCons (dDat (dCB gMax2 (dCons (dDat (dC (.int 0))) (dCons (dDat (dBin gSub (dBin gIx (dVar 2) (dC (.int 1))) (dBin gIx (dVar 1) (dC (.int 0))))) dNil)))) dNil)))))))) sNil)
  (sSeq (sIf (dTest (dBin gEq (dBin gIx (dVar 2) (dC (.int 0))) (dC (.str "bark")))) (sRet (dDat (dCB gTuple (dCons (dDat (dComp (dSeq (dVar 1)) (gNm 4) dYes (dBin gAdd (dVar 4) (dBin gIx (dVar 2) (dC (.int 1)))) [4])) dNil)))) sNil)
  (sSeq (sSet 3 (dDat (dIf (dTest (dBin gEq (dBin gIx (dVar 2) (dC (.int 0))) (dC (.str "back")))) (dBin gIx (dVar 2) (dC (.int 1))) (dBin gSub (dBin gSub (dCB gLen (dCons (dDat (dVar 1)) dNil)) (dC (.int 1))) (dBin gIx (dVar 2) (dC (.int 1)))))))
  (sSeq (sIf (dtNot (dTest (dChain gLe gLt (dC (.int 0)) (dVar 3) (dCB gLen (dCons (dDat (dVar 1)) dNil))))) (sRet (dDat (dVar 1))) sNil)
  (sRet (dDat (dVal (dCall 4 S_pushed (dCons (dDat (dVar 0)) (dCons (dDat (dVar 1)) (dCons (dDat (dVar 3)) (dCons (dDat (dBin gIx (dVar 2) (dC (.int 2)))) dNil))))))))))))
def S_ran : DF := fun ss T Q _ => ∃ (g : Int) (xs : List Int) (r : Rn), ss = [.dat (.int g), .dat (tupI xs), .dat r.d] ∧ 1 ≤ xs.length ∧ xs.length ≤ 1000 ∧ r.ok ∧ Q (.dat (tupI (ranL g xs r))) T
theorem h_ran : ∀ (ss : List Sl) (T : List Ob) (Q : Sl → List Ob → Prop) (QX : Xn → List Ob → Prop), ss.length = 3 → S_ran ss T Q QX → B_ran (endsOf T.length Q QX) (startD 5 3 ss T) := by
  intro ss T Q QX hl h
  obtain ⟨g, xs, r, rfl, h1, hz, ok, h⟩ := h
  unfold B_ran
  cases r with
  | to p =>
    simp only [Rn.d]
    walk_at "dl"
    obtain ⟨x, r, rfl⟩ : ∃ x r, xs = x :: r := by
      cases xs with
      | nil => simp at h1
      | cons x r => exact ⟨x, r, rfl⟩
    walk_at "dl"
    exact ⟨_, _, _, _, rfl, by omega, by simp, hz, by walk_at "dl"; exact h⟩
  | bark s =>
    simp only [Rn.d]
    walk_at "dl"
    refine dComp_pure (fun d => match d with | .int i => some (.int (i + s)) | _ => none) (xs.map .int) T [some (.dat (.int g)), some (.dat (tupI xs)), some (.dat (.tup [.str "bark", .int s])), none, none] [some (.dat (.int g)), some (.dat (tupI xs)), some (.dat (.tup [.str "bark", .int s])), none, none] ?_ rfl rfl rfl (by rw [List.length_map, sizeLine_eq]; omega) ?_ ?_
    · intro P hP
      walk_at "dl"
      exact hP
    · intro d hd acc R hR
      obtain ⟨x, _, rfl⟩ := List.mem_map.mp hd
      walk_at "dl"
      exact hR _ rfl
    · walk_at "dl"
      rw [List.filterMap_map, show ((fun d => match d with | D.int i => some (D.int (i + s)) | _ => none) ∘ D.int) = fun x => some (D.int (x + s)) from rfl, filterMap_some]
      have e : xs.map (fun x => D.int (x + s)) = (xs.map (· + s)).map D.int := by simp
      rw [e]
      exact h
  | back n s =>
    obtain ⟨⟨n0, n3⟩, s1, s2⟩ := ok
    simp only [Rn.d]
    walk_at "dl"
    rw [if_pos n0]
    simp only [ranL] at h
    by_cases q : n < xs.length
    · rw [if_pos q] at h
      rw [if_neg (by simpa using q)]
      exact ⟨_, _, _, _, rfl, n0, q, hz, by walk_at "dl"; exact h⟩
    · rw [if_neg q] at h
      rw [if_pos (by simpa using q)]
      exact h
  | front n s =>
    obtain ⟨⟨n0, n3⟩, s1, s2⟩ := ok
    simp only [Rn.d]
    walk_at "dl"
    simp only [ranL] at h
    by_cases q : 0 ≤ (xs.length : Int) - 1 - n
    · rw [if_pos q] at h
      rw [if_pos q, if_neg (by simp; omega)]
      exact ⟨_, _, _, _, rfl, q, by omega, hz, by walk_at "dl"; exact h⟩
    · rw [if_neg q] at h
      rw [if_neg q]
      exact h
/-- a course -/
def courseL (g : Int) : List Int → List Rn → List (List Int)
  | _, [] => []
  | xs, r :: rs => ranL g xs r :: courseL g (ranL g xs r) rs
theorem courseL_len (g : Int) : ∀ (rs : List Rn) (xs : List Int), (courseL g xs rs).length = rs.length
  | [], _ => rfl
  | r :: rs, xs => congrArg (· + 1) (courseL_len g rs _)
/-- slots: 0 drill, 1 beginning, 2 found, 3 run -/
def B_course_of : DS :=
  (sSeq (sSet 2 (dNew dNil))
  (sSeq (sFor (dSeq (dBin gIx (dVar 0) (dC (.int 1)))) (gNm 3) (sSeq (sSet 1 (dDat (dVal (dCall 3 S_ran (dCons (dDat (dBin gIx (dVar 0) (dC (.int 0)))) (dCons (dDat (dVar 1)) (dCons (dDat (dVar 3)) dNil)))))))
  (sApp 2 (dVar 1))))
  (sRet (dDat (dVar 2)))))
def S_course_of : DF := fun ss T Q _ => ∃ (g : Int) (xs : List Int) (rs : List Rn), ss = [.dat (drD g rs), .dat (tupI xs)] ∧ 1 ≤ xs.length ∧ xs.length ≤ 1000 ∧ rs.length ≤ 1000 ∧ (∀ r ∈ rs, r.ok) ∧ Q (.dat (.lst ((courseL g xs rs).map tupI))) T
theorem h_course_of : ∀ (ss : List Sl) (T : List Ob) (Q : Sl → List Ob → Prop) (QX : Xn → List Ob → Prop), ss.length = 2 → S_course_of ss T Q QX → B_course_of (endsOf T.length Q QX) (startD 4 2 ss T) := by
  intro ss T Q QX hl h
  obtain ⟨g, xs, rs, rfl, h1, hz, hr, ok, h⟩ := h
  unfold B_course_of
  simp only [drD]
  walk_at "dl"
  refine loop_inv (fun ds ρ => ∃ (done : List (List Int)) (ys : List Int) (rest : List Rn) (v : Option Sl), ρ = ⟨T ++ [.lst (done.map tupI)], [some (.dat (.tup [.int g, .tup (rs.map Rn.d)])), some (.dat (tupI ys)), some (.ob T.length), v]⟩ ∧ ds = rest.map Rn.d ∧ ys.length = xs.length ∧ (∀ r ∈ rest, r.ok) ∧ done ++ courseL g ys rest = courseL g xs rs) ?_ ?_ _ _ ?_
  · rintro d ds ρ ⟨done, ys, rest, v, rfl, e, hy, ho, hc⟩ N hN
    cases rest with
    | nil => cases e
    | cons r rest =>
      cases e
      walk_at "dl"
      refine ⟨g, ys, r, rfl, by omega, by omega, ho r (by simp), ?_⟩
      walk_at "dl"
      have hlen := congrArg List.length hc
      simp only [List.length_append, courseL_len, List.length_cons] at hlen
      refine ⟨by rw [sizeLine_eq]; omega, ?_⟩
      apply hN
      refine ⟨done ++ [ranL g ys r], ranL g ys r, rest, some (.dat r.d), by simp [tupI], rfl, by rw [ranL_len, hy], fun r hr => ho r (by simp [hr]), ?_⟩
      rw [← hc]
      simp [courseL]
  · rintro ρ ⟨done, ys, rest, v, rfl, e, hy, ho, hc⟩
    have hr : rest = [] := by
      cases rest with
      | nil => rfl
      | cons y rest => cases e
    subst hr
    walk_at "dl"
    rw [show done = courseL g xs rs by simpa [courseL] using hc]
    exact h
  · exact ⟨[], xs, rs, none, rfl, rfl, rfl, ok, rfl⟩
/-- slots: 0 drill, 1 beginning -/
def B_course : DS :=
  (sSeq (sDrop (dCall 1 S_need_drill (dCons (dDat (dVar 0)) dNil)))
  (sSeq (sDrop (dCall 2 S_need_beginning (dCons (dDat (dBin gIx (dVar 0) (dC (.int 0)))) (dCons (dDat (dVar 1)) dNil))))
  (sRet (dDat (dVal (dCall 2 S_course_of (dCons (dDat (dVar 0)) (dCons (dDat (dVar 1)) dNil))))))))
def S_course : DF := fun ss T Q _ => ∃ (g : Int) (xs : List Int) (rs : List Rn), ss = [.dat (drD g rs), .dat (tupI xs)] ∧ DrOk g rs ∧ BgOk g xs ∧ Q (.dat (.lst ((courseL g xs rs).map tupI))) T
theorem h_course : ∀ (ss : List Sl) (T : List Ob) (Q : Sl → List Ob → Prop) (QX : Xn → List Ob → Prop), ss.length = 2 → S_course ss T Q QX → B_course (endsOf T.length Q QX) (startD 2 2 ss T) := by
  intro ss T Q QX hl h
  obtain ⟨g, xs, rs, rfl, hd, hb, h⟩ := h
  unfold B_course
  simp only [drD]
  walk_at "dl"
  simp only [S_need_drill]
  refine ⟨okd_drD g rs 57, .inl ⟨hd.fits, ?_⟩⟩
  walk_at "dl"
  simp only [S_need_beginning]
  refine ⟨okd_tupI 59 xs, .inl ⟨hb.begins, ?_⟩⟩
  walk_at "dl"
  refine ⟨g, xs, rs, rfl, hb.l1, Nat.le_trans hb.l40 (by decide), Nat.le_trans hd.l8 (by decide), hd.ok, ?_⟩
  walk_at "dl"
  exact h
theorem course_last (g : Int) : ∀ (rs : List Rn) (xs : List Int), ∃ l, xs :: courseL g xs rs = l ++ [rs.foldl (ranL g) xs]
  | [], xs => ⟨[], rfl⟩
  | r :: rs, xs => by
    obtain ⟨l, e⟩ := course_last g rs (ranL g xs r)
    exact ⟨xs :: l, by simp only [courseL, List.foldl_cons, List.cons_append]; rw [e]⟩
/-- slots: 0 drill, 1 beginning -/
def B_ends : DS :=
  (sSeq (sDrop (dCall 1 S_need_drill (dCons (dDat (dVar 0)) dNil)))
  (sSeq (sDrop (dCall 2 S_need_beginning (dCons (dDat (dBin gIx (dVar 0) (dC (.int 0)))) (dCons (dDat (dVar 1)) dNil))))
  (sRet (dDat (dBin gIx (dBin gAdd (dLst (dCons (dDat (dVar 1)) dNil)) (dVal (dCall 2 S_course_of (dCons (dDat (dVar 0)) (dCons (dDat (dVar 1)) dNil))))) (dUn gNeg (dC (.int 1))))))))
def S_ends : DF := fun ss T Q _ => ∃ (g : Int) (xs : List Int) (rs : List Rn), ss = [.dat (drD g rs), .dat (tupI xs)] ∧ DrOk g rs ∧ BgOk g xs ∧ Q (.dat (tupI (rs.foldl (ranL g) xs))) T
theorem h_ends : ∀ (ss : List Sl) (T : List Ob) (Q : Sl → List Ob → Prop) (QX : Xn → List Ob → Prop), ss.length = 2 → S_ends ss T Q QX → B_ends (endsOf T.length Q QX) (startD 2 2 ss T) := by
  intro ss T Q QX hl h
  obtain ⟨g, xs, rs, rfl, hd, hb, h⟩ := h
  unfold B_ends
  simp only [drD]
  walk_at "dl"
  simp only [S_need_drill]
  refine ⟨okd_drD g rs 57, .inl ⟨hd.fits, ?_⟩⟩
  walk_at "dl"
  simp only [S_need_beginning]
  refine ⟨okd_tupI 59 xs, .inl ⟨hb.begins, ?_⟩⟩
  walk_at "dl"
  refine ⟨g, xs, rs, rfl, hb.l1, Nat.le_trans hb.l40 (by decide), Nat.le_trans hd.l8 (by decide), hd.ok, ?_⟩
  walk_at "dl"
  have hl8 := hd.l8
  refine ⟨by rw [courseL_len, sizeLine_eq]; omega, ?_⟩
  obtain ⟨l, e⟩ := course_last g rs xs
  rw [show D.tup (xs.map .int) :: (courseL g xs rs).map tupI = l.map tupI ++ [tupI (rs.foldl (ranL g) xs)] by rw [dat_tI, ← List.map_cons, e]; simp, atI_last]
  exact h
end DL
set_option Elab.async false
set_option linter.all false
set_option maxRecDepth 100000
set_option maxHeartbeats 4000000
set_option autoImplicit false
/-! The law's defs at data level: drawing. -/
namespace DL
open PySem PySem.Spec PyProof.Rows L2
local macro_rules | `(tactic| walk_at "dl") => `(tactic| (try simp only [sSeq, sSet, sRet, sRetN, sIf, sNil, sDrop, sFor, sTo, sPar2, sPar3, sNever, sRaise, sSetIx, dVar, dC, dVarL, dDat, dVal, valK_dat, valK_ob, dBin, dUn, dNil, dCons, dats, dTup, dLst, dNew, dNewOf, dTest, dtAnd, dtOr, dtNot, dAnd, dOr, dNot, dIf, dChain, dCB, dSl, dNo, dSo, sApp, dIxO, dLenO, dMaxD, dGetP, dCall, dSeq, dRng1, dRng2, dZip, dEnum, gNm, gTp, gCs, gNl, dYes,
  startD, endsOf, retD, wipeS, gAdd, gSub, gMul, gMulA, gMulB, gDiv, gMod, gPow, gNeg, gLt, gLe, gGt, gGe, gEq, gNe, gIn, gIx, gSl, gIsi, tyD, isiD, gLen, gAbs, gInt, gMax2, gMin2, gTuple, gList, gIsN, isNon, gIsB, gNotB,
  List.getElem?_cons_zero, List.getElem?_cons_succ, List.getElem?_nil, List.set_cons_zero, List.set_cons_succ, List.map_cons, List.map_nil, List.cons_append, List.nil_append, List.length_cons, List.length_nil, List.replicate_succ, List.replicate_zero, Option.map_some, Nat.reduceSub, Nat.reduceAdd, Nat.reduceLeDiff,
  List.take_length, beq_self_eq_true, String.reduceBEq, Bool.or_true, Bool.true_or, Bool.or_false, Bool.false_or, Bool.and_true, Bool.and_false, Bool.true_and, Bool.false_and, Bool.or_self, Bool.and_self, decide_true, decide_false, dmem, List.any_cons, List.any_nil, okd_non, okd_bl, okd_int, okd_str, okds_nil, okds_cons, okd_60t, okd_59t, okd_58t, okd_60l, okd_59l, okd_58l, st_tk, st_tb, st_tf, st_kt, st_kb, st_kf, st_bt, st_bk, st_bf, st_ft, st_fk, st_fb, nat_num, Int.reduceBEq, Int.reduceBNe, Int.reduceEq, Int.reduceLT, Int.reduceLE, Int.reduceAdd, Int.reduceSub, Int.reduceMul, Int.reduceNeg, Int.reduceToNat, Int.reducePow, atI_0, atI_1, atI_2, set_last, get_last, take_last, deq_str, deq_int, deq_non, deq_bl, deq_tt, deq_ll, deqs_nn, deqs_cc, deqs_nc, deqs_cn, Nat.lt_irrefl, List.set_set, ixN_20, ixN_21, tupI, okds_ints, atI_map', List.length_map, cutL_map, eq_self, if_true, if_false, ite_true, ite_false, Bool.false_eq_true, decide_eq_true_eq, true_and, and_true, and_self, Bool.not_true, Bool.not_false, true_or, or_true, false_or, or_false, Option.some.injEq, reduceCtorEq]))
theorem log_lt {n k : Nat} (hk : 0 < k) (h : n < 2 ^ k) : n.log2 < k := by
  by_cases z : n = 0
  · subst z
    simpa using hk
  · exact (Nat.log2_lt z).mpr h
theorem cmulW {i j : Int} (hi : i.natAbs < 2 ^ 250) (hj : j.natAbs < 2 ^ 250) : CMulW i j := by
  have h1 := log_lt (by decide) hi
  have h2 := log_lt (by decide) hj
  unfold CMulW
  omega
theorem cdivW {i j : Int} (h : 0 < j) (hj : j.natAbs < 2 ^ 250) : CDivW i j := ⟨h, Nat.lt_trans (log_lt (by decide) hj) (by decide)⟩
def CartV (a b : Int) : Ob := .lst [.int a, .int b]
structure CartOk (a b : Int) : Prop where
  a0 : 0 ≤ a
  aM : a < 10 ^ 240
  b0 : 0 ≤ b
  bM : b < 4294967296
def Cart (T : List Ob) (k : Nat) : Prop := ∃ a b, T[k]? = some (CartV a b) ∧ CartOk a b
def CartTo (T T' : List Ob) (k : Nat) : Prop := ∃ a b, T' = T.set k (CartV a b) ∧ CartOk a b
theorem Cart.lt {T : List Ob} {k : Nat} (h : Cart T k) : k < T.length := by
  obtain ⟨a, b, e, _⟩ := h
  exact (List.getElem?_eq_some_iff.mp e).1
theorem CartTo.cart {T T' : List Ob} {k : Nat} (c : Cart T k) (h : CartTo T T' k) : Cart T' k := by
  obtain ⟨a, b, rfl, ok⟩ := h
  exact ⟨a, b, by rw [List.getElem?_set_self c.lt], ok⟩
theorem CartTo.trans {T T' T2 : List Ob} {k : Nat} (h : CartTo T T' k) (h2 : CartTo T' T2 k) : CartTo T T2 k := by
  obtain ⟨a, b, rfl, ok⟩ := h
  obtain ⟨a2, b2, rfl, ok2⟩ := h2
  exact ⟨a2, b2, by rw [List.set_set], ok2⟩
theorem CartTo.len {T T' : List Ob} {k : Nat} (h : CartTo T T' k) : T'.length = T.length := by
  obtain ⟨a, b, rfl, ok⟩ := h
  simp
theorem Cart.refl {T : List Ob} {k : Nat} (c : Cart T k) : CartTo T T k := by
  obtain ⟨a, b, e, ok⟩ := c
  refine ⟨a, b, ?_, ok⟩
  obtain ⟨h, e'⟩ := List.getElem?_eq_some_iff.mp e
  rw [← e', List.set_getElem_self]
theorem Cart.app {T : List Ob} {k : Nat} (c : Cart T k) (S : List Ob) : Cart (T ++ S) k := by
  obtain ⟨a, b, e, ok⟩ := c
  exact ⟨a, b, by rw [List.getElem?_append_left (List.getElem?_eq_some_iff.mp e).1, e], ok⟩
theorem CartTo.unapp {T T' S : List Ob} {k : Nat} (c : Cart T k) (h : CartTo (T ++ S) T' k) : ∃ T2, T' = T2 ++ S ∧ CartTo T T2 k := by
  obtain ⟨a, b, rfl, ok⟩ := h
  exact ⟨T.set k (CartV a b), by rw [List.set_append_left _ _ c.lt], a, b, rfl, ok⟩
/-- slots: 0 _law_script, 1 _law_k, 2 _law_cell -/
def B_l_cart_of : DS :=
  (sSeq (sSet 2 (dDat (dBin gAdd (dBin gMulB (dC (.int 32003)) (dVar 1)) (dC (.int 79)))))
  (sSeq (sIf (dTest (dBin gLt (dVar 1) (dCB gLen (dCons (dDat (dVar 0)) dNil)))) (sSet 2 (dDat (dBin gMod (dCB gAbs (dCons (dDat (dCB gInt (dCons (dDat (dBin gIx (dVar 0) (dVar 1))) dNil))) dNil)) (dBin gMulB (dBin gMulB (dBin gMulB (dBin gPow (dC (.int 10)) (dC (.int 60))) (dBin gPow (dC (.int 10)) (dC (.int 60)))) (dBin gPow (dC (.int 10)) (dC (.int 60)))) (dBin gPow (dC (.int 10)) (dC (.int 60))))))) (sIf (dTest (dBin gGt (dCB gLen (dCons (dDat (dVar 0)) dNil)) (dC (.int 0)))) (sSet 2 (dDat (dBin gAdd (dVar 2) (dBin gMod (dCB gAbs (dCons (dDat (dCB gInt (dCons (dDat (dBin gIx (dVar 0) (dC (.int 0)))) dNil))) dNil)) (dC (.int 1000357)))))) sNil))
  (sRet (dNew (dCons (dDat (dIf (dTest (dBin gGe (dVar 2) (dBin gPow (dC (.int 10)) (dC (.int 18))))) (dVar 2) (dC (.int 0)))) (dCons (dDat (dBin gAdd (dBin gMod (dCB gInt (dCons (dDat (dBin gAdd (dBin gAdd (dBin gMulB (dBin gMod (dVar 2) (dC (.int 2147482697))) (dC (.int 41))) (dBin gMulB (dC (.int 127)) (dVar 1))) (dC (.int 73)))) dNil)) (dC (.int 2147482697))) (dC (.int 1)))) dNil))))))
def S_l_cart_of : DF := fun ss T Q _ => ∃ (ns : List Int) (k : Int), ss = [.dat (.scr ns), .dat (.int k)] ∧ 0 ≤ k ∧ k ≤ 1000 ∧ ns.length ≤ 1000 ∧ ∀ a b, CartOk a b → Q (.ob T.length) (T ++ [CartV a b])
theorem cart_b (c k : Int) : 0 ≤ (c % 2147482697 * 41 + 127 * k + 73) % 2147482697 + 1 ∧ (c % 2147482697 * 41 + 127 * k + 73) % 2147482697 + 1 < 4294967296 := by omega
theorem h_l_cart_of : ∀ (ss : List Sl) (T : List Ob) (Q : Sl → List Ob → Prop) (QX : Xn → List Ob → Prop), ss.length = 2 → S_l_cart_of ss T Q QX → B_l_cart_of (endsOf T.length Q QX) (startD 3 2 ss T) := by
  intro ss T Q QX hl h
  obtain ⟨ns, k, rfl, k0, k1, hn, h⟩ := h
  unfold B_l_cart_of
  walk_at "dl"
  refine ⟨cmulW (by decide) (by omega), ?_⟩
  have fin : ∀ c : Int, 0 ≤ c → c < 10 ^ 240 → (CPow 10 18 ∧ (if (1000000000000000000 : Int) ≤ c then CMulW (c % 2147482697) 41 ∧ CMulW 127 k ∧ Q (.ob T.length) (T ++ [CartV c ((c % 2147482697 * 41 + 127 * k + 73) % 2147482697 + 1)]) else CMulW (c % 2147482697) 41 ∧ CMulW 127 k ∧ Q (.ob T.length) (T ++ [CartV 0 ((c % 2147482697 * 41 + 127 * k + 73) % 2147482697 + 1)]))) := by
    intro c c0 c1
    refine ⟨by unfold CPow; decide, ?_⟩
    have e1 : CMulW (c % 2147482697) 41 := cmulW (by omega) (by decide)
    have e2 : CMulW 127 k := cmulW (by decide) (by omega)
    split
    · exact ⟨e1, e2, h _ _ ⟨c0, c1, (cart_b c k).1, (cart_b c k).2⟩⟩
    · exact ⟨e1, e2, h _ _ ⟨by decide, by decide, (cart_b c k).1, (cart_b c k).2⟩⟩
  have p60 : CPow 10 60 := by unfold CPow; decide
  simp only [CartV] at fin
  by_cases q : k < ns.length
  · rw [if_pos q, atI_some k0 q]
    walk_at "dl"
    generalize ns[k.toNat] = n
    refine ⟨p60, p60, by unfold CMulW; decide +kernel, p60, by unfold CMulW; decide +kernel, p60, by unfold CMulW; decide +kernel, ?_⟩
    exact fin _ (Int.emod_nonneg _ (by decide)) (by simp only [Int.reducePow]; exact Int.emod_lt_of_pos _ (by decide))
  · rw [if_neg q]
    by_cases q0 : (0 : Int) < ns.length
    · rw [if_pos q0, atI_some (by omega) q0]
      walk_at "dl"
      refine fin _ (by split <;> omega) ?_
      simp only [Int.reducePow]
      split <;> omega
    · rw [if_neg q0]
      refine fin _ (by omega) ?_
      simp only [Int.reducePow]
      omega
/-- slots: 0 _law_cart, 1 _law_many, 2 _law_found, 3 _law_wide -/
def B_l_take : DS :=
  (sSeq (sIf (dTest (dBin gGt (dIxO 0 (dC (.int 0))) (dC (.int 0)))) (sSeq (sSet 2 (dDat (dBin gMod (dCB gInt (dCons (dDat (dIxO 0 (dC (.int 0)))) dNil)) (dVar 1))))
  (sSeq (sSetIx 0 (dC (.int 0)) (dBin gDiv (dIxO 0 (dC (.int 0))) (dVar 1)))
  (sRet (dDat (dVar 2))))) sNil)
  (sSeq (sTo (dTup (dCons (dDat (dC (.int 0))) (dCons (dDat (dC (.int 1))) dNil))) (gTp 2 (gCs (gNm 2) (gCs (gNm 3) gNl))))
  (sSeq (sWhile (dtOr (dTest (dBin gLt (dVar 3) (dVar 1))) (dTest (dBin gEq (dVar 3) (dC (.int 1))))) (sSeq (sSetIx 0 (dC (.int 1)) (dBin gMod (dCB gInt (dCons (dDat (dBin gAdd (dBin gMulB (dIxO 0 (dC (.int 1))) (dC (.int 16741))) (dC (.int 137)))) dNil)) (dC (.int 2147482697))))
  (sSeq (sSet 2 (dDat (dBin gAdd (dBin gMulB (dVar 2) (dC (.int 8192))) (dBin gMod (dCB gInt (dCons (dDat (dBin gDiv (dIxO 0 (dC (.int 1))) (dC (.int 65729)))) dNil)) (dC (.int 8192))))))
  (sSet 3 (dDat (dBin gMulB (dVar 3) (dC (.int 8192))))))))
  (sRet (dDat (dBin gMod (dCB gInt (dCons (dDat (dVar 2)) dNil)) (dVar 1)))))))
def S_l_take : DF := fun ss T Q _ => ∃ (k : Nat) (n : Int), ss = [.ob k, .dat (.int n)] ∧ Cart T k ∧ 0 < n ∧ n ≤ 10 ^ 60 ∧ ∀ r T', 0 ≤ r → r < n → CartTo T T' k → Q (.dat (.int r)) T'
theorem h_l_take : ∀ (ss : List Sl) (T : List Ob) (Q : Sl → List Ob → Prop) (QX : Xn → List Ob → Prop), ss.length = 2 → S_l_take ss T Q QX → B_l_take (endsOf T.length Q QX) (startD 4 2 ss T) := by
  intro ss T Q QX hl h
  obtain ⟨k, n, rfl, c, n0, n1, h⟩ := h
  simp only [Int.reducePow] at n1
  have hk := c.lt
  obtain ⟨a, b, e, ok⟩ := c
  unfold B_l_take
  walk_at "dl"
  have eT : T.take T.length = T := List.take_length
  have el : ∀ x : Ob, (T.set k x)[k]? = some x := fun x => List.getElem?_set_self hk
  have et : ∀ x : Ob, (T.set k x).take T.length = T.set k x := fun x => by rw [List.take_of_length_le (by simp)]
  simp only [e, CartV]
  walk_at "dl"
  by_cases q : 0 < a
  · rw [if_pos q]
    refine ⟨n0, cdivW n0 (by omega), ?_⟩
    rw [et]
    refine h _ _ (Int.emod_nonneg _ (by omega)) (Int.emod_lt_of_pos _ n0) ⟨a / n, b, rfl, ?_⟩
    refine ⟨Int.ediv_nonneg ok.a0 (by omega), ?_, ok.b0, ok.bM⟩
    exact Int.lt_of_le_of_lt (Int.ediv_le_self _ ok.a0) ok.aM
  · rw [if_neg q]
    refine ⟨fun m ρ => ∃ a b f w, ρ = ⟨T.set k (CartV a b), [some (.ob k), some (.dat (.int n)), some (.dat (.int f)), some (.dat (.int w))]⟩ ∧ CartOk a b ∧ 0 ≤ f ∧ f < w ∧ m = (n + 2 - w).toNat, ⟨_, a, b, 0, 1, ?_, ok, by omega, by omega, rfl⟩, ?_⟩
    · congr 1
      obtain ⟨h1, h2⟩ := List.getElem?_eq_some_iff.mp e
      rw [← h2, List.set_getElem_self]
    · rintro m ρ ⟨a, b, f, w, rfl, ok, f0, fw, rfl⟩
      walk_at "dl"
      simp only [el, CartV]
      walk_at "dl"
      have c1 : CMulW b 16741 := cmulW (by have := ok.b0; have := ok.bM; omega) (by decide)
      have d1 : CDivW ((b * 16741 + 137) % 2147482697) 65729 := cdivW (by decide) (by decide)
      have go : (w < n ∨ w = 1) → CMulW b 16741 ∧ CMulW f 8192 ∧ CDivW ((b * 16741 + 137) % 2147482697) 65729 ∧ CMulW w 8192 ∧ ∃ m', m' < (n + 2 - w).toNat ∧ ∃ a_1 b_1 f_1 w_1, (⟨T.set k (.lst [.int a, .int ((b * 16741 + 137) % 2147482697)]), [some (.ob k), some (.dat (.int n)), some (.dat (.int (f * 8192 + (b * 16741 + 137) % 2147482697 / 65729 % 8192))), some (.dat (.int (w * 8192)))]⟩ : Env) = ⟨T.set k (.lst [.int a_1, .int b_1]), [some (.ob k), some (.dat (.int n)), some (.dat (.int f_1)), some (.dat (.int w_1))]⟩ ∧ CartOk a_1 b_1 ∧ 0 ≤ f_1 ∧ f_1 < w_1 ∧ m' = (n + 2 - w_1).toNat := by
        intro hw
        refine ⟨c1, cmulW (by omega) (by decide), d1, cmulW (by omega) (by decide), _, ?_, _, _, _, _, rfl, ⟨ok.a0, ok.aM, by omega, by omega⟩, by omega, by omega, rfl⟩
        omega
      have done : 0 < n ∧ Q (.dat (.int (f % n))) (T.set k (.lst [.int a, .int b])) := ⟨n0, h _ _ (Int.emod_nonneg _ (by omega)) (Int.emod_lt_of_pos _ n0) ⟨a, b, rfl, ok⟩⟩
      by_cases q1 : w < n
      · rw [if_pos q1]
        have := go (.inl q1)
        exact this
      · rw [if_neg q1]
        by_cases q2 : w = 1
        · rw [if_pos (by simpa using q2)]
          exact go (.inr q2)
        · rw [if_neg (by simpa using q2), et]
          exact done
end DL
set_option Elab.async false
set_option linter.all false
set_option maxRecDepth 100000
set_option maxHeartbeats 4000000
set_option autoImplicit false
/-! The law's defs at data level: drills and rooms drawn. -/
namespace DL
open PySem PySem.Spec PyProof.Rows L2
local macro_rules | `(tactic| walk_at "dl") => `(tactic| (try simp only [sSeq, sSet, sRet, sRetN, sIf, sNil, sDrop, sFor, sTo, sPar2, sPar3, sNever, sRaise, sSetIx, dVar, dC, dVarL, dDat, dVal, valK_dat, valK_ob, dBin, dUn, dNil, dCons, dats, dTup, dLst, dNew, dNewOf, dTest, dtAnd, dtOr, dtNot, dAnd, dOr, dNot, dIf, dChain, dCB, dSl, dNo, dSo, sApp, dIxO, dLenO, dMaxD, dGetP, dCall, dSeq, dRng1, dRng2, dZip, dEnum, gNm, gTp, gCs, gNl, dYes,
  startD, endsOf, retD, wipeS, gAdd, gSub, gMul, gMulA, gMulB, gDiv, gMod, gPow, gNeg, gLt, gLe, gGt, gGe, gEq, gNe, gIn, gIx, gSl, gIsi, tyD, isiD, gLen, gAbs, gInt, gMax2, gMin2, gTuple, gList, gIsN, isNon, gIsB, gNotB,
  List.getElem?_cons_zero, List.getElem?_cons_succ, List.getElem?_nil, List.set_cons_zero, List.set_cons_succ, List.map_cons, List.map_nil, List.cons_append, List.nil_append, List.length_cons, List.length_nil, List.replicate_succ, List.replicate_zero, Option.map_some, Nat.reduceSub, Nat.reduceAdd, Nat.reduceLeDiff,
  List.take_length, beq_self_eq_true, String.reduceBEq, Bool.or_true, Bool.true_or, Bool.or_false, Bool.false_or, Bool.and_true, Bool.and_false, Bool.true_and, Bool.false_and, Bool.or_self, Bool.and_self, decide_true, decide_false, dmem, List.any_cons, List.any_nil, okd_non, okd_bl, okd_int, okd_str, okds_nil, okds_cons, okd_60t, okd_59t, okd_58t, okd_60l, okd_59l, okd_58l, st_tk, st_tb, st_tf, st_kt, st_kb, st_kf, st_bt, st_bk, st_bf, st_ft, st_fk, st_fb, nat_num, Int.reduceBEq, Int.reduceBNe, Int.reduceEq, Int.reduceLT, Int.reduceLE, Int.reduceAdd, Int.reduceSub, Int.reduceMul, Int.reduceNeg, Int.reduceToNat, Int.reducePow, atI_0, atI_1, atI_2, set_last, get_last, take_last, deq_str, deq_int, deq_non, deq_bl, deq_tt, deq_ll, deqs_nn, deqs_cc, deqs_nc, deqs_cn, Nat.lt_irrefl, List.set_set, ixN_20, ixN_21, tupI, okds_ints, atI_map', List.length_map, cutL_map, eq_self, if_true, if_false, ite_true, ite_false, Bool.false_eq_true, decide_eq_true_eq, true_and, and_true, and_self, Bool.not_true, Bool.not_false, true_or, or_true, false_or, or_false, Option.some.injEq, reduceCtorEq]))
/-- slots: 0 _law_cart, 1 _law_things -/
def B_l_any : DS :=
  (sRet (dDat (dBin gIx (dVar 1) (dVal (dCall 2 S_l_take (dCons (dVarL 0) (dCons (dDat (dCB gLen (dCons (dDat (dVar 1)) dNil))) dNil)))))))
def S_l_any : DF := fun ss T Q _ => ∃ (k : Nat) (d : D) (ds : List D), ss = [.ob k, .dat d] ∧ (d = .lst ds ∨ d = .tup ds) ∧ Cart T k ∧ 0 < ds.length ∧ ds.length ≤ 1000 ∧ ∀ x T', x ∈ ds → CartTo T T' k → Q (.dat x) T'
theorem h_l_any : ∀ (ss : List Sl) (T : List Ob) (Q : Sl → List Ob → Prop) (QX : Xn → List Ob → Prop), ss.length = 2 → S_l_any ss T Q QX → B_l_any (endsOf T.length Q QX) (startD 2 2 ss T) := by
  intro ss T Q QX hl h
  obtain ⟨k, d, ds, rfl, hd, c, l0, l1, h⟩ := h
  unfold B_l_any
  rcases hd with rfl | rfl
  all_goals
    walk_at "dl"
    refine ⟨k, ds.length, rfl, c, by omega, by simp only [Int.reducePow]; omega, fun r T' r0 r1 ct => ?_⟩
    walk_at "dl"
    rw [atI_some r0 r1, take_len ct.len]
    exact h _ _ (List.getElem_mem _) ct
/-- slots: 0 _law_cart, 1 _law_wide, 2 _law_word, 3 _law_most -/
def B_l_deed : DS :=
  (sSeq (sPar2 2 3 (dDat (dVal (dCall 2 S_l_any (dCons (dVarL 0) (dCons (dDat (dLst (dCons (dDat (dC (.str "to"))) (dCons (dDat (dC (.str "back"))) (dCons (dDat (dC (.str "back"))) (dCons (dDat (dC (.str "front"))) (dCons (dDat (dC (.str "front"))) (dCons (dDat (dC (.str "bark"))) dNil)))))))) dNil))))) (dDat (dVal (dCall 2 S_l_any (dCons (dVarL 0) (dCons (dDat (dLst (dCons (dDat (dC (.int 3))) (dCons (dDat (dC (.int 3))) (dCons (dDat (dVar 1)) dNil))))) dNil))))))
  (sSeq (sIf (dTest (dBin gEq (dVar 2) (dC (.str "to")))) (sRet (dDat (dTup (dCons (dDat (dVar 2)) (dCons (dDat (dVal (dCall 2 S_l_take (dCons (dVarL 0) (dCons (dDat (dBin gAdd (dVar 3) (dC (.int 1)))) dNil))))) dNil))))) sNil)
  (sSeq (sIf (dTest (dBin gEq (dVar 2) (dC (.str "bark")))) (sRet (dDat (dTup (dCons (dDat (dVar 2)) (dCons (dDat (dBin gAdd (dC (.int 1)) (dVal (dCall 2 S_l_take (dCons (dVarL 0) (dCons (dDat (dVar 3)) dNil)))))) dNil))))) sNil)
  (sRet (dDat (dTup (dCons (dDat (dVar 2)) (dCons (dDat (dVal (dCall 2 S_l_any (dCons (dVarL 0) (dCons (dDat (dLst (dCons (dDat (dC (.int 0))) (dCons (dDat (dC (.int 0))) (dCons (dDat (dC (.int 1))) (dCons (dDat (dC (.int 1))) (dCons (dDat (dC (.int 2))) (dCons (dDat (dC (.int 3))) dNil)))))))) dNil))))) (dCons (dDat (dBin gAdd (dC (.int 1)) (dVal (dCall 2 S_l_take (dCons (dVarL 0) (dCons (dDat (dVar 3)) dNil)))))) dNil)))))))))
def S_l_deed : DF := fun ss T Q _ => ∃ (k : Nat) (w : Int), ss = [.ob k, .dat (.int w)] ∧ Cart T k ∧ 1 ≤ w ∧ w ≤ 1000000000000 ∧ ∀ (r : Rn) T', r.ok → CartTo T T' k → Q (.dat r.d) T'
theorem h_l_deed : ∀ (ss : List Sl) (T : List Ob) (Q : Sl → List Ob → Prop) (QX : Xn → List Ob → Prop), ss.length = 2 → S_l_deed ss T Q QX → B_l_deed (endsOf T.length Q QX) (startD 4 2 ss T) := by
  intro ss T Q QX hl h
  obtain ⟨k, w, rfl, c, w0, w1, h⟩ := h
  unfold B_l_deed
  walk_at "dl"
  refine ⟨k, _, _, rfl, .inl rfl, c, by decide, by decide, fun x T1 hx c1 => ?_⟩
  have k1 := c1.cart c
  walk_at "dl"
  refine ⟨k, _, _, rfl, .inl rfl, k1, by simp, by simp, fun y T2 hy c2 => ?_⟩
  have k2 := c2.cart k1
  obtain ⟨m, rfl, m1, m2⟩ : ∃ m : Int, y = .int m ∧ 1 ≤ m ∧ m ≤ 1000000000000 := by
    simp only [List.mem_cons, List.not_mem_nil, or_false] at hy
    rcases hy with rfl | rfl | rfl
    · exact ⟨3, rfl, by decide, by decide⟩
    · exact ⟨3, rfl, by decide, by decide⟩
    · exact ⟨w, rfl, w0, w1⟩
  have c12 := c1.trans c2
  simp only [List.mem_cons, List.not_mem_nil, or_false] at hx
  rcases hx with rfl | rfl | rfl | rfl | rfl | rfl
  all_goals walk_at "dl"
  · refine ⟨k, _, rfl, k2, by omega, by simp only [Int.reducePow]; omega, fun s T4 s0 s1 c4 => ?_⟩
    walk_at "dl"
    rw [take_len (c12.trans c4).len]
    exact h (.to s) T4 ⟨s0, by omega⟩ (c12.trans c4)
  · refine ⟨k, _, _, rfl, .inl rfl, k2, by decide, by decide, fun z T3 hz c3 => ?_⟩
    obtain ⟨n, rfl, n1, n3⟩ : ∃ n : Int, z = .int n ∧ 0 ≤ n ∧ n ≤ 3 := by
      simp only [List.mem_cons, List.not_mem_nil, or_false] at hz
      rcases hz with rfl | rfl | rfl | rfl | rfl | rfl
      all_goals exact ⟨_, rfl, by decide, by decide⟩
    walk_at "dl"
    refine ⟨k, m, rfl, c3.cart k2, by omega, by simp only [Int.reducePow]; omega, fun s T4 s0 s1 c4 => ?_⟩
    walk_at "dl"
    rw [take_len ((c12.trans c3).trans c4).len]
    exact h (.back n (1 + s)) T4 ⟨⟨n1, n3⟩, by omega, by omega⟩ ((c12.trans c3).trans c4)
  · refine ⟨k, _, _, rfl, .inl rfl, k2, by decide, by decide, fun z T3 hz c3 => ?_⟩
    obtain ⟨n, rfl, n1, n3⟩ : ∃ n : Int, z = .int n ∧ 0 ≤ n ∧ n ≤ 3 := by
      simp only [List.mem_cons, List.not_mem_nil, or_false] at hz
      rcases hz with rfl | rfl | rfl | rfl | rfl | rfl
      all_goals exact ⟨_, rfl, by decide, by decide⟩
    walk_at "dl"
    refine ⟨k, m, rfl, c3.cart k2, by omega, by simp only [Int.reducePow]; omega, fun s T4 s0 s1 c4 => ?_⟩
    walk_at "dl"
    rw [take_len ((c12.trans c3).trans c4).len]
    exact h (.back n (1 + s)) T4 ⟨⟨n1, n3⟩, by omega, by omega⟩ ((c12.trans c3).trans c4)
  · refine ⟨k, _, _, rfl, .inl rfl, k2, by decide, by decide, fun z T3 hz c3 => ?_⟩
    obtain ⟨n, rfl, n1, n3⟩ : ∃ n : Int, z = .int n ∧ 0 ≤ n ∧ n ≤ 3 := by
      simp only [List.mem_cons, List.not_mem_nil, or_false] at hz
      rcases hz with rfl | rfl | rfl | rfl | rfl | rfl
      all_goals exact ⟨_, rfl, by decide, by decide⟩
    walk_at "dl"
    refine ⟨k, m, rfl, c3.cart k2, by omega, by simp only [Int.reducePow]; omega, fun s T4 s0 s1 c4 => ?_⟩
    walk_at "dl"
    rw [take_len ((c12.trans c3).trans c4).len]
    exact h (.front n (1 + s)) T4 ⟨⟨n1, n3⟩, by omega, by omega⟩ ((c12.trans c3).trans c4)
  · refine ⟨k, _, _, rfl, .inl rfl, k2, by decide, by decide, fun z T3 hz c3 => ?_⟩
    obtain ⟨n, rfl, n1, n3⟩ : ∃ n : Int, z = .int n ∧ 0 ≤ n ∧ n ≤ 3 := by
      simp only [List.mem_cons, List.not_mem_nil, or_false] at hz
      rcases hz with rfl | rfl | rfl | rfl | rfl | rfl
      all_goals exact ⟨_, rfl, by decide, by decide⟩
    walk_at "dl"
    refine ⟨k, m, rfl, c3.cart k2, by omega, by simp only [Int.reducePow]; omega, fun s T4 s0 s1 c4 => ?_⟩
    walk_at "dl"
    rw [take_len ((c12.trans c3).trans c4).len]
    exact h (.front n (1 + s)) T4 ⟨⟨n1, n3⟩, by omega, by omega⟩ ((c12.trans c3).trans c4)
  · refine ⟨k, _, rfl, k2, by omega, by simp only [Int.reducePow]; omega, fun s T4 s0 s1 c4 => ?_⟩
    walk_at "dl"
    rw [take_len (c12.trans c4).len]
    exact h (.bark (1 + s)) T4 ⟨by omega, by omega⟩ (c12.trans c4)
/-- slots: 0 _law_cart, 1 _law_most, 2 _law_wide, 3 _law_turn -/
def B_l_deeds : DS :=
  (sRet (dDat (dCB gTuple (dCons (dDat (dComp (dRng1 (dCons (dDat (dVal (dCall 2 S_l_take (dCons (dVarL 0) (dCons (dDat (dBin gAdd (dVar 1) (dC (.int 1)))) dNil))))) dNil)) (gNm 3) dYes (dVal (dCall 2 S_l_deed (dCons (dVarL 0) (dCons (dDat (dVar 2)) dNil)))) [3])) dNil))))
def S_l_deeds : DF := fun ss T Q _ => ∃ (k : Nat) (m w : Int), ss = [.ob k, .dat (.int m), .dat (.int w)] ∧ Cart T k ∧ 0 ≤ m ∧ m ≤ 1000 ∧ 1 ≤ w ∧ w ≤ 1000000000000 ∧ ∀ (rs : List Rn) T', (rs.length : Int) ≤ m → (∀ r ∈ rs, r.ok) → CartTo T T' k → Q (.dat (.tup (rs.map Rn.d))) T'
theorem h_l_deeds : ∀ (ss : List Sl) (T : List Ob) (Q : Sl → List Ob → Prop) (QX : Xn → List Ob → Prop), ss.length = 3 → S_l_deeds ss T Q QX → B_l_deeds (endsOf T.length Q QX) (startD 4 3 ss T) := by
  intro ss T Q QX hl h
  obtain ⟨k, m, w, rfl, c, m0, m1, w0, w1, h⟩ := h
  unfold B_l_deeds
  walk_at "dl"
  rw [dComp_eq]
  walk_at "dl"
  refine ⟨k, _, rfl, c, by omega, by simp only [Int.reducePow]; omega, fun r T1 r0 r1 c1 => ?_⟩
  walk_at "dl"
  have k1 := c1.cart c
  have hk := k1.lt
  refine ⟨by omega, ?_⟩
  have hrl : (rangeD 0 r).length = r.toNat := by rw [rangeD_len]; simp
  refine compK_any (fun ds acc T' => CartTo T T' k ∧ ∃ rs : List Rn, acc = rs.map Rn.d ∧ (∀ r ∈ rs, r.ok) ∧ ds.length + rs.length = r.toNat) [some (.ob k), some (.dat (.int m)), some (.dat (.int w)), none] rfl rfl ?_ ?_ ⟨c1, [], rfl, by simp, by simp [hrl]⟩ ?_ ?_
  · simp [lowS, hk]
  · rw [hrl, sizeLine_eq]
    omega
  · rintro d ds acc T' hl hz ⟨c2, rs, rfl, ok, e⟩ R hR
    walk_at "dl"
    have k2 := c2.cart c
    refine ⟨k, w, rfl, k2.app _, w0, w1, fun x T'' xok c3 => ?_⟩
    obtain ⟨T3, rfl, c4⟩ := c3.unapp k2
    walk_at "dl"
    refine hR (some x.d) T3 _ (c4.len.trans hl) ⟨c2.trans c4, rs ++ [x], by simp, ?_, ?_⟩ rfl
    · intro r hr
      rcases List.mem_append.mp hr with hr | hr
      · exact ok r hr
      · rw [List.mem_singleton.mp hr]
        exact xok
    · simp at e ⊢
      omega
  · rintro acc T' hl ⟨c2, rs, rfl, ok, e⟩
    walk_at "dl"
    rw [take_len c2.len]
    refine h rs T' ?_ ok c2
    simp at e
    omega
/-- slots: 0 _law_cart, 1 _law_most -/
def B_l_work : DS :=
  (sRet (dDat (dTup (dCons (dDat (dBin gAdd (dC (.int 1)) (dVal (dCall 2 S_l_take (dCons (dVarL 0) (dCons (dDat (dC (.int 4))) dNil)))))) (dCons (dDat (dVal (dCall 3 S_l_deeds (dCons (dVarL 0) (dCons (dDat (dVar 1)) (dCons (dDat (dVal (dCall 2 S_l_any (dCons (dVarL 0) (dCons (dDat (dLst (dCons (dDat (dC (.int 6))) (dCons (dDat (dC (.int 12))) (dCons (dDat (dBin gPow (dC (.int 10)) (dC (.int 12)))) dNil))))) dNil))))) dNil)))))) dNil)))))
def S_l_work : DF := fun ss T Q _ => ∃ (k : Nat) (m : Int), ss = [.ob k, .dat (.int m)] ∧ Cart T k ∧ 0 ≤ m ∧ m ≤ 1000 ∧ ∀ (g : Int) (rs : List Rn) T', 1 ≤ g → g ≤ 4 → (rs.length : Int) ≤ m → (∀ r ∈ rs, r.ok) → CartTo T T' k → Q (.dat (drD g rs)) T'
theorem h_l_work : ∀ (ss : List Sl) (T : List Ob) (Q : Sl → List Ob → Prop) (QX : Xn → List Ob → Prop), ss.length = 2 → S_l_work ss T Q QX → B_l_work (endsOf T.length Q QX) (startD 2 2 ss T) := by
  intro ss T Q QX hl h
  obtain ⟨k, m, rfl, c, m0, m1, h⟩ := h
  unfold B_l_work
  walk_at "dl"
  refine ⟨k, _, rfl, c, by omega, by simp only [Int.reducePow]; omega, fun r T1 r0 r1 c1 => ?_⟩
  walk_at "dl"
  have k1 := c1.cart c
  refine ⟨by unfold CPow; decide, k, _, _, rfl, .inl rfl, k1, by simp, by simp, fun x T2 hx c2 => ?_⟩
  have k2 := c2.cart k1
  obtain ⟨w, rfl, w0, w1⟩ : ∃ n : Int, x = .int n ∧ 1 ≤ n ∧ n ≤ 1000000000000 := by
    simp only [List.mem_cons, List.not_mem_nil, or_false] at hx
    rcases hx with rfl | rfl | rfl
    all_goals exact ⟨_, rfl, by decide, by decide⟩
  walk_at "dl"
  refine ⟨k, m, w, rfl, k2, m0, m1, w0, w1, fun rs T3 hr ok c3 => ?_⟩
  walk_at "dl"
  rw [take_len ((c1.trans c2).trans c3).len]
  exact h (1 + r) rs T3 (by omega) (by omega) hr ok ((c1.trans c2).trans c3)
/-- the places of rooms -/
def atL (g : Int) : Nat → List Int → List Int
  | _, [] => []
  | i, x :: r => (x + (i : Int) * g) :: atL g (i + 1) r
theorem atL_len (g : Int) : ∀ (xs : List Int) (i : Nat), (atL g i xs).length = xs.length
  | [], _ => rfl
  | _ :: r, i => congrArg (· + 1) (atL_len g r (i + 1))
def atD (g : Int) (d : D) : Option D := match d with
  | .tup [.int i, .int x] => some (.int (x + i * g))
  | _ => none
theorem atD_enum (g : Int) : ∀ (xs : List Int) (i : Nat), (enumD i (xs.map .int)).filterMap (atD g) = (atL g i xs).map .int
  | [], _ => rfl
  | x :: r, i => by
    show (D.tup [.int i, .int x] :: enumD (i + 1) (r.map .int)).filterMap (atD g) = _
    rw [List.filterMap_cons, atD_enum g r (i + 1)]
    rfl
theorem enum_mem : ∀ (xs : List Int) (n : Nat) (d : D), d ∈ enumD n (xs.map .int) → ∃ (i : Nat) (x : Int), d = .tup [.int i, .int x] ∧ i < n + xs.length
  | [], _, d, h => by simp [enumD] at h
  | x :: xs, n, d, h => by
    rcases List.mem_cons.mp h with rfl | h
    · exact ⟨n, x, rfl, by simp⟩
    · obtain ⟨i, y, e, l⟩ := enum_mem xs (n + 1) d h
      exact ⟨i, y, e, by simp at l ⊢; omega⟩
/-- slots: 0 _law_gap, 1 _law_rooms_here, 2 _law_at_here, 3 _law_room -/
def B_l_at : DS :=
  (sRet (dDat (dCB gTuple (dCons (dDat (dComp (dEnum (dCons (dDat (dVar 1)) dNil)) (gTp 2 (gCs (gNm 2) (gCs (gNm 3) gNl))) dYes (dBin gAdd (dVar 3) (dBin gMulB (dVar 2) (dVar 0))) [2, 3])) dNil))))
def S_l_at : DF := fun ss T Q _ => ∃ (g : Int) (xs : List Int), ss = [.dat (.int g), .dat (tupI xs)] ∧ g.natAbs < 2 ^ 200 ∧ xs.length ≤ 1000 ∧ Q (.dat (tupI (atL g 0 xs))) T
theorem h_l_at : ∀ (ss : List Sl) (T : List Ob) (Q : Sl → List Ob → Prop) (QX : Xn → List Ob → Prop), ss.length = 2 → S_l_at ss T Q QX → B_l_at (endsOf T.length Q QX) (startD 4 2 ss T) := by
  intro ss T Q QX hl h
  obtain ⟨g, xs, rfl, hg, hx, h⟩ := h
  unfold B_l_at
  walk_at "dl"
  rw [dComp_eq]
  walk_at "dl"
  refine compK_pure (atD g) [some (.dat (.int g)), some (.dat (tupI xs)), none, none] rfl rfl rfl (by rw [enumD_len, List.length_map, sizeLine_eq]; omega) ?_ ?_
  · intro d hd acc R hR
    obtain ⟨i, x, rfl, hi⟩ := enum_mem _ _ _ hd
    walk_at "dl"
    exact ⟨cmulW (by omega) (by omega), hR _ rfl⟩
  · walk_at "dl"
    rw [atD_enum]
    exact h
end DL
set_option Elab.async false
set_option linter.all false
set_option maxRecDepth 100000
set_option maxHeartbeats 4000000
set_option autoImplicit false
/-! The law's defs at data level: rooms, closing up, driving; what driving keeps. -/
namespace DL
open PySem PySem.Spec PyProof.Rows L2
local macro_rules | `(tactic| walk_at "dl") => `(tactic| (try simp only [sSeq, sSet, sRet, sRetN, sIf, sNil, sDrop, sFor, sTo, sPar2, sPar3, sNever, sRaise, sSetIx, dVar, dC, dVarL, dDat, dVal, valK_dat, valK_ob, dBin, dUn, dNil, dCons, dats, dTup, dLst, dNew, dNewOf, dTest, dtAnd, dtOr, dtNot, dAnd, dOr, dNot, dIf, dChain, dCB, dSl, dNo, dSo, sApp, dIxO, dLenO, dMaxD, dGetP, dCall, dSeq, dRng1, dRng2, dZip, dEnum, gNm, gTp, gCs, gNl, dYes,
  startD, endsOf, retD, wipeS, gAdd, gSub, gMul, gMulA, gMulB, gDiv, gMod, gPow, gNeg, gLt, gLe, gGt, gGe, gEq, gNe, gIn, gIx, gSl, gIsi, tyD, isiD, gLen, gAbs, gInt, gMax2, gMin2, gTuple, gList, gIsN, isNon, gIsB, gNotB,
  List.getElem?_cons_zero, List.getElem?_cons_succ, List.getElem?_nil, List.set_cons_zero, List.set_cons_succ, List.map_cons, List.map_nil, List.cons_append, List.nil_append, List.length_cons, List.length_nil, List.replicate_succ, List.replicate_zero, Option.map_some, Nat.reduceSub, Nat.reduceAdd, Nat.reduceLeDiff,
  List.take_length, beq_self_eq_true, String.reduceBEq, Bool.or_true, Bool.true_or, Bool.or_false, Bool.false_or, Bool.and_true, Bool.and_false, Bool.true_and, Bool.false_and, Bool.or_self, Bool.and_self, decide_true, decide_false, dmem, List.any_cons, List.any_nil, okd_non, okd_bl, okd_int, okd_str, okds_nil, okds_cons, okd_60t, okd_59t, okd_58t, okd_60l, okd_59l, okd_58l, st_tk, st_tb, st_tf, st_kt, st_kb, st_kf, st_bt, st_bk, st_bf, st_ft, st_fk, st_fb, nat_num, Int.reduceBEq, Int.reduceBNe, Int.reduceEq, Int.reduceLT, Int.reduceLE, Int.reduceAdd, Int.reduceSub, Int.reduceMul, Int.reduceNeg, Int.reduceToNat, Int.reducePow, atI_0, atI_1, atI_2, set_last, get_last, take_last, deq_str, deq_int, deq_non, deq_bl, deq_tt, deq_ll, deqs_nn, deqs_cc, deqs_nc, deqs_cn, Nat.lt_irrefl, List.set_set, ixN_20, ixN_21, tupI, okds_ints, atI_map', List.length_map, cutL_map, eq_self, if_true, if_false, ite_true, ite_false, Bool.false_eq_true, decide_eq_true_eq, true_and, and_true, and_self, Bool.not_true, Bool.not_false, true_or, or_true, false_or, or_false, Option.some.injEq, reduceCtorEq]))
theorem spaced_snoc (g : Int) : ∀ (A : List Int) (v w : Int), spaced g (A ++ [v, w]) = (spaced g (A ++ [v]) && decide (v + g ≤ w))
  | [], v, w => by simp [spaced]
  | [a], v, w => by simp [spaced]
  | a :: b :: A, v, w => by
    have ih := spaced_snoc g (b :: A) v w
    simp only [List.cons_append] at ih
    simp only [List.cons_append, spaced, ih, Bool.and_assoc]
theorem spaced_init (g : Int) : ∀ (A B : List Int), spaced g (A ++ B) = true → spaced g A = true
  | [], _, _ => rfl
  | [a], _, _ => rfl
  | a :: b :: A, B, h => by
    simp only [List.cons_append, spaced, Bool.and_eq_true] at h ⊢
    exact ⟨h.1, spaced_init g (b :: A) B (by simpa using h.2)⟩
theorem spaced_tail (g : Int) : ∀ (A B : List Int), spaced g (A ++ B) = true → spaced g B = true
  | [], _, h => h
  | [a], [], _ => rfl
  | [a], b :: B, h => by
    simp only [List.cons_append, List.nil_append, spaced, Bool.and_eq_true] at h
    exact h.2
  | a :: b :: A, B, h => by
    simp only [List.cons_append, spaced, Bool.and_eq_true] at h
    exact spaced_tail g (b :: A) B (by simpa using h.2)
theorem spaced_join (g : Int) : ∀ (A : List Int) (x : Int) (B : List Int), spaced g (A ++ [x]) = true → spaced g (x :: B) = true → spaced g (A ++ x :: B) = true
  | [], x, B, _, h => h
  | [a], x, B, h1, h => by
    simp only [List.cons_append, List.nil_append, spaced, Bool.and_eq_true] at h1 ⊢
    exact ⟨h1.1, h⟩
  | a :: b :: A, x, B, h1, h => by
    simp only [List.cons_append, spaced, Bool.and_eq_true] at h1 ⊢
    exact ⟨h1.1, by simpa using spaced_join g (b :: A) x B (by simpa using h1.2) h⟩
theorem spaced_more (g : Int) : ∀ (A : List Int) (x y : Int), spaced g (A ++ [x]) = true → x ≤ y → spaced g (A ++ [y]) = true
  | [], _, _, _, _ => rfl
  | [a], x, y, h, l => by
    simp only [List.cons_append, List.nil_append, spaced, Bool.and_eq_true, decide_eq_true_eq] at h ⊢
    exact ⟨by omega, trivial⟩
  | a :: b :: A, x, y, h, l => by
    simp only [List.cons_append, spaced, Bool.and_eq_true] at h ⊢
    exact ⟨h.1, by simpa using spaced_more g (b :: A) x y (by simpa using h.2) l⟩
theorem clo_spaced (g : Int) : ∀ (r : List Int) (p : Int), spaced g (p :: clo g p r) = true
  | [], _ => rfl
  | x :: r, p => by
    simp only [clo, spaced, Bool.and_eq_true, decide_eq_true_eq]
    exact ⟨by split <;> omega, clo_spaced g r _⟩
theorem clo_id (g : Int) : ∀ (r : List Int) (p : Int), spaced g (p :: r) = true → clo g p r = r
  | [], _, _ => rfl
  | x :: r, p, h => by
    simp only [spaced, Bool.and_eq_true, decide_eq_true_eq] at h
    have e : (if p + g > x then p + g else x) = x := by split <;> omega
    simp only [clo, e, clo_id g r x h.2]
def closedL (g : Int) : List Int → List Int
  | [] => []
  | x :: r => x :: clo g x r
theorem closed_id {g : Int} : ∀ {xs : List Int}, spaced g xs = true → closedL g xs = xs
  | [], _ => rfl
  | x :: r, h => by simp only [closedL, clo_id g r x h]
theorem closed_len (g : Int) : ∀ xs : List Int, (closedL g xs).length = xs.length
  | [] => rfl
  | x :: r => by simp [closedL, clo_len]
theorem clo_app (g : Int) : ∀ (A : List Int) (p x y : Int) (r : List Int), spaced g (p :: A ++ [x]) = true → x ≤ y → clo g p (A ++ y :: r) = A ++ y :: clo g y r
  | [], p, x, y, r, h, l => by
    simp only [List.cons_append, List.nil_append, spaced, Bool.and_eq_true, decide_eq_true_eq] at h
    have e : (if p + g > y then p + g else y) = y := by split <;> omega
    simp only [List.nil_append, clo, e]
  | a :: A, p, x, y, r, h, l => by
    simp only [List.cons_append, spaced, Bool.and_eq_true, decide_eq_true_eq] at h
    have e : (if p + g > a then p + g else a) = a := by split <;> omega
    simp only [List.cons_append, clo, e, clo_app g A a x y r (by simpa using h.2) l]
theorem closed_app {g : Int} {A : List Int} {x y : Int} {r : List Int} (h : spaced g (A ++ [x]) = true) (l : x ≤ y) : closedL g (A ++ y :: r) = A ++ y :: clo g y r := by
  cases A with
  | nil => rfl
  | cons a A => simp only [List.cons_append, closedL, clo_app g A a x y r (by simpa using h) l]
theorem spaced_map (g s : Int) : ∀ xs : List Int, spaced g (xs.map (· + s)) = spaced g xs
  | [] => rfl
  | [x] => rfl
  | x :: y :: r => by
    have ih := spaced_map g s (y :: r)
    simp only [List.map_cons] at ih
    simp only [List.map_cons, spaced, ih]
    congr 1
    rw [Bool.eq_iff_iff]
    simp
    omega
theorem pushed_spaced {g s : Int} {xs : List Int} (i : Nat) (h : spaced g xs = true) (hs : 0 ≤ s) : spaced g (pushedL g xs i s) = true := by
  by_cases q : i < xs.length
  · obtain ⟨A, x, r, rfl, rfl⟩ := split_at q
    rw [pushedL_at]
    have h1 : spaced g (A ++ [x]) = true := spaced_init g (A ++ [x]) r (by simpa using h)
    exact spaced_join g A _ _ (spaced_more g A x _ h1 (by omega)) (clo_spaced g r _)
  · unfold pushedL
    rw [List.drop_eq_nil_of_le (by omega), List.take_of_length_le (by omega)]
    simpa using h
theorem ran_spaced {g : Int} {xs : List Int} {r : Rn} (h : spaced g xs = true) (ok : r.ok) : spaced g (ranL g xs r) = true := by
  cases r with
  | to p =>
    simp only [ranL]
    refine pushed_spaced 0 h ?_
    split <;> omega
  | bark s => simp only [ranL, spaced_map, h]
  | back n s =>
    simp only [ranL]
    split
    · exact pushed_spaced _ h (by have := ok.2.1; omega)
    · exact h
  | front n s =>
    simp only [ranL]
    split
    · exact pushed_spaced _ h (by have := ok.2.1; omega)
    · exact h
/-- place by place not less -/
def leL : List Int → List Int → Prop
  | [], [] => True
  | x :: r, y :: s => x ≤ y ∧ leL r s
  | _, _ => False
theorem leL_refl : ∀ xs : List Int, leL xs xs
  | [] => trivial
  | x :: r => ⟨Int.le_refl x, leL_refl r⟩
theorem leL_app : ∀ (A : List Int) {B C : List Int}, leL B C → leL (A ++ B) (A ++ C)
  | [], _, _, h => h
  | a :: A, _, _, h => ⟨Int.le_refl a, leL_app A h⟩
theorem leL_clo (g : Int) : ∀ (r : List Int) (p : Int), leL r (clo g p r)
  | [], _ => trivial
  | x :: r, p => ⟨by split <;> omega, leL_clo g r _⟩
theorem leL_pushed {g s : Int} {xs : List Int} (i : Nat) (hs : 0 ≤ s) : leL xs (pushedL g xs i s) := by
  by_cases q : i < xs.length
  · obtain ⟨A, x, r, rfl, rfl⟩ := split_at q
    rw [pushedL_at]
    exact leL_app A ⟨by omega, leL_clo g r _⟩
  · unfold pushedL
    rw [List.drop_eq_nil_of_le (by omega), List.take_of_length_le (by omega), List.append_nil]
    exact leL_refl xs
theorem leL_map {s : Int} (hs : 0 ≤ s) : ∀ xs : List Int, leL xs (xs.map (· + s))
  | [] => trivial
  | x :: r => ⟨by show x ≤ x + s; omega, leL_map hs r⟩
theorem leL_ran {g : Int} {xs : List Int} {r : Rn} (ok : r.ok) : leL xs (ranL g xs r) := by
  cases r with
  | to p =>
    simp only [ranL]
    refine leL_pushed 0 ?_
    split <;> omega
  | bark s => exact leL_map (by have := ok.1; omega) xs
  | back n s =>
    simp only [ranL]
    split
    · exact leL_pushed _ (by have := ok.2.1; omega)
    · exact leL_refl xs
  | front n s =>
    simp only [ranL]
    split
    · exact leL_pushed _ (by have := ok.2.1; omega)
    · exact leL_refl xs
theorem leL_at : ∀ {xs ys : List Int} (i : Nat), leL xs ys → ∀ {a b : Int}, xs[i]? = some a → ys[i]? = some b → a ≤ b
  | [], [], _, _, _, _, h, _ => by simp at h
  | x :: r, y :: s, 0, h, a, b, h1, h2 => by
    have e1 := Option.some.inj h1
    have e2 := Option.some.inj h2
    rw [← e1, ← e2]
    exact h.1
  | x :: r, y :: s, i + 1, h, a, b, h1, h2 => leL_at (xs := r) (ys := s) i h.2 h1 h2
theorem leL_len : ∀ {xs ys : List Int}, leL xs ys → xs.length = ys.length
  | [], [], _ => rfl
  | x :: r, y :: s, h => congrArg (· + 1) (leL_len h.2)
/-- slots: 0 _law_gap, 1 _law_places, 2 _law_found, 3 _law_place -/
def B_l_closed : DS :=
  (sSeq (sSet 2 (dDat (dTup dNil)))
  (sSeq (sFor (dSeq (dVar 1)) (gNm 3) (sSeq (sIf (dtAnd (dTest (dBin gNe (dVar 2) (dTup dNil))) (dTest (dBin gLt (dVar 3) (dBin gAdd (dBin gIx (dVar 2) (dUn gNeg (dC (.int 1)))) (dVar 0))))) (sSet 3 (dDat (dBin gAdd (dBin gIx (dVar 2) (dUn gNeg (dC (.int 1)))) (dVar 0)))) sNil)
  (sSet 2 (dDat (dBin gAdd (dVar 2) (dTup (dCons (dDat (dVar 3)) dNil)))))))
  (sRet (dDat (dVar 2)))))
def S_l_closed : DF := fun ss T Q _ => ∃ (g : Int) (xs : List Int), ss = [.dat (.int g), .dat (tupI xs)] ∧ xs.length ≤ 1000 ∧ Q (.dat (tupI (closedL g xs))) T
theorem h_l_closed : ∀ (ss : List Sl) (T : List Ob) (Q : Sl → List Ob → Prop) (QX : Xn → List Ob → Prop), ss.length = 2 → S_l_closed ss T Q QX → B_l_closed (endsOf T.length Q QX) (startD 4 2 ss T) := by
  intro ss T Q QX hl h
  obtain ⟨g, xs, rfl, hx, h⟩ := h
  unfold B_l_closed
  walk_at "dl"
  refine loop_inv (fun ds ρ => ∃ (done rest : List Int) (v : Option Sl), ρ = ⟨T, [some (.dat (.int g)), some (.dat (.tup (xs.map .int))), some (.dat (.tup (done.map .int))), v]⟩ ∧ ds = rest.map .int ∧ ((done = [] ∧ rest = xs) ∨ ∃ P p, done = P ++ [p] ∧ P ++ p :: clo g p rest = closedL g xs)) ?_ ?_ _ _ ?_
  · rintro d ds ρ ⟨done, rest, v, rfl, e, hc⟩ N hN
    cases rest with
    | nil => cases e
    | cons x rest =>
      cases e
      rcases hc with ⟨rfl, hc⟩ | ⟨P, p, rfl, hc⟩
      · walk_at "dl"
        refine ⟨by decide, hN _ ⟨[x], rest, some (.dat (.int x)), rfl, rfl, .inr ⟨[], x, rfl, ?_⟩⟩⟩
        rw [← hc]
        rfl
      · have hn : deqs (List.map D.int (P ++ [p])) [] = false := by
          rw [deqs_nil_iff]
          simp
        have hlen := congrArg List.length hc
        simp only [List.length_append, List.length_cons, clo_len, closed_len] at hlen
        walk_at "dl"
        rw [hn]
        walk_at "dl"
        rw [atI_last]
        walk_at "dl"
        by_cases q : x < p + g
        · rw [if_pos q]
          refine ⟨by rw [List.length_append, sizeLine_eq]; simp; omega, hN _ ⟨(P ++ [p]) ++ [p + g], rest, some (.dat (.int (p + g))), by simp, rfl, .inr ⟨P ++ [p], p + g, rfl, ?_⟩⟩⟩
          rw [← hc]
          simp only [clo, if_pos (show p + g > x by omega)]
          simp
        · rw [if_neg q]
          refine ⟨by rw [List.length_append, sizeLine_eq]; simp; omega, hN _ ⟨(P ++ [p]) ++ [x], rest, some (.dat (.int x)), by simp, rfl, .inr ⟨P ++ [p], x, rfl, ?_⟩⟩⟩
          rw [← hc]
          simp only [clo, if_neg (show ¬ (p + g > x) by omega)]
          simp
  · rintro ρ ⟨done, rest, v, rfl, e, hc⟩
    have hr : rest = [] := by
      cases rest with
      | nil => rfl
      | cons y rest => cases e
    subst hr
    walk_at "dl"
    rcases hc with ⟨rfl, hc⟩ | ⟨P, p, rfl, hc⟩
    · rw [← hc] at h
      exact h
    · rw [← hc] at h
      exact h
  · exact ⟨[], xs, none, rfl, rfl, .inl ⟨rfl, rfl⟩⟩
end DL
set_option Elab.async false
set_option linter.all false
set_option maxRecDepth 100000
set_option maxHeartbeats 4000000
set_option autoImplicit false
/-! The word of an error that a lambda ends with. -/
namespace DL
open PySem PySem.Spec PyProof.Rows L2 TL
local macro_rules | `(tactic| walk_at "dl") => `(tactic| (try simp only [sSeq, sSet, sRet, sRetN, sIf, sNil, sDrop, sFor, sTo, sPar2, sPar3, sNever, sRaise, sSetIx, dVar, dC, dVarL, dDat, dVal, valK_dat, valK_ob, dBin, dUn, dNil, dCons, dats, dTup, dLst, dNew, dNewOf, dTest, dtAnd, dtOr, dtNot, dAnd, dOr, dNot, dIf, dChain, dCB, dSl, dNo, dSo, sApp, dIxO, dLenO, dMaxD, dGetP, dCall, dSeq, dRng1, dRng2, dZip, dEnum, gNm, gTp, gCs, gNl, dYes,
  startD, endsOf, retD, wipeS, gAdd, gSub, gMul, gMulA, gMulB, gDiv, gMod, gPow, gNeg, gLt, gLe, gGt, gGe, gEq, gNe, gIn, gIx, gSl, gIsi, tyD, isiD, gLen, gAbs, gInt, gMax2, gMin2, gTuple, gList, gIsN, isNon, gIsB, gNotB,
  List.getElem?_cons_zero, List.getElem?_cons_succ, List.getElem?_nil, List.set_cons_zero, List.set_cons_succ, List.map_cons, List.map_nil, List.cons_append, List.nil_append, List.length_cons, List.length_nil, List.replicate_succ, List.replicate_zero, Option.map_some, Nat.reduceSub, Nat.reduceAdd, Nat.reduceLeDiff,
  List.take_length, beq_self_eq_true, String.reduceBEq, Bool.or_true, Bool.true_or, Bool.or_false, Bool.false_or, Bool.and_true, Bool.and_false, Bool.true_and, Bool.false_and, Bool.or_self, Bool.and_self, decide_true, decide_false, dmem, List.any_cons, List.any_nil, okd_non, okd_bl, okd_int, okd_str, okds_nil, okds_cons, okd_60t, okd_59t, okd_58t, okd_60l, okd_59l, okd_58l, st_tk, st_tb, st_tf, st_kt, st_kb, st_kf, st_bt, st_bk, st_bf, st_ft, st_fk, st_fb, nat_num, Int.reduceBEq, Int.reduceBNe, Int.reduceEq, Int.reduceLT, Int.reduceLE, Int.reduceAdd, Int.reduceSub, Int.reduceMul, Int.reduceNeg, Int.reduceToNat, Int.reducePow, atI_0, atI_1, atI_2, set_last, get_last, take_last, deq_str, deq_int, deq_non, deq_bl, deq_tt, deq_ll, deqs_nn, deqs_cc, deqs_nc, deqs_cn, Nat.lt_irrefl, List.set_set, ixN_20, ixN_21, tupI, okds_ints, atI_map', List.length_map, cutL_map, eq_self, if_true, if_false, ite_true, ite_false, Bool.false_eq_true, decide_eq_true_eq, true_and, and_true, and_self, Bool.not_true, Bool.not_false, true_or, or_true, false_or, or_false, Option.some.injEq, reduceCtorEq]))
def words : List (Str × Str) := [("InvalidDrill", "drill"), ("InvalidBeginning", "beginning"), ("InvalidMany", "many"), ("InvalidSheep", "sheep"), ("InvalidPlace", "place"), ("InvalidRun", "run"), ("InvalidIndex", "index"), ("Unlike", "unlike"), ("NothingToUndo", "undo")]
theorem tl_text (w : String) : (Str.ofString w).length = w.length := by
  rw [len_tl, tl_ofString, List.length_map]
  rfl
theorem num_len {n : Int} (n0 : 0 ≤ n) (n1 : n ≤ 1000000) : (Str.ofString (toString n)).length ≤ 7 := by
  obtain ⟨m, rfl⟩ : ∃ m : Nat, n = m := ⟨n.toNat, by omega⟩
  rw [len_tl, tl_num]
  exact numL_len (by decide) (by omega)
theorem word_fits {n : Int} (n0 : 0 ≤ n) (n1 : n ≤ 1000000) : n.natAbs.log2 < 1920 ∧ 4 + Str.length (toString n) ≤ sizeLine := by
  refine ⟨?_, ?_⟩
  · exact log_lt (by decide) (Nat.lt_of_le_of_lt (show n.natAbs ≤ 2 ^ 20 by omega) (Nat.pow_lt_pow_right (by decide) (by decide)))
  · have := num_len n0 n1
    rw [sizeLine_eq]
    show 4 + (Str.ofString (toString n)).length ≤ _
    omega
/-- slots: 0 _law_call, 1 _law_found, 2 e -/
def B_l_word (R : List Str) (f : Addr) (G0 : Hp) (la0 : List Addr) (c : CallF) : DS :=
  (sSeq (sSet 1 (dDat (dC (.str ""))))
  (sSeq (sTryF R (sDrop (dAct 3 f G0 la0 c)) [("InvalidDrill", fun _ => (sSet 1 (dDat (dC (.str "drill"))))), ("InvalidBeginning", fun _ => (sSet 1 (dDat (dC (.str "beginning"))))), ("InvalidMany", fun _ => (sSet 1 (dDat (dC (.str "many"))))), ("InvalidSheep", fun _ => (sSet 1 (dDat (dC (.str "sheep"))))), ("InvalidPlace", fun _ => (sSet 1 (dDat (dC (.str "place"))))), ("InvalidRun", fun _ => (sSet 1 (dDat (dC (.str "run"))))), ("InvalidIndex", fun _ => (sSet 1 (dDat (dC (.str "index"))))), ("Unlike", fun _ => (sSet 1 (dDat (dC (.str "unlike"))))), ("NothingToUndo", fun _ => (sSet 1 (dDat (dC (.str "undo"))))), ("TooMany", sFld 2 1 "full" "limit"), ("InvalidText", sFld 2 1 "text" "line"), ("DogError", fun _ => (sSet 1 (dDat (dC (.str "base")))))])
  (sRet (dDat (dVar 1)))))
/-- w is the word of the error x -/
def IsWord (R : List Str) (x : Xn) (w : Str) : Prop := R.contains x.n = true ∧ ((x.n, w) ∈ words ∨ ∃ n : Int, 0 ≤ n ∧ n ≤ 1000000 ∧
  ((x = ⟨"InvalidText", some ("line", .int n)⟩ ∧ w = ("text" : Str) ++ (toString n : Str)) ∨ (x = ⟨"TooMany", some ("limit", .int n)⟩ ∧ w = ("full" : Str) ++ (toString n : Str))))
def S_l_word (R : List Str) : WF := fun c T Q => ∀ (Q' : Sl → List Ob → Prop) (QX' : Xn → List Ob → Prop), (∀ r T', Q (.dat (.str "")) (T'.take T.length) → Q' r T') → (∀ x w T', IsWord R x w → Q (.dat (.str w)) (T'.take T.length) → QX' x T') → c T Q' QX'
theorem h_l_word (R : List Str) (f : Addr) (G0 : Hp) (la0 : List Addr) (c : CallF) (T : List Ob) (Q : Sl → List Ob → Prop) (h : S_l_word R c T Q) : B_l_word R f G0 la0 c (endsOf T.length Q (fun _ _ => False)) (startD 3 1 [.clo f G0 la0] T) := by
  unfold B_l_word
  walk_at "dl"
  simp only [sTryF, sDrop, dAct]
  walk_at "dl"
  refine h _ _ ?_ ?_
  · intro r T' q
    exact q
  · intro x w T' hw q
    obtain ⟨n, f⟩ := x
    obtain ⟨hR, hm⟩ := hw
    rcases hm with hm | ⟨m, m0, m1, ⟨e, rfl⟩ | ⟨e, rfl⟩⟩
    · simp only [words, List.mem_cons, Prod.mk.injEq, List.not_mem_nil, or_false] at hm
      rcases hm with ⟨rfl, rfl⟩ | ⟨rfl, rfl⟩ | ⟨rfl, rfl⟩ | ⟨rfl, rfl⟩ | ⟨rfl, rfl⟩ | ⟨rfl, rfl⟩ | ⟨rfl, rfl⟩ | ⟨rfl, rfl⟩ | ⟨rfl, rfl⟩
      all_goals
        simp only [hndlF, hR, true_and]
        repeat rw [if_neg (by decide)]
        rw [if_pos (by decide)]
        walk_at "dl"
        exact q
    all_goals
      cases e
      obtain ⟨l1, l2⟩ := word_fits m0 m1
      simp only [hndlF, hR, true_and]
      repeat rw [if_neg (by decide)]
      rw [if_pos (by decide)]
      refine ⟨rfl, by decide, m, rfl, l1, l2, ?_⟩
      walk_at "dl"
      exact q
end DL
set_option Elab.async false
set_option linter.all false
set_option maxRecDepth 100000
set_option maxHeartbeats 4000000
set_option autoImplicit false
/-! Slots that hold data or nothing. -/
namespace DL
open PySem PySem.Spec PyProof.Rows L2
theorem range_mem {lo hi : Int} {d : D} (h : d ∈ rangeD lo hi) : ∃ i : Int, d = .int i ∧ lo ≤ i ∧ i < hi := by
  obtain ⟨k, hk, rfl⟩ := List.mem_map.mp h
  rw [List.mem_range] at hk
  exact ⟨_, rfl, by omega, by omega⟩
/-- a slot that may hold data -/
def dsl (y : Option D) : Option Sl := y.map .dat
theorem low_nil (n : Nat) : lowS n [] = true := rfl
theorem low_dsl (n : Nat) (y : Option D) (r : List (Option Sl)) : lowS n (dsl y :: r) = lowS n r := by
  cases y <;> rfl
theorem low_dat (n : Nat) (d : D) (r : List (Option Sl)) : lowS n (some (.dat d) :: r) = lowS n r := rfl
theorem low_none (n : Nat) (r : List (Option Sl)) : lowS n (none :: r) = lowS n r := rfl
theorem low_ob {n k : Nat} (h : k < n) (r : List (Option Sl)) : lowS n (some (.ob k) :: r) = lowS n r := by
  show (decide (k < n) && lowS n r) = lowS n r
  simp [h]
theorem low_any {n : Nat} {x : Option Sl} (h : lowS n [x] = true) (r : List (Option Sl)) : lowS n (x :: r) = lowS n r := by
  cases x with
  | none => rfl
  | some x =>
    cases x with
    | dat d => rfl
    | clo f G0 la0 =>
      have h2 : (la0.isEmpty && lowS n []) = true := h
      rw [low_nil, Bool.and_true] at h2
      show (la0.isEmpty && lowS n r) = lowS n r
      rw [h2, Bool.true_and]
    | ob k =>
      have h2 : (decide (k < n) && lowS n []) = true := h
      rw [low_nil, Bool.and_true, decide_eq_true_eq] at h2
      exact low_ob h2 r
end DL
set_option Elab.async false
set_option linter.all false
set_option maxRecDepth 100000
set_option maxHeartbeats 4000000
set_option autoImplicit false
/-! The law's defs at data level: driving, rooms. -/
namespace DL
open PySem PySem.Spec PyProof.Rows L2
local macro_rules | `(tactic| walk_at "dl") => `(tactic| (try simp only [sSeq, sSet, sRet, sRetN, sIf, sNil, sDrop, sFor, sTo, sPar2, sPar3, sNever, sRaise, sSetIx, dVar, dC, dVarL, dDat, dVal, valK_dat, valK_ob, dBin, dUn, dNil, dCons, dats, dTup, dLst, dNew, dNewOf, dTest, dtAnd, dtOr, dtNot, dAnd, dOr, dNot, dIf, dChain, dCB, dSl, dNo, dSo, sApp, dIxO, dLenO, dMaxD, dGetP, dCall, dSeq, dRng1, dRng2, dZip, dEnum, gNm, gTp, gCs, gNl, dYes,
  startD, endsOf, retD, wipeS, gAdd, gSub, gMul, gMulA, gMulB, gDiv, gMod, gPow, gNeg, gLt, gLe, gGt, gGe, gEq, gNe, gIn, gIx, gSl, gIsi, tyD, isiD, gLen, gAbs, gInt, gMax2, gMin2, gTuple, gList, gIsN, isNon, gIsB, gNotB,
  List.getElem?_cons_zero, List.getElem?_cons_succ, List.getElem?_nil, List.set_cons_zero, List.set_cons_succ, List.map_cons, List.map_nil, List.cons_append, List.nil_append, List.length_cons, List.length_nil, List.replicate_succ, List.replicate_zero, Option.map_some, Nat.reduceSub, Nat.reduceAdd, Nat.reduceLeDiff,
  List.take_length, beq_self_eq_true, String.reduceBEq, Bool.or_true, Bool.true_or, Bool.or_false, Bool.false_or, Bool.and_true, Bool.and_false, Bool.true_and, Bool.false_and, Bool.or_self, Bool.and_self, decide_true, decide_false, dmem, List.any_cons, List.any_nil, okd_non, okd_bl, okd_int, okd_str, okds_nil, okds_cons, okd_60t, okd_59t, okd_58t, okd_60l, okd_59l, okd_58l, st_tk, st_tb, st_tf, st_kt, st_kb, st_kf, st_bt, st_bk, st_bf, st_ft, st_fk, st_fb, nat_num, Int.reduceBEq, Int.reduceBNe, Int.reduceEq, Int.reduceLT, Int.reduceLE, Int.reduceAdd, Int.reduceSub, Int.reduceMul, Int.reduceNeg, Int.reduceToNat, Int.reducePow, atI_0, atI_1, atI_2, set_last, get_last, take_last, deq_str, deq_int, deq_non, deq_bl, deq_tt, deq_ll, deqs_nn, deqs_cc, deqs_nc, deqs_cn, Nat.lt_irrefl, List.set_set, ixN_20, ixN_21, tupI, okds_ints, atI_map', List.length_map, cutL_map, eq_self, if_true, if_false, ite_true, ite_false, Bool.false_eq_true, decide_eq_true_eq, true_and, and_true, and_self, Bool.not_true, Bool.not_false, true_or, or_true, false_or, or_false, Option.some.injEq, reduceCtorEq]))
theorem closed_pushed {g s x : Int} {A r : List Int} (h : spaced g (A ++ x :: r) = true) (hs : 0 ≤ s) : closedL g (A ++ (x + s) :: r) = pushedL g (A ++ x :: r) A.length s := by
  rw [pushedL_at]
  exact closed_app (spaced_init g (A ++ [x]) r (by simpa using h)) (by omega)
theorem take_at (A r : List Int) (x : Int) : (A ++ x :: r).take A.length = A := by simp
theorem drop_at (A r : List Int) (x : Int) : (A ++ x :: r).drop (A.length + 1) = r := by
  rw [show A ++ x :: r = (A ++ [x]) ++ r by simp, show A.length + 1 = (A ++ [x]).length by simp, List.drop_left]
theorem ranL_to (g x p : Int) (r : List Int) : ranL g (x :: r) (.to p) = if p - x > 0 then pushedL g (x :: r) 0 (p - x) else pushedL g (x :: r) 0 0 := by
  show pushedL g (x :: r) 0 (if p - x > 0 then p - x else 0) = _
  split <;> rfl
/-- slots: 0 _law_gap, 1 _law_places, 2 _law_run, 3 _law_sheep, 4 _law_there, 5 _law_place -/
def B_l_ran : DS :=
  (sSeq (sIf (dTest (dBin gEq (dBin gIx (dVar 2) (dC (.int 0))) (dC (.str "bark")))) (sRet (dDat (dCB gTuple (dCons (dDat (dComp (dSeq (dVar 1)) (gNm 5) dYes (dBin gAdd (dVar 5) (dBin gIx (dVar 2) (dC (.int 1)))) [5])) dNil)))) sNil)
  (sSeq (sPar2 3 4 (dDat (dC (.int 0))) (dDat (dBin gIx (dVar 2) (dC (.int 1)))))
  (sSeq (sIf (dTest (dBin gNe (dBin gIx (dVar 2) (dC (.int 0))) (dC (.str "to")))) (sSeq (sSet 3 (dDat (dIf (dTest (dBin gEq (dBin gIx (dVar 2) (dC (.int 0))) (dC (.str "back")))) (dBin gIx (dVar 2) (dC (.int 1))) (dBin gSub (dBin gSub (dCB gLen (dCons (dDat (dVar 1)) dNil)) (dC (.int 1))) (dBin gIx (dVar 2) (dC (.int 1)))))))
  (sSet 4 (dDat (dIf (dTest (dChain gLe gLt (dC (.int 0)) (dVar 3) (dCB gLen (dCons (dDat (dVar 1)) dNil)))) (dBin gAdd (dBin gIx (dVar 1) (dVar 3)) (dBin gIx (dVar 2) (dC (.int 2)))) (dC (.int 0)))))) sNil)
  (sSeq (sIf (dtOr (dtNot (dTest (dChain gLe gLt (dC (.int 0)) (dVar 3) (dCB gLen (dCons (dDat (dVar 1)) dNil))))) (dTest (dBin gLe (dVar 4) (dBin gIx (dVar 1) (dVar 3))))) (sRet (dDat (dVar 1))) sNil)
  (sRet (dDat (dVal (dCall 2 S_l_closed (dCons (dDat (dVar 0)) (dCons (dDat (dBin gAdd (dBin gAdd (dSl (dVar 1) dNo (dSo (dVar 3))) (dTup (dCons (dDat (dVar 4)) dNil))) (dSl (dVar 1) (dSo (dBin gAdd (dVar 3) (dC (.int 1)))) dNo))) dNil))))))))))
def S_l_ran : DF := fun ss T Q _ => ∃ (g : Int) (xs : List Int) (r : Rn), ss = [.dat (.int g), .dat (tupI xs), .dat r.d] ∧ 1 ≤ xs.length ∧ xs.length ≤ 1000 ∧ r.ok ∧ spaced g xs = true ∧ Q (.dat (tupI (ranL g xs r))) T
theorem l_ran_fin {g s : Int} {xs : List Int} {i : Int} {T : List Ob} {Q : Sl → List Ob → Prop} (h0 : 0 ≤ i) (h1 : i < xs.length) (hz : xs.length ≤ 1000) (sp : spaced g xs = true) (hs : 1 ≤ s) (h : Q (.dat (tupI (pushedL g xs i.toNat s))) T) :
    ∃ x, atI xs i = some x ∧ ¬ (x + s ≤ x) ∧ (cutL xs none (some i)).length + 1 ≤ sizeLine ∧ (cutL xs none (some i)).length + 1 + (cutL xs (some (i + 1)) none).length ≤ sizeLine ∧
      ∃ ys : List Int, (List.map D.int (cutL xs none (some i)) ++ [D.int (x + s)] ++ List.map D.int (cutL xs (some (i + 1)) none)) = ys.map .int ∧ ys.length ≤ 1000 ∧ closedL g ys = pushedL g xs i.toNat s := by
  obtain ⟨A, x, r, rfl, hA⟩ := split_at (i := i.toNat) (xs := xs) (by omega)
  have hi : i = A.length := by omega
  subst hi
  have e1 : cutL (A ++ x :: r) none (some (A.length : Int)) = A := by
    rw [cut_to _ h0 (by omega), Int.toNat_natCast, take_at]
  have e2 : cutL (A ++ x :: r) (some ((A.length : Int) + 1)) none = r := by
    rw [cut_from _ (by omega), show ((A.length : Int) + 1).toNat = A.length + 1 by omega, drop_at]
  rw [e1, e2, sizeLine_eq]
  simp only [List.length_append, List.length_cons] at hz
  refine ⟨x, atI_ints A r x _ rfl, by omega, by omega, by omega, A ++ (x + s) :: r, by simp, by simp; omega, ?_⟩
  rw [Int.toNat_natCast]
  exact closed_pushed sp (by omega)
theorem h_l_ran : ∀ (ss : List Sl) (T : List Ob) (Q : Sl → List Ob → Prop) (QX : Xn → List Ob → Prop), ss.length = 3 → S_l_ran ss T Q QX → B_l_ran (endsOf T.length Q QX) (startD 6 3 ss T) := by
  intro ss T Q QX hl h
  obtain ⟨g, xs, r, rfl, h1, hz, ok, sp, h⟩ := h
  unfold B_l_ran
  cases r with
  | to p =>
    simp only [Rn.d]
    obtain ⟨x, r, rfl⟩ : ∃ x r, xs = x :: r := by
      cases xs with
      | nil => simp at h1
      | cons x r => exact ⟨x, r, rfl⟩
    walk_at "dl"
    have hlen : (0 : Int) < (r.length + 1 : Nat) := by omega
    rw [if_neg (by simpa using hlen)]
    by_cases q : p ≤ x
    · rw [if_pos q]
      rw [ranL_to, if_neg (by omega)] at h
      rw [show pushedL g (x :: r) 0 0 = x :: r by
        have := pushedL_at g 0 x [] r
        simp only [List.nil_append, List.length_nil] at this
        rw [this, Int.add_zero, clo_id g r x sp]] at h
      exact h
    · rw [if_neg q]
      rw [ranL_to, if_pos (by omega)] at h
      rw [show pushedL g (x :: r) 0 (p - x) = p :: clo g p r by
        have := pushedL_at g (p - x) x [] r
        simp only [List.nil_append, List.length_nil] at this
        rw [this, show x + (p - x) = p by omega]] at h
      rw [cut_to _ (by omega) (by simp; omega), cut_from _ (by omega)]
      simp only [List.length_cons] at hz
      refine ⟨by simp [sizeLine_eq], by simp [sizeLine_eq]; omega, g, p :: r, by simp [tupI], by simp; omega, ?_⟩
      walk_at "dl"
      exact h
  | bark s =>
    simp only [Rn.d]
    walk_at "dl"
    rw [dComp_eq]
    walk_at "dl"
    refine compK_pure (fun d => match d with | .int i => some (.int (i + s)) | _ => none) [some (.dat (.int g)), some (.dat (tupI xs)), some (.dat (.tup [.str "bark", .int s])), none, none, none] rfl rfl rfl (by rw [List.length_map, sizeLine_eq]; omega) ?_ ?_
    · intro d hd acc R hR
      obtain ⟨x, _, rfl⟩ := List.mem_map.mp hd
      walk_at "dl"
      exact hR _ rfl
    · walk_at "dl"
      rw [List.filterMap_map, show ((fun d => match d with | D.int i => some (D.int (i + s)) | _ => none) ∘ D.int) = fun x => some (D.int (x + s)) from rfl, filterMap_some]
      have e : xs.map (fun x => D.int (x + s)) = (xs.map (· + s)).map D.int := by simp
      rw [e]
      exact h
  | back n s =>
    obtain ⟨⟨n0, n3⟩, s1, s2⟩ := ok
    simp only [Rn.d]
    walk_at "dl"
    rw [if_pos n0]
    simp only [ranL] at h
    by_cases q : n < xs.length
    · rw [if_pos q] at h
      obtain ⟨x, e1, l0, l1, l2, ys, e2, l3, e3⟩ := l_ran_fin n0 q hz sp s1 h
      rw [if_pos q, e1]
      walk_at "dl"
      rw [if_pos n0, if_neg (by simpa using q), if_neg l0]
      refine ⟨l1, by rw [List.length_append, List.length_map]; exact l2, ?_⟩
      rw [e2]
      refine ⟨g, ys, rfl, l3, ?_⟩
      walk_at "dl"
      rw [e3]
      exact h
    · rw [if_neg q] at h
      rw [if_neg q]
      rw [if_pos n0, if_pos (by simpa using q)]
      exact h
  | front n s =>
    obtain ⟨⟨n0, n3⟩, s1, s2⟩ := ok
    simp only [Rn.d]
    walk_at "dl"
    simp only [ranL] at h
    by_cases q : 0 ≤ (xs.length : Int) - 1 - n
    · rw [if_pos q] at h
      have q2 : (xs.length : Int) - 1 - n < xs.length := by omega
      obtain ⟨x, e1, l0, l1, l2, ys, e2, l3, e3⟩ := l_ran_fin q q2 hz sp s1 h
      rw [if_pos q, if_pos q2, e1]
      walk_at "dl"
      rw [if_pos q, if_neg (by simpa using q2), if_neg l0]
      refine ⟨l1, by rw [List.length_append, List.length_map]; exact l2, ?_⟩
      rw [e2]
      refine ⟨g, ys, rfl, l3, ?_⟩
      walk_at "dl"
      rw [e3]
      exact h
    · rw [if_neg q] at h
      rw [if_neg q, if_neg q]
      exact h
/-- rooms that are drawn -/
structure RoomsOk (w : Int) (xs : List Int) : Prop where
  sp : spaced 0 xs = true
  r : ∀ x ∈ xs, 0 ≤ x ∧ x ≤ w * xs.length
/-- slots: 0 _law_cart, 1 _law_many, 2 _law_wide, 3 _law_turn, 4 _law_found, 5 _law_room -/
def B_l_rooms : DS :=
  (sSeq (sPar2 4 5 (dDat (dTup dNil)) (dDat (dVal (dCall 2 S_l_take (dCons (dVarL 0) (dCons (dDat (dBin gAdd (dVar 2) (dC (.int 1)))) dNil))))))
  (sSeq (sFor (dRng1 (dCons (dDat (dVar 1)) dNil)) (gNm 3) (sSeq (sSet 4 (dDat (dBin gAdd (dVar 4) (dTup (dCons (dDat (dVar 5)) dNil)))))
  (sSet 5 (dDat (dBin gAdd (dVar 5) (dVal (dCall 2 S_l_any (dCons (dVarL 0) (dCons (dDat (dLst (dCons (dDat (dC (.int 0))) (dCons (dDat (dC (.int 0))) (dCons (dDat (dVal (dCall 2 S_l_take (dCons (dVarL 0) (dCons (dDat (dBin gAdd (dVar 2) (dC (.int 1)))) dNil))))) dNil))))) dNil)))))))))
  (sRet (dDat (dVar 4)))))
def S_l_rooms : DF := fun ss T Q _ => ∃ (k : Nat) (m w : Int), ss = [.ob k, .dat (.int m), .dat (.int w)] ∧ Cart T k ∧ 0 ≤ m ∧ m ≤ 1000 ∧ 0 ≤ w ∧ w ≤ 10 ^ 50 ∧ ∀ (xs : List Int) T', (xs.length : Int) = m → RoomsOk w xs → CartTo T T' k → Q (.dat (tupI xs)) T'
theorem h_l_rooms : ∀ (ss : List Sl) (T : List Ob) (Q : Sl → List Ob → Prop) (QX : Xn → List Ob → Prop), ss.length = 3 → S_l_rooms ss T Q QX → B_l_rooms (endsOf T.length Q QX) (startD 6 3 ss T) := by
  intro ss T Q QX hl h
  obtain ⟨k, m, w, rfl, c, m0, m1, w0, w1, h⟩ := h
  simp only [Int.reducePow] at w1
  unfold B_l_rooms
  walk_at "dl"
  refine ⟨k, _, rfl, c, by omega, by simp only [Int.reducePow]; omega, fun v T1 v0 v1 c1 => ?_⟩
  walk_at "dl"
  refine ⟨by omega, ?_⟩
  refine loop_inv (fun ds ρ => ∃ (xs : List Int) (v : Int) (T' : List Ob) (u : Option Sl), ρ = ⟨T', [some (.ob k), some (.dat (.int m)), some (.dat (.int w)), u, some (.dat (.tup (xs.map .int))), some (.dat (.int v))]⟩ ∧ CartTo T T' k ∧ (ds.length : Int) + xs.length = m ∧ spaced 0 (xs ++ [v]) = true ∧ 0 ≤ v ∧ v ≤ w * (xs.length + 1) ∧ ∀ x ∈ xs, 0 ≤ x ∧ x ≤ w * m) ?_ ?_ _ _ ?_
  · rintro d ds ρ ⟨xs, v, T', u, rfl, c2, hm, sp, v0, v1, hx⟩ N hN
    have k2 := c2.cart c
    simp only [List.length_cons] at hm
    walk_at "dl"
    refine ⟨by rw [sizeLine_eq]; omega, k, _, rfl, k2, by omega, by simp only [Int.reducePow]; omega, fun t T3 t0 t1 c3 => ?_⟩
    walk_at "dl"
    refine ⟨k, _, _, rfl, .inl rfl, c3.cart k2, by simp, by simp, fun y T4 hy c4 => ?_⟩
    obtain ⟨z, rfl, z0, z1⟩ : ∃ z : Int, y = .int z ∧ 0 ≤ z ∧ z ≤ w := by
      simp only [List.mem_cons, List.not_mem_nil, or_false] at hy
      rcases hy with rfl | rfl | rfl
      · exact ⟨0, rfl, by omega, w0⟩
      · exact ⟨0, rfl, by omega, w0⟩
      · exact ⟨t, rfl, t0, by omega⟩
    walk_at "dl"
    refine hN _ ⟨xs ++ [v], v + z, T4, some (.dat d), by simp, (c2.trans c3).trans c4, by simp; omega, ?_, by omega, ?_, ?_⟩
    · rw [List.append_assoc, show [v] ++ [v + z] = [v, v + z] from rfl, spaced_snoc, sp]
      simp
      omega
    · rw [List.length_append, List.length_singleton]
      have : w * (((xs.length + 1 : Nat) : Int) + 1) = w * (xs.length + 1) + w := by
        push_cast
        rw [Int.mul_add, Int.mul_one]
      rw [this]
      omega
    · intro x hx2
      rcases List.mem_append.mp hx2 with hx2 | hx2
      · exact hx x hx2
      · rw [List.mem_singleton.mp hx2]
        refine ⟨v0, Int.le_trans v1 (Int.mul_le_mul_of_nonneg_left (by omega) w0)⟩
  · rintro ρ ⟨xs, v, T', u, rfl, c2, hm, sp, v0, v1, hx⟩
    walk_at "dl"
    rw [take_len c2.len]
    simp only [List.length_nil] at hm
    refine h xs T' (by omega) ⟨spaced_init 0 xs [v] sp, fun x hx2 => ?_⟩ c2
    have := hx x hx2
    rw [← hm] at this
    simpa using this
  · refine ⟨[], v, T1, none, rfl, c1, ?_, rfl, v0, ?_, by simp⟩
    · rw [rangeD_len]
      simp
      omega
    · simp
      omega
theorem deqs_refl {ds : List D} (n : Nat) (h : okds n ds = true) : deqs ds ds = true := eqvPs_refl n ds h
theorem okds_tups (n : Nat) (l : List (List Int)) : okds (n + 1) (l.map tupI) = true := by
  rw [okds_iff]
  intro d hd
  obtain ⟨x, _, rfl⟩ := List.mem_map.mp hd
  exact okd_tupI n x
theorem BgOk.at {g w : Int} {xs : List Int} (h : RoomsOk w xs) (g1 : 1 ≤ g) (g9 : g ≤ 9) (l1 : 1 ≤ xs.length) (l40 : xs.length ≤ 40) (hw : w ≤ 10 ^ 28) (w0 : 0 ≤ w) : BgOk g (atL g 0 xs) := by
  have key : ∀ (xs : List Int) (i : Nat), spaced 0 xs = true → spaced g (atL g i xs) = true := by
    intro xs
    induction xs with
    | nil => exact fun _ _ => rfl
    | cons x r ih =>
      intro i sp
      cases r with
      | nil => rfl
      | cons y r =>
        simp only [spaced, Bool.and_eq_true, decide_eq_true_eq] at sp
        simp only [atL, spaced, Bool.and_eq_true, decide_eq_true_eq]
        refine ⟨?_, by simpa [atL] using ih (i + 1) sp.2⟩
        push_cast
        rw [Int.add_mul, Int.one_mul]
        omega
  have bd : ∀ (xs : List Int) (i : Nat), (i : Int) + xs.length ≤ 40 → (∀ x ∈ xs, 0 ≤ x ∧ x ≤ 10 ^ 28 * 40) → ∀ y ∈ atL g i xs, 0 ≤ y ∧ y ≤ 1000000000000000000000000000000 := by
    intro xs
    induction xs with
    | nil => intro i _ _ y hy; simp [atL] at hy
    | cons x r ih =>
      intro i hi hx y hy
      simp only [List.length_cons] at hi
      rcases List.mem_cons.mp hy with rfl | hy
      · have h1 := hx x (by simp)
        simp only [Int.reducePow, Int.reduceMul] at h1
        have h2 : (i : Int) * g ≤ 40 * 9 := Int.mul_le_mul (by omega) g9 (by omega) (by omega)
        have h3 : 0 ≤ (i : Int) * g := Int.mul_nonneg (by omega) (by omega)
        omega
      · exact ih (i + 1) (by omega) (fun x h => hx x (by simp [h])) y hy
  refine ⟨by rw [atL_len]; exact l1, by rw [atL_len]; exact l40, bd xs 0 (by omega) fun x hx => ?_, key xs 0 h.sp⟩
  have := h.r x hx
  refine ⟨this.1, Int.le_trans this.2 (Int.mul_le_mul hw (by omega) (by omega) (by decide))⟩
end DL
set_option Elab.async false
set_option linter.all false
set_option maxRecDepth 100000
set_option maxHeartbeats 4000000
set_option autoImplicit false
/-! Law k14: lanes: the methods. -/
namespace DL
open PySem PySem.Spec PyProof.Rows L2
section
variable (a b c d : D)
theorem lk_space : List.lookup (Str.ofString "space") [((Str.ofString "space", a) : Str × D), (Str.ofString "now", b), (Str.ofString "past", c)] = some a := by rw [List.lookup_cons_self]
theorem lk_now : List.lookup (Str.ofString "now") [((Str.ofString "space", a) : Str × D), (Str.ofString "now", b), (Str.ofString "past", c)] = some b := by
  rw [List.lookup_cons, show (Str.ofString "now" == Str.ofString "space") = false from by decide]
  exact List.lookup_cons_self
theorem lk_past : List.lookup (Str.ofString "past") [((Str.ofString "space", a) : Str × D), (Str.ofString "now", b), (Str.ofString "past", c)] = some c := by
  rw [List.lookup_cons, show (Str.ofString "past" == Str.ofString "space") = false from by decide]
  show List.lookup (Str.ofString "past") [((Str.ofString "now", b) : Str × D), (Str.ofString "past", c)] = some c
  rw [List.lookup_cons, show (Str.ofString "past" == Str.ofString "now") = false from by decide]
  exact List.lookup_cons_self
theorem lk_other {m : Str} (h1 : (m == Str.ofString "space") = false) (h2 : (m == Str.ofString "now") = false) (h3 : (m == Str.ofString "past") = false) : List.lookup m [((Str.ofString "space", a) : Str × D), (Str.ofString "now", b), (Str.ofString "past", c)] = none := by
  rw [List.lookup_cons, h1]
  show List.lookup m [((Str.ofString "now", b) : Str × D), (Str.ofString "past", c)] = none
  rw [List.lookup_cons, h2]
  show List.lookup m [((Str.ofString "past", c) : Str × D)] = none
  rw [List.lookup_cons, h3]
  rfl
theorem lk_noted : List.lookup (Str.ofString "noted") [((Str.ofString "space", a) : Str × D), (Str.ofString "now", b), (Str.ofString "past", c)] = none := lk_other a b c (by decide) (by decide) (by decide)
theorem lk_enter : List.lookup (Str.ofString "enter") [((Str.ofString "space", a) : Str × D), (Str.ofString "now", b), (Str.ofString "past", c)] = none := lk_other a b c (by decide) (by decide) (by decide)
theorem lk_undo : List.lookup (Str.ofString "undo") [((Str.ofString "space", a) : Str × D), (Str.ofString "now", b), (Str.ofString "past", c)] = none := lk_other a b c (by decide) (by decide) (by decide)
theorem lk_run : List.lookup (Str.ofString "run") [((Str.ofString "space", a) : Str × D), (Str.ofString "now", b), (Str.ofString "past", c)] = none := lk_other a b c (by decide) (by decide) (by decide)
theorem lk_lots : List.lookup (Str.ofString "lots") [((Str.ofString "space", a) : Str × D), (Str.ofString "now", b), (Str.ofString "past", c)] = none := lk_other a b c (by decide) (by decide) (by decide)
theorem lk_MOST : List.lookup (Str.ofString "MOST") [((Str.ofString "space", a) : Str × D), (Str.ofString "now", b), (Str.ofString "past", c)] = none := lk_other a b c (by decide) (by decide) (by decide)
theorem pt_ne {f g : Str} (h : f ≠ g) (d a : D) (r : List (Str × D)) : putD f d ((g, a) :: r) = (g, a) :: putD f d r := by rw [putD, if_neg (fun z => h z.symm)]
theorem pt_1 : putD (Str.ofString "space") d [] = [(Str.ofString "space", d)] := rfl
theorem pt_2 : putD (Str.ofString "now") d [(Str.ofString "space", a)] = [(Str.ofString "space", a), (Str.ofString "now", d)] := by rw [pt_ne (by decide)]; rfl
theorem pt_3 : putD (Str.ofString "past") d [(Str.ofString "space", a), (Str.ofString "now", b)] = [(Str.ofString "space", a), (Str.ofString "now", b), (Str.ofString "past", d)] := by rw [pt_ne (by decide), pt_ne (by decide)]; rfl
theorem pt_now : putD (Str.ofString "now") d [(Str.ofString "space", a), (Str.ofString "now", b), (Str.ofString "past", c)] = [(Str.ofString "space", a), (Str.ofString "now", d), (Str.ofString "past", c)] := by rw [pt_ne (by decide), putD, if_pos rfl]
theorem pt_past : putD (Str.ofString "past") d [(Str.ofString "space", a), (Str.ofString "now", b), (Str.ofString "past", c)] = [(Str.ofString "space", a), (Str.ofString "now", b), (Str.ofString "past", d)] := by rw [pt_ne (by decide), pt_ne (by decide), putD, if_pos rfl]
end
theorem dats_map (ds : List D) : dats (ds.map Sl.dat ++ []) = some ds := by
  rw [List.append_nil]
  induction ds with
  | nil => rfl
  | cons d r ih => rw [List.map_cons, dats, ih]; rfl
local macro_rules | `(tactic| walk_at "dl") => `(tactic| (try simp only [sSeq, sSet, sRet, sRetN, sIf, sNil, sDrop, sFor, sTo, sPar2, sPar3, sNever, sRaise, sSetIx, dVar, dC, dVarL, dDat, dVal, valK_dat, valK_ob, dBin, dUn, dNil, dCons, dats, dTup, dLst, dNew, dNewOf, dTest, dtAnd, dtOr, dtNot, dAnd, dOr, dNot, dIf, dChain, dCB, dSl, dNo, dSo, sApp, dIxO, dLenO, dMaxD, dGetP, dCall, dSeq, dRng1, dRng2, dZip, dEnum, gNm, gTp, gCs, gNl, dYes,
  startD, endsOf, retD, wipeS, gAdd, gSub, gMul, gMulA, gMulB, gDiv, gMod, gPow, gNeg, gLt, gLe, gGt, gGe, gEq, gNe, gIn, gIx, gSl, gIsi, tyD, isiD, gLen, gAbs, gInt, gMax2, gMin2, gTuple, gList, gIsN, isNon, gIsB, gNotB,
  List.getElem?_cons_zero, List.getElem?_cons_succ, List.getElem?_nil, List.set_cons_zero, List.set_cons_succ, List.map_cons, List.map_nil, List.cons_append, List.nil_append, List.length_cons, List.length_nil, List.replicate_succ, List.replicate_zero, Option.map_some, Nat.reduceSub, Nat.reduceAdd, Nat.reduceLeDiff,
  List.take_length, beq_self_eq_true, String.reduceBEq, Bool.or_true, Bool.true_or, Bool.or_false, Bool.false_or, Bool.and_true, Bool.and_false, Bool.true_and, Bool.false_and, Bool.or_self, Bool.and_self, decide_true, decide_false, dmem, List.any_cons, List.any_nil, okd_non, okd_bl, okd_int, okd_str, okds_nil, okds_cons, okd_60t, okd_59t, okd_58t, okd_60l, okd_59l, okd_58l, st_tk, st_tb, st_tf, st_kt, st_kb, st_kf, st_bt, st_bk, st_bf, st_ft, st_fk, st_fb, nat_num, Int.reduceBEq, Int.reduceBNe, Int.reduceEq, Int.reduceLT, Int.reduceLE, Int.reduceAdd, Int.reduceSub, Int.reduceMul, Int.reduceNeg, Int.reduceToNat, Int.reducePow, atI_0, atI_1, atI_2, set_last, get_last, take_last, deq_str, deq_int, deq_non, deq_bl, deq_tt, deq_ll, deqs_nn, deqs_cc, deqs_nc, deqs_cn, Nat.lt_irrefl, List.set_set, ixN_20, ixN_21, tupI, okds_ints, atI_map', List.length_map, cutL_map, eq_self, if_true, if_false, ite_true, ite_false, Bool.false_eq_true, decide_eq_true_eq, true_and, and_true, and_self, Bool.not_true, Bool.not_false, true_or, or_true, false_or, or_false, Option.some.injEq, reduceCtorEq]))
local macro_rules | `(tactic| walk_at "di") => `(tactic| (try simp only [dFldO, sFldO, OwnP, dOwn, dOwnT, okTy, dLenI, dStrI, dBoolI, dInI, sAugI, dMeth, dMake, dStar, dProp, dCallO, dMakeV, dIsI, intSl, strSl, blSl, starF, gBool, dConO, dAppE, dTupF, dVarT, dTIdx, dListG, fixF, starF1, lk_space, lk_now, lk_past, lk_noted, lk_enter, lk_undo, lk_run, lk_lots, lk_MOST, pt_1, pt_2, pt_3, pt_now, pt_past, gSortedI, dats_map, sSeq, sSet, sRet, sRetN, sIf, sNil, sDrop, sFor, sTo, sPar2, sPar3, sNever, sRaise, sSetIx, dVar, dC, dVarL, dDat, dVal, valK_dat, valK_ob, dBin, dUn, dNil, dCons, dats, dTup, dLst, dNew, dNewOf, dTest, dtAnd, dtOr, dtNot, dAnd, dOr, dNot, dIf, dChain, dCB, dSl, dNo, dSo, sApp, dIxO, dLenO, dMaxD, dGetP, dCall, dSeq, dRng1, dRng2, dZip, dEnum, gNm, gTp, gCs, gNl, dYes,
  startD, endsOf, retD, wipeS, gAdd, gSub, gMul, gMulA, gMulB, gDiv, gMod, gPow, gNeg, gLt, gLe, gGt, gGe, gEq, gNe, gIn, gIx, gSl, gIsi, tyD, isiD, gLen, gAbs, gInt, gMax2, gMin2, gTuple, gList, gIsN, isNon, gIsB, gNotB,
  List.getElem?_cons_zero, List.getElem?_cons_succ, List.getElem?_nil, List.set_cons_zero, List.set_cons_succ, List.map_cons, List.map_nil, List.cons_append, List.nil_append, List.length_cons, List.length_nil, List.replicate_succ, List.replicate_zero, Option.map_some, Nat.reduceSub, Nat.reduceAdd, Nat.reduceLeDiff,
  List.take_length, beq_self_eq_true, String.reduceBEq, Bool.or_true, Bool.true_or, Bool.or_false, Bool.false_or, Bool.and_true, Bool.and_false, Bool.true_and, Bool.false_and, Bool.or_self, Bool.and_self, decide_true, decide_false, dmem, List.any_cons, List.any_nil, okd_non, okd_bl, okd_int, okd_str, okds_nil, okds_cons, okd_60t, okd_59t, okd_58t, okd_60l, okd_59l, okd_58l, st_tk, st_tb, st_tf, st_kt, st_kb, st_kf, st_bt, st_bk, st_bf, st_ft, st_fk, st_fb, nat_num, Int.reduceBEq, Int.reduceBNe, Int.reduceEq, Int.reduceLT, Int.reduceLE, Int.reduceAdd, Int.reduceSub, Int.reduceMul, Int.reduceNeg, Int.reduceToNat, Int.reducePow, atI_0, atI_1, atI_2, set_last, get_last, take_last, deq_str, deq_int, deq_non, deq_bl, deq_tt, deq_ll, deqs_nn, deqs_cc, deqs_nc, deqs_cn, Nat.lt_irrefl, List.set_set, ixN_20, ixN_21, tupI, okds_ints, atI_map', List.length_map, cutL_map, eq_self, if_true, if_false, ite_true, ite_false, Bool.false_eq_true, decide_eq_true_eq, true_and, and_true, and_self, Bool.not_true, Bool.not_false, true_or, or_true, false_or, or_false, Option.some.injEq, reduceCtorEq]))
theorem compK_idx {ι : Type} {g : DG} {t : DT} {e : DE} {own : List Nat} {Q : D → Env → Prop} (is : List ι) (g0 : ι → D) (h : ι → Option D) {ds : List D} (hds : ds = is.map g0) {T : List Ob} {s : List (Option Sl)} (s0 : List (Option Sl))
    (hs : wipeS s own = s0) (hs2 : wipeS s0 own = s0) (hlow : lowS T.length s0 = true) (hz : is.length ≤ sizeLine)
    (step : ∀ i ∈ is, ∀ acc, ∀ R : Option D → Env → Prop, (∀ s', wipeS s' own = s0 → R (h i) ⟨T ++ [.lst acc], s'⟩) → g (g0 i) ⟨T ++ [.lst acc], s0⟩ fun ρ1 => t X0 ρ1 fun b ρ2 => if b = true then e X0 ρ2 fun y ρ3 => R (some y) ρ3 else R none ρ2)
    (q : Q (.lst (is.filterMap h)) ⟨T, s0⟩) : compK g t e own Q ds ⟨T, s⟩ := by
  subst hds
  refine compK_any (fun r acc T' => T' = T ∧ ∃ js : List ι, r = js.map g0 ∧ (∀ j ∈ js, j ∈ is) ∧ acc ++ js.filterMap h = is.filterMap h) s0 hs hs2 hlow (by simpa using hz) ⟨rfl, is, rfl, fun _ h => h, rfl⟩ ?_ ?_
  · rintro d r acc T' hl hz ⟨rfl, js, e, hm, he⟩ R hR
    cases js with
    | nil => cases e
    | cons j js =>
      cases e
      refine step j (hm j List.mem_cons_self) acc R fun s' hs' => hR _ _ _ rfl ⟨rfl, js, rfl, fun k m => hm k (List.mem_cons_of_mem _ m), ?_⟩ hs'
      rw [← he, List.filterMap_cons]
      cases h j <;> simp
  · rintro acc T' hl ⟨rfl, js, e, hm, he⟩
    cases js with
    | cons j js => cases e
    | nil =>
      simp only [List.filterMap_nil, List.append_nil] at he
      rw [he]
      exact q
/-- places and runs -/
abbrev St14 := List Int × List Rn
def stD (p : St14) : D := .tup [tupI p.1, .tup (p.2.map Rn.d)]
/-- a lane -/
def laneO (g : Int) (now : St14) (past : List St14) : Ob := .ins "Lane" [("space", .int g), ("now", stD now), ("past", .tup (past.map stD))]
def Ln (T : List Ob) (k : Nat) (g : Int) (now : St14) (past : List St14) : Prop := T[k]? = some (.ins "Lane" [("space", .int g), ("now", stD now), ("past", .tup (past.map stD))])
theorem set_app (T : List Ob) (o o' : Ob) : (T ++ [o]).set T.length o' = T ++ [o'] := by simp
theorem idx_app (T : List Ob) (o : Ob) : (T ++ [o])[T.length]? = some o := by simp
theorem idx_set {T : List Ob} {k : Nat} (h : k < T.length) (o : Ob) : (T.set k o)[k]? = some o := by rw [List.getElem?_set_self h]
theorem okd_st (p : St14) (n : Nat) : okd (n + 3) (stD p) = true := by
  rw [stD, okd, okds_cons, okd_tupI, okds_cons, okds_nil, okd]
  simp only [Bool.true_and, Bool.and_true]
  exact (okds_iff _ _).mpr fun d hd => by
    obtain ⟨r, _, rfl⟩ := List.mem_map.mp hd
    exact r.okd n
theorem okds_st (ps : List St14) (n : Nat) : okds (n + 3) (ps.map stD) = true := (okds_iff _ _).mpr fun d hd => by
  obtain ⟨p, _, rfl⟩ := List.mem_map.mp hd
  exact okd_st p n
/-- slots: 0 self, 1 gap, 2 beginning -/
def B_Lane_init_u : DS :=
  (sSeq (sIf (dtNot (dTest (dVal (dCall 3 S_is_int (dCons (dDat (dVar 1)) (dCons (dDat (dC (.int 1))) (dCons (dDat (dC (.int 9))) dNil))))))) (sRaise "InvalidDrill") sNil)
  (sSeq (sDrop (dCall 2 S_need_beginning (dCons (dDat (dVar 1)) (dCons (dDat (dVar 2)) dNil))))
  (sSeq (sFldO "Lane" "space" (dVarL 0) (dVar 1))
  (sSeq (sFldO "Lane" "now" (dVarL 0) (dTup (dCons (dDat (dVar 2)) (dCons (dDat (dTup dNil)) dNil))))
  (sFldO "Lane" "past" (dVarL 0) (dTup dNil))))))
def S_Lane_init_u : DF := fun ss T Q _ => ∃ (k : Nat) (g : Int) (xs : List Int), ss = [.ob k, .dat (.int g), .dat (tupI xs)] ∧ 1 ≤ g ∧ g ≤ 9 ∧ BgOk g xs ∧ T[k]? = some (.ins "Lane" []) ∧ Q (.dat .non) (T.set k (laneO g (xs, []) []))
theorem h_Lane_init_u : ∀ (ss : List Sl) (T : List Ob) (Q : Sl → List Ob → Prop) (QX : Xn → List Ob → Prop), ss.length = 3 → S_Lane_init_u ss T Q QX → B_Lane_init_u (endsOf T.length Q QX) (startD 3 3 ss T) := by
  intro ss T Q QX hl h
  obtain ⟨k, g, xs, rfl, g1, g9, hb, hk, h⟩ := h
  have hT : k < T.length := (List.getElem?_eq_some_iff.mp hk).1
  unfold B_Lane_init_u
  walk_at "di"
  simp only [S_is_int]
  refine ⟨okd_int _ _, ?_⟩
  rw [isInt_int g1 g9]
  walk_at "di"
  simp only [S_need_beginning]
  refine ⟨okd_tupI 59 xs, .inl ⟨hb.begins, ?_⟩⟩
  have hk1 : ∀ o, (T.set k o)[k]? = some o := idx_set hT
  (walk_at "di"; repeat (simp only [hk, hk1]; walk_at "di"))
  rw [List.take_of_length_le (by simp)]
  exact h
/-- a lane as it may stand -/
structure LnOk (g : Int) (now : St14) : Prop where
  g1 : 1 ≤ g
  g9 : g ≤ 9
  l1 : 1 ≤ now.1.length
  l40 : now.1.length ≤ 40
  r1 : now.2.length ≤ 800
  sp : spaced g now.1 = true
theorem at_bounds {xs : List Int} {i x : Int} (h : atI xs i = some x) : 0 - (xs.length : Int) ≤ i ∧ i ≤ (xs.length : Int) - 1 := by
  unfold atI at h
  obtain ⟨j, hj, _⟩ := Option.bind_eq_some_iff.mp h
  have := (ixN_seq hj).2.2
  omega
/-- slots: 0 self -/
def B_Lane_gap : DS :=
  (sRet (dDat (dFldO "Lane" "space" (dVarL 0))))
def S_Lane_gap : DF := fun ss T Q _ => ∃ (k : Nat) (g : Int) (now : St14) (past : List St14), ss = [.ob k] ∧ Ln T k g now past ∧ Q (.dat (.int g)) T
theorem h_Lane_gap : ∀ (ss : List Sl) (T : List Ob) (Q : Sl → List Ob → Prop) (QX : Xn → List Ob → Prop), ss.length = 1 → S_Lane_gap ss T Q QX → B_Lane_gap (endsOf T.length Q QX) (startD 1 1 ss T) := by
  intro ss T Q QX hl h
  obtain ⟨k, g, now, past, rfl, hk, h⟩ := h
  unfold Ln at hk
  unfold B_Lane_gap
  (walk_at "di"; repeat (simp only [hk]; walk_at "di"))
  exact h
/-- slots: 0 self -/
def B_Lane_places : DS :=
  (sRet (dDat (dBin gIx (dFldO "Lane" "now" (dVarL 0)) (dC (.int 0)))))
def S_Lane_places : DF := fun ss T Q _ => ∃ (k : Nat) (g : Int) (now : St14) (past : List St14), ss = [.ob k] ∧ Ln T k g now past ∧ Q (.dat (tupI now.1)) T
theorem h_Lane_places : ∀ (ss : List Sl) (T : List Ob) (Q : Sl → List Ob → Prop) (QX : Xn → List Ob → Prop), ss.length = 1 → S_Lane_places ss T Q QX → B_Lane_places (endsOf T.length Q QX) (startD 1 1 ss T) := by
  intro ss T Q QX hl h
  obtain ⟨k, g, now, past, rfl, hk, h⟩ := h
  unfold Ln at hk
  simp only [stD] at hk
  unfold B_Lane_places
  (walk_at "di"; repeat (simp only [hk]; walk_at "di"))
  exact h
/-- slots: 0 self -/
def B_Lane_runs : DS :=
  (sRet (dDat (dBin gIx (dFldO "Lane" "now" (dVarL 0)) (dC (.int 1)))))
def S_Lane_runs : DF := fun ss T Q _ => ∃ (k : Nat) (g : Int) (now : St14) (past : List St14), ss = [.ob k] ∧ Ln T k g now past ∧ Q (.dat (.tup (now.2.map Rn.d))) T
theorem h_Lane_runs : ∀ (ss : List Sl) (T : List Ob) (Q : Sl → List Ob → Prop) (QX : Xn → List Ob → Prop), ss.length = 1 → S_Lane_runs ss T Q QX → B_Lane_runs (endsOf T.length Q QX) (startD 1 1 ss T) := by
  intro ss T Q QX hl h
  obtain ⟨k, g, now, past, rfl, hk, h⟩ := h
  unfold Ln at hk
  simp only [stD] at hk
  unfold B_Lane_runs
  (walk_at "di"; repeat (simp only [hk]; walk_at "di"))
  exact h
/-- slots: 0 self, 1 state -/
def B_Lane_noted : DS :=
  (sSeq (sIf (dTest (dBin gGe (dCB gLen (dCons (dDat (dFldO "Lane" "past" (dVarL 0))) dNil)) (dConO "Lane" "MOST" (50) (dVarL 0)))) (sRaiseF "TooMany" "limit" (dConO "Lane" "MOST" (50) (dVarL 0))) sNil)
  (sSeq (sFldO "Lane" "past" (dVarL 0) (dBin gAdd (dFldO "Lane" "past" (dVarL 0)) (dTup (dCons (dDat (dFldO "Lane" "now" (dVarL 0))) dNil))))
  (sFldO "Lane" "now" (dVarL 0) (dVar 1))))
def S_Lane_noted : DF := fun ss T Q _ => ∃ (k : Nat) (g : Int) (now new : St14) (past : List St14), ss = [.ob k, .dat (stD new)] ∧ Ln T k g now past ∧ past.length < 50 ∧ Q (.dat .non) (T.set k (laneO g new (past ++ [now])))
theorem h_Lane_noted : ∀ (ss : List Sl) (T : List Ob) (Q : Sl → List Ob → Prop) (QX : Xn → List Ob → Prop), ss.length = 2 → S_Lane_noted ss T Q QX → B_Lane_noted (endsOf T.length Q QX) (startD 2 2 ss T) := by
  intro ss T Q QX hl h
  obtain ⟨k, g, now, new, past, rfl, hk, hp, h⟩ := h
  have hT : k < T.length := (List.getElem?_eq_some_iff.mp hk).1
  have hk1 : ∀ o, (T.set k o)[k]? = some o := idx_set hT
  unfold Ln at hk
  unfold B_Lane_noted
  (walk_at "di"; repeat (simp only [hk, hk1]; walk_at "di"))
  rw [if_neg (by omega)]
  (walk_at "di"; repeat (simp only [hk, hk1]; walk_at "di"))
  refine ⟨by rw [sizeLine_eq]; omega, ?_⟩
  (walk_at "di"; repeat (simp only [hk, hk1]; walk_at "di"))
  rw [List.take_of_length_le (by simp)]
  have e : T.set k (laneO g new (past ++ [now])) = T.set k (.ins "Lane" [("space", .int g), ("now", stD new), ("past", .tup (past.map stD ++ [stD now]))]) := by
    unfold laneO
    rw [List.map_append]
    rfl
  rw [e] at h
  exact h
/-- how many stand elsewhere -/
def chgL : List Int → List Int → Nat
  | x :: a, y :: b => (if x = y then 0 else 1) + chgL a b
  | _, _ => 0
def chgD (d : D) : Option D := match d with
  | .tup [.int a, .int b] => if a = b then none else some (.int 1)
  | _ => none
theorem chg_zip : ∀ xs ys : List Int, ((zipD (xs.map .int) (ys.map .int)).filterMap chgD).length = chgL xs ys
  | [], [] => rfl
  | [], _ :: _ => rfl
  | _ :: _, [] => rfl
  | x :: xs, y :: ys => by
    have ih := chg_zip xs ys
    show ((.tup [.int x, .int y] :: zipD (xs.map .int) (ys.map .int)).filterMap chgD).length = (if x = y then 0 else 1) + chgL xs ys
    rw [List.filterMap_cons, ← ih]
    simp only [chgD]
    by_cases q : x = y
    · rw [if_pos q, if_pos q]
      simp
    · rw [if_neg q, if_neg q]
      simp only [List.length_cons]
      omega
/-- runs, so many as may be handed over at once -/
def runsB (d : D) : Bool := match d with
  | .tup ds => decide (ds.length ≤ 20) && ds.all isRun
  | _ => false
/-- slots: 0 self, 1 items, 2 there, 3 before, 4 one, 5 other -/
def B_Lane_run : DS :=
  (sSeq (sIf (dtNot (dTest (dVal (dCall 1 S_is_a_run (dCons (dDat (dVar 1)) dNil))))) (sRaise "InvalidRun") sNil)
  (sSeq (sSet 2 (dDat (dVal (dCall 3 S_ran (dCons (dDat (dFldO "Lane" "space" (dVarL 0))) (dCons (dDat (dBin gIx (dFldO "Lane" "now" (dVarL 0)) (dC (.int 0)))) (dCons (dDat (dVar 1)) dNil)))))))
  (sSeq (sSet 3 (dDat (dBin gIx (dFldO "Lane" "now" (dVarL 0)) (dC (.int 0)))))
  (sSeq (sDrop (dMeth "Lane" "noted" 2 S_Lane_noted (dVarL 0) (dCons (dDat (dTup (dCons (dDat (dVar 2)) (dCons (dDat (dBin gAdd (dBin gIx (dFldO "Lane" "now" (dVarL 0)) (dC (.int 1))) (dTup (dCons (dDat (dVar 1)) dNil)))) dNil)))) dNil)))
  (sRet (dDat (dCB gLen (dCons (dDat (dComp (dZip (dCons (dDat (dVar 3)) (dCons (dDat (dVar 2)) dNil))) (gTp 2 (gCs (gNm 4) (gCs (gNm 5) gNl))) (dTest (dBin gNe (dVar 4) (dVar 5))) (dC (.int 1)) [4, 5])) dNil))))))))
def S_Lane_run : DF := fun ss T Q QX => ∃ (k : Nat) (g : Int) (now : St14) (past : List St14), Ln T k g now past ∧ LnOk g now ∧ ((∃ r : Rn, ss = [.ob k, .dat r.d] ∧ r.ok ∧ past.length < 50 ∧ Q (.dat (.int (chgL now.1 (ranL g now.1 r)))) (T.set k (laneO g (ranL g now.1 r, now.2 ++ [r]) (past ++ [now])))) ∨
  ∃ ds : List D, ss = [.ob k, .dat (.tup ds)] ∧ okds 59 ds = true ∧ isRun (.tup ds) = false ∧ QX ⟨"InvalidRun", none⟩ T)
theorem h_Lane_run : ∀ (ss : List Sl) (T : List Ob) (Q : Sl → List Ob → Prop) (QX : Xn → List Ob → Prop), ss.length = 2 → S_Lane_run ss T Q QX → B_Lane_run (endsOf T.length Q QX) (startD 6 2 ss T) := by
  intro ss T Q QX hl h
  obtain ⟨k, g, now, past, hk, ok, h⟩ := h
  have hT : k < T.length := (List.getElem?_eq_some_iff.mp hk).1
  have hk0 := hk
  unfold Ln at hk
  simp only [stD] at hk
  have l1 := ok.l1
  have l40 := ok.l40
  have r1 := ok.r1
  unfold B_Lane_run
  rcases h with ⟨r, rfl, rok, hp, h⟩ | ⟨ds, rfl, o1, nr, h⟩
  · walk_at "di"
    simp only [S_is_a_run]
    refine ⟨r.okd 59, ?_⟩
    rw [Rn.run rok]
    (walk_at "di"; repeat (simp only [hk]; walk_at "di"))
    refine ⟨g, now.1, r, rfl, l1, by omega, rok, ?_⟩
    (walk_at "di"; repeat (simp only [hk]; walk_at "di"))
    refine ⟨by rw [sizeLine_eq]; omega, ?_⟩
    refine ⟨k, g, now, (ranL g now.1 r, now.2 ++ [r]), past, by simp [stD, tupI], hk0, hp, ?_⟩
    have hk2 : k < (T.set k (laneO g (ranL g now.1 r, now.2 ++ [r]) (past ++ [now]))).length := by simpa using hT
    have hl2 : (T.set k (laneO g (ranL g now.1 r, now.2 ++ [r]) (past ++ [now]))).length = T.length := by simp
    generalize T.set k (laneO g (ranL g now.1 r, now.2 ++ [r]) (past ++ [now])) = T1 at h hk2 hl2 ⊢
    walk_at "di"
    rw [dComp_eq]
    walk_at "di"
    refine compK_pure chgD _ rfl rfl ?_ (by rw [zipD_len, List.length_map, sizeLine_eq]; omega) ?_ ?_
    · exact (low_ob hk2 _).trans rfl
    · intro d hd acc R hR
      obtain ⟨a, b, rfl⟩ := zip_mem _ _ _ hd
      walk_at "di"
      by_cases q : a = b
      · rw [show (a == b) = true by simpa using q]
        walk_at "di"
        have := hR [some (.ob k), some (.dat r.d), some (.dat (.tup ((ranL g now.1 r).map .int))), some (.dat (.tup (now.1.map .int))), some (.dat (.int a)), some (.dat (.int b))] rfl
        rw [show chgD (.tup [.int a, .int b]) = none from by simp [chgD, q]] at this
        exact this
      · rw [show (a == b) = false by simpa using q]
        walk_at "di"
        have := hR [some (.ob k), some (.dat r.d), some (.dat (.tup ((ranL g now.1 r).map .int))), some (.dat (.tup (now.1.map .int))), some (.dat (.int a)), some (.dat (.int b))] rfl
        rw [show chgD (.tup [.int a, .int b]) = some (.int 1) from by simp [chgD, q]] at this
        exact this
    · walk_at "di"
      rw [chg_zip, List.take_of_length_le (by omega)]
      exact h
  · walk_at "di"
    simp only [S_is_a_run]
    refine ⟨by rw [okd_60t]; exact o1, ?_⟩
    rw [nr]
    walk_at "di"
    exact h
/-- slots: 0 self, 1 runs, 2 there, 3 run -/
def B_Lane_iadd_u : DS :=
  (sSeq (sIf (dtOr (dtNot (dTest (dCB gIsi (dCons (dDat (dVar 1)) (dCons (dDat (dC (.raw (.ty "tuple")))) dNil))))) (dtOr (dTest (dBin gGt (dCB gLen (dCons (dDat (dVar 1)) dNil)) (dC (.int 20)))) (dTest (dBin gNe (dComp (dSeq (dVar 1)) (gNm 3) (dtNot (dTest (dVal (dCall 1 S_is_a_run (dCons (dDat (dVar 3)) dNil))))) (dVar 3) [3]) (dLst dNil))))) (sRaise "InvalidRun") sNil)
  (sSeq (sSet 2 (dDat (dBin gIx (dFldO "Lane" "now" (dVarL 0)) (dC (.int 0)))))
  (sSeq (sFor (dSeq (dVar 1)) (gNm 3) (sSet 2 (dDat (dVal (dCall 3 S_ran (dCons (dDat (dFldO "Lane" "space" (dVarL 0))) (dCons (dDat (dVar 2)) (dCons (dDat (dVar 3)) dNil))))))))
  (sSeq (sDrop (dMeth "Lane" "noted" 2 S_Lane_noted (dVarL 0) (dCons (dDat (dTup (dCons (dDat (dVar 2)) (dCons (dDat (dBin gAdd (dBin gIx (dFldO "Lane" "now" (dVarL 0)) (dC (.int 1))) (dVar 1))) dNil)))) dNil)))
  (sRet (dVarL 0))))))
def S_Lane_iadd_u : DF := fun ss T Q QX => ∃ (k : Nat) (g : Int) (now : St14) (past : List St14), Ln T k g now past ∧ LnOk g now ∧ ((∃ rs : List Rn, ss = [.ob k, .dat (.tup (rs.map Rn.d))] ∧ rs.length ≤ 20 ∧ (∀ r ∈ rs, r.ok) ∧ past.length < 50 ∧ Q (.ob k) (T.set k (laneO g (rs.foldl (ranL g) now.1, now.2 ++ rs) (past ++ [now])))) ∨
  ∃ d : D, ss = [.ob k, .dat d] ∧ okd 60 d = true ∧ runsB d = false ∧ QX ⟨"InvalidRun", none⟩ T)
theorem h_Lane_iadd_u : ∀ (ss : List Sl) (T : List Ob) (Q : Sl → List Ob → Prop) (QX : Xn → List Ob → Prop), ss.length = 2 → S_Lane_iadd_u ss T Q QX → B_Lane_iadd_u (endsOf T.length Q QX) (startD 4 2 ss T) := by
  intro ss T Q QX hl h
  obtain ⟨k, g, now, past, hk, ok, h⟩ := h
  have hT : k < T.length := (List.getElem?_eq_some_iff.mp hk).1
  have hk0 := hk
  unfold Ln at hk
  simp only [stD] at hk
  have l1 := ok.l1
  have l40 := ok.l40
  have r1 := ok.r1
  unfold B_Lane_iadd_u
  rcases h with ⟨rs, rfl, h20, rok, hp, h⟩ | ⟨d, rfl, o1, nr, h⟩
  · walk_at "di"
    rw [if_neg (by omega)]
    walk_at "di"
    rw [dComp_eq]
    walk_at "di"
    refine compK_idx rs Rn.d (fun r => none) rfl _ rfl rfl ?_ (by rw [sizeLine_eq]; omega) ?_ ?_
    · exact (low_ob hT _).trans rfl
    · intro r hr acc R hR
      walk_at "di"
      simp only [S_is_a_run]
      refine ⟨r.okd 59, ?_⟩
      rw [Rn.run (rok r hr)]
      walk_at "di"
      exact hR [some (.ob k), some (.dat (.tup (rs.map Rn.d))), none, some (.dat r.d)] rfl
    rw [show rs.filterMap (fun _ => (none : Option D)) = [] by simp]
    (walk_at "di"; repeat (simp only [hk]; walk_at "di"))
    refine loop_inv (fun ds ρ => ∃ (ys : List Int) (rest : List Rn) (v : Option Sl), ρ = ⟨T, [some (.ob k), some (.dat (.tup (rs.map Rn.d))), some (.dat (tupI ys)), v]⟩ ∧ ds = rest.map Rn.d ∧ ys.length = now.1.length ∧ (∀ r ∈ rest, r.ok) ∧ rest.foldl (ranL g) ys = rs.foldl (ranL g) now.1) ?_ ?_ _ _ ⟨now.1, rs, none, rfl, rfl, rfl, rok, rfl⟩
    · rintro d ds ρ ⟨ys, rest, v, rfl, e, hy, ho, hf⟩ N hN
      cases rest with
      | nil => cases e
      | cons r rest =>
        cases e
        (walk_at "di"; repeat (simp only [hk]; walk_at "di"))
        refine ⟨g, ys, r, rfl, by omega, by omega, ho r (by simp), ?_⟩
        (walk_at "di"; repeat (simp only [hk]; walk_at "di"))
        exact hN _ ⟨ranL g ys r, rest, _, rfl, rfl, by rw [ranL_len, hy], fun x hx => ho x (by simp [hx]), hf⟩
    · rintro ρ ⟨ys, rest, v, rfl, e, hy, ho, hf⟩
      have hr : rest = [] := by
        cases rest with
        | nil => rfl
        | cons y rest => cases e
      subst hr
      simp only [List.foldl_nil] at hf
      subst hf
      (walk_at "di"; repeat (simp only [hk]; walk_at "di"))
      refine ⟨by rw [sizeLine_eq]; omega, ?_⟩
      refine ⟨k, g, now, (rs.foldl (ranL g) now.1, now.2 ++ rs), past, by simp [stD, tupI], hk0, hp, ?_⟩
      walk_at "di"
      rw [if_pos hT, List.take_of_length_le (by simp)]
      exact h
  · cases d with
    | raw _ => simp [okd] at o1
    | fn _ => simp [okd] at o1
    | err _ _ => simp [okd] at o1
    | scr _ => simp [okd] at o1
    | tup ds =>
      walk_at "di"
      by_cases q : (20 : Int) < ds.length
      · rw [if_pos q]
        exact h
      · rw [if_neg q]
        walk_at "di"
        rw [dComp_eq]
        walk_at "di"
        rw [okd_60t] at o1
        refine compK_pure (fun d => if isRun d = true then none else some d) _ rfl rfl ?_ (by rw [sizeLine_eq]; omega) ?_ ?_
        · exact (low_ob hT _).trans rfl
        · intro d hd acc R hR
          have od := (okds_iff _ _).mp o1 d hd
          walk_at "di"
          simp only [S_is_a_run]
          refine ⟨okd_up _ _ od, ?_⟩
          have := hR [some (.ob k), some (.dat (.tup ds)), none, some (.dat d)] rfl
          cases qr : isRun d with
          | true =>
            rw [qr] at this
            walk_at "di"
            exact this
          | false =>
            rw [qr] at this
            walk_at "di"
            exact this
        · have ne : ((ds.filterMap fun d => if isRun d = true then none else some d).isEmpty) = false := by
            have nr : (decide (ds.length ≤ 20) && ds.all isRun) = false := nr
            rw [show decide (ds.length ≤ 20) = true by simp; omega, Bool.true_and, List.all_eq_false] at nr
            obtain ⟨x, hx, hn⟩ := nr
            rw [List.isEmpty_eq_false_iff]
            intro e
            have := List.filterMap_eq_nil_iff.mp e x hx
            rw [if_neg hn] at this
            cases this
          walk_at "di"
          rw [deqs_nil_iff, ne]
          refine ⟨(okds_iff _ _).mpr fun d hd => ?_, ?_⟩
          · obtain ⟨x, hx, e⟩ := List.mem_filterMap.mp hd
            have ox := (okds_iff _ _).mp o1 x hx
            split at e
            · cases e
            · cases e
              exact ox
          · walk_at "di"
            exact h
    | _ =>
      walk_at "di"
      exact h
theorem cut_init {α : Type} (l : List α) (x : α) : cutL (l ++ [x]) none (some (-1)) = l := by
  unfold cutL
  rw [HT.sIx_none, List.drop_zero, Nat.sub_zero]
  have e : HT.sIx (l ++ [x]).length (l ++ [x]).length (some (-1)) = l.length := by
    show (if (-1 : Int) < 0 then ((-1 : Int) + ((l ++ [x]).length : Int)).toNat else min (-1 : Int).toNat (l ++ [x]).length) = l.length
    rw [if_pos (by decide), List.length_append, List.length_singleton]
    omega
  rw [e, List.take_left']
  rfl
/-- slots: 0 self -/
def B_Lane_undo : DS :=
  (sSeq (sIf (dTest (dBin gEq (dFldO "Lane" "past" (dVarL 0)) (dTup dNil))) (sRaise "NothingToUndo") sNil)
  (sSeq (sFldO "Lane" "now" (dVarL 0) (dBin gIx (dFldO "Lane" "past" (dVarL 0)) (dUn gNeg (dC (.int 1)))))
  (sFldO "Lane" "past" (dVarL 0) (dSl (dFldO "Lane" "past" (dVarL 0)) dNo (dSo (dUn gNeg (dC (.int 1))))))))
def S_Lane_undo : DF := fun ss T Q QX => ∃ (k : Nat) (g : Int) (now : St14) (past : List St14), ss = [.ob k] ∧ Ln T k g now past ∧ past.length ≤ 900 ∧ ((past = [] ∧ QX ⟨"NothingToUndo", none⟩ T) ∨ ∃ (init : List St14) (p : St14), past = init ++ [p] ∧ Q (.dat .non) (T.set k (laneO g p init)))
theorem h_Lane_undo : ∀ (ss : List Sl) (T : List Ob) (Q : Sl → List Ob → Prop) (QX : Xn → List Ob → Prop), ss.length = 1 → S_Lane_undo ss T Q QX → B_Lane_undo (endsOf T.length Q QX) (startD 1 1 ss T) := by
  intro ss T Q QX hl h
  obtain ⟨k, g, now, past, rfl, hk, hz, h⟩ := h
  have hT : k < T.length := (List.getElem?_eq_some_iff.mp hk).1
  have hk1 : ∀ o, (T.set k o)[k]? = some o := idx_set hT
  unfold Ln at hk
  unfold B_Lane_undo
  rcases h with ⟨rfl, h⟩ | ⟨init, p, rfl, h⟩
  · (walk_at "di"; repeat (simp only [hk]; walk_at "di"))
    exact h
  · rw [List.map_append, List.map_singleton] at hk
    rw [List.length_append, List.length_singleton] at hz
    (walk_at "di"; repeat (simp only [hk, hk1]; walk_at "di"))
    refine ⟨?_, ?_⟩
    · have := okds_st (init ++ [p]) 56
      rwa [List.map_append, List.map_singleton] at this
    rw [deqs_nil_iff, show (init.map stD ++ [stD p]).isEmpty = false from by simp, atI_last, cut_init]
    (walk_at "di"; repeat (simp only [hk, hk1]; walk_at "di"))
    rw [List.take_of_length_le (by simp)]
    exact h
/-- slots: 0 self, 1 sheep -/
def B_Lane_getitem_u : DS :=
  (sSeq (sIf (dtNot (dTest (dVal (dCall 3 S_is_int (dCons (dDat (dVar 1)) (dCons (dDat (dBin gSub (dC (.int 0)) (dCB gLen (dCons (dDat (dBin gIx (dFldO "Lane" "now" (dVarL 0)) (dC (.int 0)))) dNil)))) (dCons (dDat (dBin gSub (dCB gLen (dCons (dDat (dBin gIx (dFldO "Lane" "now" (dVarL 0)) (dC (.int 0)))) dNil)) (dC (.int 1)))) dNil))))))) (sRaise "InvalidSheep") sNil)
  (sRet (dDat (dBin gIx (dBin gIx (dFldO "Lane" "now" (dVarL 0)) (dC (.int 0))) (dVar 1)))))
def S_Lane_getitem_u : DF := fun ss T Q QX => ∃ (k : Nat) (g : Int) (now : St14) (past : List St14), Ln T k g now past ∧ ((∃ i x : Int, ss = [.ob k, .dat (.int i)] ∧ atI now.1 i = some x ∧ Q (.dat (.int x)) T) ∨
  ∃ d : D, ss = [.ob k, .dat d] ∧ okd 60 d = true ∧ isInt d (0 - (now.1.length : Int)) ((now.1.length : Int) - 1) = false ∧ QX ⟨"InvalidSheep", none⟩ T)
theorem h_Lane_getitem_u : ∀ (ss : List Sl) (T : List Ob) (Q : Sl → List Ob → Prop) (QX : Xn → List Ob → Prop), ss.length = 2 → S_Lane_getitem_u ss T Q QX → B_Lane_getitem_u (endsOf T.length Q QX) (startD 2 2 ss T) := by
  intro ss T Q QX hl h
  obtain ⟨k, g, now, past, hk, h⟩ := h
  unfold Ln at hk
  simp only [stD] at hk
  unfold B_Lane_getitem_u
  rcases h with ⟨i, x, rfl, hi, h⟩ | ⟨d, rfl, o1, nr, h⟩
  · (walk_at "di"; repeat (simp only [hk]; walk_at "di"))
    simp only [S_is_int]
    refine ⟨okd_int _ _, ?_⟩
    rw [isInt_int (at_bounds hi).1 (at_bounds hi).2]
    (walk_at "di"; repeat (simp only [hk]; walk_at "di"))
    rw [hi]
    exact h
  · (walk_at "di"; repeat (simp only [hk]; walk_at "di"))
    simp only [S_is_int]
    refine ⟨o1, ?_⟩
    rw [nr]
    (walk_at "di"; repeat (simp only [hk]; walk_at "di"))
    exact h
/-- whether it is a whole number among these -/
def inB (d : D) (xs : List Int) : Bool := match d with
  | .int i => decide (i ∈ xs)
  | _ => false
theorem any_int : ∀ (xs : List Int) (i : Int), ((xs.map D.int).any fun z => deq z (.int i)) = decide (i ∈ xs)
  | [], i => by simp
  | x :: xs, i => by
    rw [List.map_cons, List.any_cons, any_int xs i, deq_int]
    by_cases q : x = i
    · subst q; simp
    · rw [show (x == i) = false by simpa using q]
      rw [Bool.false_or, decide_eq_decide, List.mem_cons]
      exact ⟨.inr, fun z => z.elim (fun w => absurd w.symm q) id⟩
/-- slots: 0 self, 1 value -/
def B_Lane_contains_u : DS :=
  (sRet (dDat (dAnd (dCB gIsi (dCons (dDat (dVar 1)) (dCons (dDat (dC (.raw (.ty "int")))) dNil))) (dAnd (dNot (dCB gIsi (dCons (dDat (dVar 1)) (dCons (dDat (dC (.raw (.ty "bool")))) dNil)))) (dBin (gIn false) (dVar 1) (dBin gIx (dFldO "Lane" "now" (dVarL 0)) (dC (.int 0))))))))
def S_Lane_contains_u : DF := fun ss T Q _ => ∃ (k : Nat) (g : Int) (now : St14) (past : List St14) (d : D), Ln T k g now past ∧ ss = [.ob k, .dat d] ∧ okd 60 d = true ∧ Q (.dat (.bl (inB d now.1))) T
theorem h_Lane_contains_u : ∀ (ss : List Sl) (T : List Ob) (Q : Sl → List Ob → Prop) (QX : Xn → List Ob → Prop), ss.length = 2 → S_Lane_contains_u ss T Q QX → B_Lane_contains_u (endsOf T.length Q QX) (startD 2 2 ss T) := by
  intro ss T Q QX hl h
  obtain ⟨k, g, now, past, d, hk, rfl, o1, h⟩ := h
  unfold Ln at hk
  simp only [stD] at hk
  unfold B_Lane_contains_u
  cases d with
  | raw _ => simp [okd] at o1
  | fn _ => simp [okd] at o1
  | err _ _ => simp [okd] at o1
  | scr _ => simp [okd] at o1
  | int i =>
    (walk_at "di"; repeat (simp only [hk]; walk_at "di"))
    rw [show ((now.1.map D.int).any fun z => deq z (.int i)) = inB (.int i) now.1 from any_int now.1 i]
    exact h
  | _ =>
    (walk_at "di"; repeat (simp only [hk]; walk_at "di"))
    exact h
/-- slots: 0 self -/
def B_Lane_len_u : DS :=
  (sRet (dDat (dCB gLen (dCons (dDat (dFldO "Lane" "past" (dVarL 0))) dNil))))
def S_Lane_len_u : DF := fun ss T Q _ => ∃ (k : Nat) (g : Int) (now : St14) (past : List St14), ss = [.ob k] ∧ Ln T k g now past ∧ Q (.dat (.int past.length)) T
theorem h_Lane_len_u : ∀ (ss : List Sl) (T : List Ob) (Q : Sl → List Ob → Prop) (QX : Xn → List Ob → Prop), ss.length = 1 → S_Lane_len_u ss T Q QX → B_Lane_len_u (endsOf T.length Q QX) (startD 1 1 ss T) := by
  intro ss T Q QX hl h
  obtain ⟨k, g, now, past, rfl, hk, h⟩ := h
  unfold Ln at hk
  unfold B_Lane_len_u
  (walk_at "di"; repeat (simp only [hk]; walk_at "di"))
  exact h
/-- slots: 0 self, 1 other -/
def B_Lane_eq_u : DS :=
  (sRet (dDat (dAnd (dIsI "Lane" (dVarL 1)) (dAnd (dBin gEq (dFldO "Lane" "space" (dVarL 0)) (dFldO "Lane" "space" (dVarL 1))) (dBin gEq (dFldO "Lane" "now" (dVarL 0)) (dFldO "Lane" "now" (dVarL 1)))))))
def S_Lane_eq_u : DF := fun ss T Q _ => ∃ (k : Nat) (g : Int) (now : St14) (past : List St14), Ln T k g now past ∧ ((∃ (d : D) (t : String), ss = [.ob k, .dat d] ∧ tyD d = some t ∧ Q (.dat (.bl false)) T) ∨
  ∃ (k2 : Nat) (g2 : Int) (now2 : St14) (past2 : List St14), ss = [.ob k, .ob k2] ∧ Ln T k2 g2 now2 past2 ∧ Q (.dat (.bl (g == g2 && deq (stD now) (stD now2)))) T)
theorem h_Lane_eq_u : ∀ (ss : List Sl) (T : List Ob) (Q : Sl → List Ob → Prop) (QX : Xn → List Ob → Prop), ss.length = 2 → S_Lane_eq_u ss T Q QX → B_Lane_eq_u (endsOf T.length Q QX) (startD 2 2 ss T) := by
  intro ss T Q QX hl h
  obtain ⟨k, g, now, past, hk, h⟩ := h
  unfold Ln at hk
  unfold B_Lane_eq_u
  rcases h with ⟨d, t, rfl, ht, h⟩ | ⟨k2, g2, now2, past2, rfl, hk2, h⟩
  · cases d
    all_goals
      first
        | (cases ht; done)
        | ((walk_at "di"; repeat (simp only [hk]; walk_at "di")); exact h)
  · unfold Ln at hk2
    (walk_at "di"; repeat (simp only [hk, hk2]; walk_at "di"))
    cases q : g == g2 with
    | true =>
      rw [q] at h
      rw [if_pos rfl]
      exact ⟨okd_st now 57, okd_st now2 57, h⟩
    | false =>
      rw [q] at h
      rw [if_neg Bool.false_ne_true]
      exact h
end DL
set_option Elab.async false
set_option linter.all false
set_option maxRecDepth 100000
set_option maxHeartbeats 4000000
set_option autoImplicit false
/-! Law k14: lanes: entering, lots. -/
namespace DL
open PySem PySem.Spec PyProof.Rows L2
local macro_rules | `(tactic| walk_at "dl") => `(tactic| (try simp only [sSeq, sSet, sRet, sRetN, sIf, sNil, sDrop, sFor, sTo, sPar2, sPar3, sNever, sRaise, sSetIx, dVar, dC, dVarL, dDat, dVal, valK_dat, valK_ob, dBin, dUn, dNil, dCons, dats, dTup, dLst, dNew, dNewOf, dTest, dtAnd, dtOr, dtNot, dAnd, dOr, dNot, dIf, dChain, dCB, dSl, dNo, dSo, sApp, dIxO, dLenO, dMaxD, dGetP, dCall, dSeq, dRng1, dRng2, dZip, dEnum, gNm, gTp, gCs, gNl, dYes,
  startD, endsOf, retD, wipeS, gAdd, gSub, gMul, gMulA, gMulB, gDiv, gMod, gPow, gNeg, gLt, gLe, gGt, gGe, gEq, gNe, gIn, gIx, gSl, gIsi, tyD, isiD, gLen, gAbs, gInt, gMax2, gMin2, gTuple, gList, gIsN, isNon, gIsB, gNotB,
  List.getElem?_cons_zero, List.getElem?_cons_succ, List.getElem?_nil, List.set_cons_zero, List.set_cons_succ, List.map_cons, List.map_nil, List.cons_append, List.nil_append, List.length_cons, List.length_nil, List.replicate_succ, List.replicate_zero, Option.map_some, Nat.reduceSub, Nat.reduceAdd, Nat.reduceLeDiff,
  List.take_length, beq_self_eq_true, String.reduceBEq, Bool.or_true, Bool.true_or, Bool.or_false, Bool.false_or, Bool.and_true, Bool.and_false, Bool.true_and, Bool.false_and, Bool.or_self, Bool.and_self, decide_true, decide_false, dmem, List.any_cons, List.any_nil, okd_non, okd_bl, okd_int, okd_str, okds_nil, okds_cons, okd_60t, okd_59t, okd_58t, okd_60l, okd_59l, okd_58l, st_tk, st_tb, st_tf, st_kt, st_kb, st_kf, st_bt, st_bk, st_bf, st_ft, st_fk, st_fb, nat_num, Int.reduceBEq, Int.reduceBNe, Int.reduceEq, Int.reduceLT, Int.reduceLE, Int.reduceAdd, Int.reduceSub, Int.reduceMul, Int.reduceNeg, Int.reduceToNat, Int.reducePow, atI_0, atI_1, atI_2, set_last, get_last, take_last, deq_str, deq_int, deq_non, deq_bl, deq_tt, deq_ll, deqs_nn, deqs_cc, deqs_nc, deqs_cn, Nat.lt_irrefl, List.set_set, ixN_20, ixN_21, tupI, okds_ints, atI_map', List.length_map, cutL_map, eq_self, if_true, if_false, ite_true, ite_false, Bool.false_eq_true, decide_eq_true_eq, true_and, and_true, and_self, Bool.not_true, Bool.not_false, true_or, or_true, false_or, or_false, Option.some.injEq, reduceCtorEq]))
local macro_rules | `(tactic| walk_at "di") => `(tactic| (try simp only [dFldO, sFldO, OwnP, dOwn, dOwnT, okTy, dLenI, dStrI, dBoolI, dInI, sAugI, dMeth, dMake, dStar, dProp, dCallO, dMakeV, dIsI, intSl, strSl, blSl, starF, gBool, dConO, dAppE, dTupF, dVarT, dTIdx, dListG, fixF, starF1, lk_space, lk_now, lk_past, lk_noted, lk_enter, lk_undo, lk_run, lk_lots, lk_MOST, pt_1, pt_2, pt_3, pt_now, pt_past, gSortedI, dats_map, sSeq, sSet, sRet, sRetN, sIf, sNil, sDrop, sFor, sTo, sPar2, sPar3, sNever, sRaise, sSetIx, dVar, dC, dVarL, dDat, dVal, valK_dat, valK_ob, dBin, dUn, dNil, dCons, dats, dTup, dLst, dNew, dNewOf, dTest, dtAnd, dtOr, dtNot, dAnd, dOr, dNot, dIf, dChain, dCB, dSl, dNo, dSo, sApp, dIxO, dLenO, dMaxD, dGetP, dCall, dSeq, dRng1, dRng2, dZip, dEnum, gNm, gTp, gCs, gNl, dYes,
  startD, endsOf, retD, wipeS, gAdd, gSub, gMul, gMulA, gMulB, gDiv, gMod, gPow, gNeg, gLt, gLe, gGt, gGe, gEq, gNe, gIn, gIx, gSl, gIsi, tyD, isiD, gLen, gAbs, gInt, gMax2, gMin2, gTuple, gList, gIsN, isNon, gIsB, gNotB,
  List.getElem?_cons_zero, List.getElem?_cons_succ, List.getElem?_nil, List.set_cons_zero, List.set_cons_succ, List.map_cons, List.map_nil, List.cons_append, List.nil_append, List.length_cons, List.length_nil, List.replicate_succ, List.replicate_zero, Option.map_some, Nat.reduceSub, Nat.reduceAdd, Nat.reduceLeDiff,
  List.take_length, beq_self_eq_true, String.reduceBEq, Bool.or_true, Bool.true_or, Bool.or_false, Bool.false_or, Bool.and_true, Bool.and_false, Bool.true_and, Bool.false_and, Bool.or_self, Bool.and_self, decide_true, decide_false, dmem, List.any_cons, List.any_nil, okd_non, okd_bl, okd_int, okd_str, okds_nil, okds_cons, okd_60t, okd_59t, okd_58t, okd_60l, okd_59l, okd_58l, st_tk, st_tb, st_tf, st_kt, st_kb, st_kf, st_bt, st_bk, st_bf, st_ft, st_fk, st_fb, nat_num, Int.reduceBEq, Int.reduceBNe, Int.reduceEq, Int.reduceLT, Int.reduceLE, Int.reduceAdd, Int.reduceSub, Int.reduceMul, Int.reduceNeg, Int.reduceToNat, Int.reducePow, atI_0, atI_1, atI_2, set_last, get_last, take_last, deq_str, deq_int, deq_non, deq_bl, deq_tt, deq_ll, deqs_nn, deqs_cc, deqs_nc, deqs_cn, Nat.lt_irrefl, List.set_set, ixN_20, ixN_21, tupI, okds_ints, atI_map', List.length_map, cutL_map, eq_self, if_true, if_false, ite_true, ite_false, Bool.false_eq_true, decide_eq_true_eq, true_and, and_true, and_self, Bool.not_true, Bool.not_false, true_or, or_true, false_or, or_false, Option.some.injEq, reduceCtorEq]))
/-! ### a place put among places -/
def insI (p : Int) : List Int → List Int
  | [] => [p]
  | x :: r => if p ≤ x then p :: x :: r else x :: insI p r
theorem insI_perm (p : Int) : ∀ xs : List Int, (insI p xs).Perm (p :: xs)
  | [] => List.Perm.refl _
  | x :: r => by
    unfold insI
    split
    · exact List.Perm.refl _
    · exact ((insI_perm p r).cons x).trans (List.Perm.swap p x r)
theorem insI_len (p : Int) (xs : List Int) : (insI p xs).length = xs.length + 1 := by rw [(insI_perm p xs).length_eq, List.length_cons]
theorem insI_mem {p x : Int} {xs : List Int} : x ∈ insI p xs ↔ x = p ∨ x ∈ xs := by rw [(insI_perm p xs).mem_iff, List.mem_cons]
theorem insI_sorted (p : Int) : ∀ xs : List Int, xs.Pairwise (· ≤ ·) → (insI p xs).Pairwise (· ≤ ·)
  | [], _ => List.pairwise_singleton _ _
  | x :: r, h => by
    obtain ⟨h1, h2⟩ := List.pairwise_cons.mp h
    unfold insI
    split
    · rename_i q
      refine List.pairwise_cons.mpr ⟨fun y hy => ?_, h⟩
      rcases List.mem_cons.mp hy with rfl | hy
      · exact q
      · exact Int.le_trans q (h1 y hy)
    · rename_i q
      refine List.pairwise_cons.mpr ⟨fun y hy => ?_, insI_sorted p r h2⟩
      rcases insI_mem.mp hy with rfl | hy
      · omega
      · exact h1 y hy
theorem sorted_eq : ∀ {a b : List Int}, a.Perm b → a.Pairwise (· ≤ ·) → b.Pairwise (· ≤ ·) → a = b
  | [], b, h, _, _ => (List.nil_perm.mp h).symm
  | x :: a, [], h, _, _ => by have := h.length_eq; simp at this
  | x :: a, y :: b, h, ha, hb => by
    obtain ⟨a1, a2⟩ := List.pairwise_cons.mp ha
    obtain ⟨b1, b2⟩ := List.pairwise_cons.mp hb
    have e : x = y := by
      have m1 : x ∈ y :: b := h.mem_iff.mp List.mem_cons_self
      have m2 : y ∈ x :: a := h.mem_iff.mpr List.mem_cons_self
      rcases List.mem_cons.mp m1 with q | q
      · exact q
      · rcases List.mem_cons.mp m2 with r | r
        · exact r.symm
        · have := b1 x q
          have := a1 y r
          omega
    subst e
    rw [sorted_eq (List.Perm.cons_inv h) a2 b2]
theorem spaced_sorted {g : Int} (g1 : 1 ≤ g) : ∀ {xs : List Int}, spaced g xs = true → xs.Pairwise fun x y => x + g ≤ y
  | [], _ => List.Pairwise.nil
  | [x], _ => List.pairwise_singleton _ _
  | x :: y :: r, h => by
    have h' : (decide (x + g ≤ y) && spaced g (y :: r)) = true := h
    rw [Bool.and_eq_true, decide_eq_true_eq] at h'
    have ih := spaced_sorted g1 h'.2
    refine List.pairwise_cons.mpr ⟨fun z hz => ?_, ih⟩
    rcases List.mem_cons.mp hz with rfl | hz
    · exact h'.1
    · have := (List.pairwise_cons.mp ih).1 z hz
      omega
theorem sorted_spaced {g : Int} : ∀ {xs : List Int}, (xs.Pairwise fun x y => x + g ≤ y) → spaced g xs = true
  | [], _ => rfl
  | [x], _ => rfl
  | x :: y :: r, h => by
    obtain ⟨h1, h2⟩ := List.pairwise_cons.mp h
    show (decide (x + g ≤ y) && spaced g (y :: r)) = true
    rw [Bool.and_eq_true, decide_eq_true_eq]
    exact ⟨h1 y List.mem_cons_self, sorted_spaced h2⟩
theorem le_of_spaced {g : Int} (g1 : 1 ≤ g) {xs : List Int} (h : spaced g xs = true) : xs.Pairwise (· ≤ ·) := (spaced_sorted g1 h).imp fun h => by omega
/-- far enough from each of them -/
def farB (g p : Int) (xs : List Int) : Bool := xs.all fun x => decide (x + g ≤ p ∨ p + g ≤ x)
theorem ins_spaced {g p : Int} (g1 : 1 ≤ g) : ∀ {xs : List Int}, spaced g xs = true → spaced g (insI p xs) = farB g p xs := by
  intro xs h
  have pw := spaced_sorted g1 h
  clear h
  have key : ∀ xs : List Int, (xs.Pairwise fun x y => x + g ≤ y) → (((insI p xs).Pairwise fun x y => x + g ≤ y) ↔ ∀ x ∈ xs, x + g ≤ p ∨ p + g ≤ x) := by
    intro xs
    induction xs with
    | nil => intro _; simp [insI]
    | cons x r ih =>
      intro h
      obtain ⟨h1, h2⟩ := List.pairwise_cons.mp h
      unfold insI
      split
      · rename_i q
        rw [List.pairwise_cons]
        constructor
        · rintro ⟨a, _⟩ y hy
          exact .inr (a y hy)
        · intro a
          refine ⟨fun y hy => ?_, h⟩
          have ax := a x List.mem_cons_self
          rcases List.mem_cons.mp hy with rfl | hy
          · omega
          · have := h1 y hy
            omega
      · rename_i q
        rw [List.pairwise_cons, ih h2]
        constructor
        · rintro ⟨a, b⟩ y hy
          rcases List.mem_cons.mp hy with rfl | hy
          · exact .inl (a p (insI_mem.mpr (.inl rfl)))
          · exact b y hy
        · intro a
          refine ⟨fun y hy => ?_, fun y hy => a y (List.mem_cons_of_mem _ hy)⟩
          rcases insI_mem.mp hy with rfl | hy
          · have := a x List.mem_cons_self
            omega
          · exact h1 y hy
  rw [Bool.eq_iff_iff]
  unfold farB
  rw [List.all_eq_true]
  simp only [decide_eq_true_eq]
  rw [← key xs pw]
  exact ⟨spaced_sorted g1, sorted_spaced⟩
/-- slots: 0 self, 1 place, 2 places, 3 near, 4 one, 5 other -/
def B_Lane_enter : DS :=
  (sSeq (sIf (dtNot (dTest (dVal (dCall 3 S_is_int (dCons (dDat (dVar 1)) (dCons (dDat (dC (.int 0))) (dCons (dDat (dC (.int 1000000000000000000000000000000))) dNil))))))) (sRaise "InvalidPlace") sNil)
  (sSeq (sSet 2 (dTupF (dCB gSortedI (dCons (dDat (dBin gAdd (dBin gIx (dFldO "Lane" "now" (dVarL 0)) (dC (.int 0))) (dTup (dCons (dDat (dVar 1)) dNil)))) dNil))))
  (sSeq (sSet 3 (dDat (dComp (dZip (dCons (dDat (dVarT 2)) (dCons (dDat (dSl (dVarT 2) (dSo (dC (.int 1))) dNo)) dNil))) (gTp 2 (gCs (gNm 4) (gCs (gNm 5) gNl))) (dTest (dBin gLt (dBin gSub (dVar 5) (dVar 4)) (dFldO "Lane" "space" (dVarL 0)))) (dC (.int 1)) [4, 5])))
  (sSeq (sIf (dtOr (dTest (dBin gNe (dVar 3) (dLst dNil))) (dTest (dBin gGt (dCB gLen (dCons (dDat (dVarT 2)) dNil)) (dC (.int 40))))) (sRaise "InvalidPlace") sNil)
  (sSeq (sDrop (dMeth "Lane" "noted" 2 S_Lane_noted (dVarL 0) (dCons (dDat (dTup (dCons (dDat (dVarT 2)) (dCons (dDat (dBin gIx (dFldO "Lane" "now" (dVarL 0)) (dC (.int 1)))) dNil)))) dNil)))
  (sRet (dDat (dTIdx 2 (dVar 1)))))))))
def S_Lane_enter : DF := fun ss T Q QX => ∃ (k : Nat) (g : Int) (now : St14) (past : List St14), Ln T k g now past ∧ LnOk g now ∧ ((∃ p : Int, ss = [.ob k, .dat (.int p)] ∧ 0 ≤ p ∧ p ≤ 1000000000000000000000000000000 ∧ farB g p now.1 = true ∧ now.1.length < 40 ∧ past.length < 50 ∧ Q (.dat (.int ((insI p now.1).idxOf p : Nat))) (T.set k (laneO g (insI p now.1, now.2) (past ++ [now])))) ∨
  (∃ p : Int, ss = [.ob k, .dat (.int p)] ∧ 0 ≤ p ∧ p ≤ 1000000000000000000000000000000 ∧ (farB g p now.1 = false ∨ 40 ≤ now.1.length) ∧ QX ⟨"InvalidPlace", none⟩ T) ∨
  ∃ d : D, ss = [.ob k, .dat d] ∧ okd 60 d = true ∧ isInt d 0 1000000000000000000000000000000 = false ∧ QX ⟨"InvalidPlace", none⟩ T)
theorem h_Lane_enter : ∀ (ss : List Sl) (T : List Ob) (Q : Sl → List Ob → Prop) (QX : Xn → List Ob → Prop), ss.length = 2 → S_Lane_enter ss T Q QX → B_Lane_enter (endsOf T.length Q QX) (startD 6 2 ss T) := by
  intro ss T Q QX hl h
  obtain ⟨k, g, now, past, hk, ok, h⟩ := h
  have hT : k < T.length := (List.getElem?_eq_some_iff.mp hk).1
  have hk0 := hk
  unfold Ln at hk
  simp only [stD] at hk
  have l1 := ok.l1
  have l40 := ok.l40
  have r1 := ok.r1
  have g1 := ok.g1
  have srt := le_of_spaced g1 ok.sp
  unfold B_Lane_enter
  have main : ∀ p : Int, ss = [.ob k, .dat (.int p)] → 0 ≤ p → p ≤ 1000000000000000000000000000000 →
      (farB g p now.1 = true → now.1.length < 40 → past.length < 50 ∧ Q (.dat (.int ((insI p now.1).idxOf p : Nat))) (T.set k (laneO g (insI p now.1, now.2) (past ++ [now])))) → ((farB g p now.1 = false ∨ 40 ≤ now.1.length) → QX ⟨"InvalidPlace", none⟩ T) →
      B_Lane_enter (endsOf T.length Q QX) (startD 6 2 ss T) := by
    intro p e p0 p9 hy hn
    subst e
    unfold B_Lane_enter
    walk_at "di"
    simp only [S_is_int]
    refine ⟨okd_int _ _, ?_⟩
    rw [isInt_int p0 p9]
    (walk_at "di"; repeat (simp only [hk]; walk_at "di"))
    refine ⟨by rw [sizeLine_eq]; omega, now.1 ++ [p], by simp, fun ns' pm pw => ⟨ns', rfl, fun a o od => ?_⟩⟩
    obtain rfl : ns' = insI p now.1 := sorted_eq (pm.trans ((List.perm_append_comm).trans (insI_perm p now.1).symm)) pw (insI_sorted p _ srt)
    have il : (insI p now.1).length ≤ 1000 := by rw [insI_len]; omega
    have spd := ins_spaced (p := p) g1 ok.sp
    have il2 := insI_len p now.1
    rw [dComp_eq]
    walk_at "di"
    refine ⟨a, o, _, rfl, il, a, o, _, rfl, il, ?_⟩
    rw [cut_from _ (by decide)]
    generalize insI p now.1 = ys at *
    refine compK_pure (pairLt g) _ rfl rfl ?_ (by rw [zipD_len, List.length_map, sizeLine_eq]; omega) ?_ ?_
    · exact (low_ob hT _).trans rfl
    · intro d hd acc R hR
      obtain ⟨x, y, rfl⟩ := zip_mem _ _ _ hd
      have hk1 : (T ++ [Ob.lst acc])[k]? = T[k]? := by rw [List.getElem?_append_left hT]
      rw [hk] at hk1
      (walk_at "di"; repeat (simp only [hk1]; walk_at "di"))
      have := hR [some (.ob k), some (.dat (.int p)), some (tplI a o ys), none, some (.dat (.int x)), some (.dat (.int y))] rfl
      by_cases q : y - x < g
      · rw [if_pos q]
        rw [show pairLt g (.tup [.int x, .int y]) = some (.int 1) from if_pos q] at this
        walk_at "di"
        exact this
      · rw [if_neg q]
        rw [show pairLt g (.tup [.int x, .int y]) = none from if_neg q] at this
        walk_at "di"
        exact this
    · walk_at "di"
      rw [deqs_nil_iff, spaced_zip, spd]
      have ko : okds 59 ((zipD (ys.map .int) ((ys.drop 1).map .int)).filterMap (pairLt g)) = true := (okds_iff _ _).mpr fun d hd => by
        obtain ⟨x, hx, e⟩ := List.mem_filterMap.mp hd
        obtain ⟨a, b, rfl⟩ := zip_mem _ _ _ hx
        have e : (if b - a < g then some (D.int 1) else none) = some d := e
        split at e
        · cases e
          rfl
        · cases e
      refine ⟨ko, ?_⟩
      cases q : farB g p now.1 with
      | false =>
        walk_at "di"
        exact hn (.inl q)
      | true =>
        walk_at "di"
        refine ⟨a, o, ys, rfl, il, ?_⟩
        by_cases q2 : (40 : Int) < ys.length
        · rw [if_pos q2]
          exact hn (.inr (by omega))
        · rw [if_neg q2]
          obtain ⟨hp, hy⟩ := hy q (by omega)
          (walk_at "di"; repeat (simp only [hk]; walk_at "di"))
          refine ⟨a, o, ys, rfl, il, ?_⟩
          (walk_at "di"; repeat (simp only [hk]; walk_at "di"))
          refine ⟨k, g, now, (ys, now.2), past, by simp [stD, tupI], hk0, hp, ?_⟩
          walk_at "di"
          refine ⟨a, o, ys, rfl, od, p, rfl, pm.mem_iff.mpr (by simp), ?_⟩
          rw [List.take_of_length_le (by simp)]
          exact hy
  rcases h with ⟨p, rfl, p0, p9, hf, h40, hp, h⟩ | ⟨p, rfl, p0, p9, hf, h⟩ | ⟨d, rfl, o1, nr, h⟩
  · exact main p rfl p0 p9 (fun _ _ => ⟨hp, h⟩) (fun z => by
      rcases z with z | z
      · rw [hf] at z
        cases z
      · omega)
  · exact main p rfl p0 p9 (fun a b => by
      rcases hf with z | z
      · rw [a] at z
        cases z
      · omega) (fun _ => h)
  · walk_at "di"
    simp only [S_is_int]
    refine ⟨o1, ?_⟩
    rw [nr]
    walk_at "di"
    exact h
/-- side by side, all of them -/
def evenB (g : Int) : List Int → Bool
  | x :: y :: r => (y - x == g) && evenB g (y :: r)
  | _ => true
def pairNe (g : Int) (d : D) : Option D := match d with
  | .tup [.int a, .int b] => if b - a = g then none else some (.int 1)
  | _ => none
theorem even_zip (g : Int) : ∀ xs : List Int, ((zipD (xs.map .int) ((xs.drop 1).map .int)).filterMap (pairNe g)).isEmpty = evenB g xs
  | [] => rfl
  | [x] => rfl
  | x :: y :: r => by
    have ih := even_zip g (y :: r)
    show ((.tup [.int x, .int y] :: zipD ((y :: r).map .int) (((y :: r).drop 1).map .int)).filterMap (pairNe g)).isEmpty = ((y - x == g) && evenB g (y :: r))
    rw [List.filterMap_cons, ← ih]
    simp only [pairNe]
    by_cases q : y - x = g
    · rw [if_pos q, show (y - x == g) = true by simpa using q]
      rfl
    · rw [if_neg q, show (y - x == g) = false by simpa using q]
      rfl
/-- slots: 0 self, 1 places, 2 one, 3 other -/
def B_Lane_bool_u : DS :=
  (sSeq (sSet 1 (dDat (dBin gIx (dFldO "Lane" "now" (dVarL 0)) (dC (.int 0)))))
  (sRet (dDat (dCB gBool (dCons (dDat (dBin gEq (dComp (dZip (dCons (dDat (dVar 1)) (dCons (dDat (dSl (dVar 1) (dSo (dC (.int 1))) dNo)) dNil))) (gTp 2 (gCs (gNm 2) (gCs (gNm 3) gNl))) (dTest (dBin gNe (dBin gSub (dVar 3) (dVar 2)) (dFldO "Lane" "space" (dVarL 0)))) (dC (.int 1)) [2, 3]) (dLst dNil))) dNil)))))
def S_Lane_bool_u : DF := fun ss T Q _ => ∃ (k : Nat) (g : Int) (now : St14) (past : List St14), ss = [.ob k] ∧ Ln T k g now past ∧ LnOk g now ∧ Q (.dat (.bl (evenB g now.1))) T
theorem h_Lane_bool_u : ∀ (ss : List Sl) (T : List Ob) (Q : Sl → List Ob → Prop) (QX : Xn → List Ob → Prop), ss.length = 1 → S_Lane_bool_u ss T Q QX → B_Lane_bool_u (endsOf T.length Q QX) (startD 4 1 ss T) := by
  intro ss T Q QX hl h
  obtain ⟨k, g, now, past, rfl, hk, ok, h⟩ := h
  have hT : k < T.length := (List.getElem?_eq_some_iff.mp hk).1
  unfold Ln at hk
  simp only [stD] at hk
  have l40 := ok.l40
  unfold B_Lane_bool_u
  (walk_at "di"; repeat (simp only [hk]; walk_at "di"))
  rw [dComp_eq]
  walk_at "di"
  rw [cut_from _ (by decide)]
  refine compK_pure (pairNe g) _ rfl rfl ?_ (by rw [zipD_len, List.length_map, sizeLine_eq]; omega) ?_ ?_
  · exact (low_ob hT _).trans rfl
  · intro d hd acc R hR
    obtain ⟨x, y, rfl⟩ := zip_mem _ _ _ hd
    have hk1 : (T ++ [Ob.lst acc])[k]? = T[k]? := by rw [List.getElem?_append_left hT]
    rw [hk] at hk1
    (walk_at "di"; repeat (simp only [hk1]; walk_at "di"))
    have := hR [some (.ob k), some (.dat (.tup (now.1.map .int))), some (.dat (.int x)), some (.dat (.int y))] rfl
    by_cases q : y - x = g
    · rw [show (y - x == g) = true by simpa using q]
      rw [show pairNe g (.tup [.int x, .int y]) = none from if_pos q] at this
      walk_at "di"
      exact this
    · rw [show (y - x == g) = false by simpa using q]
      rw [show pairNe g (.tup [.int x, .int y]) = some (.int 1) from if_neg q] at this
      walk_at "di"
      exact this
  · walk_at "di"
    rw [deqs_nil_iff, even_zip]
    refine ⟨(okds_iff _ _).mpr fun d hd => ?_, h⟩
    obtain ⟨x, hx, e⟩ := List.mem_filterMap.mp hd
    obtain ⟨a, b, rfl⟩ := zip_mem _ _ _ hx
    have e : (if b - a = g then none else some (D.int 1)) = some d := e
    split at e
    · cases e
    · cases e
      rfl
/-! ### lots -/
/-- what is told of a lot: sheep i to j -/
def lotD (xs : List Int) (i j : Nat) : D := .str ((toString (xs.getD i 0) : Str) ++ (" " : Str) ++ (toString ((j : Int) - i) : Str))
/-- from sheep a on, the lot beginning at i -/
def lotsGo (g : Int) (xs : List Int) : Nat → Nat → Nat → List D
  | 0, _, _ => []
  | n + 1, a, i => if a + 1 = xs.length ∨ xs.getD (a + 1) 0 ≠ xs.getD a 0 + g then lotD xs i (a + 1) :: lotsGo g xs n (a + 1) (a + 1) else lotsGo g xs n (a + 1) i
def lotsL (g : Int) (xs : List Int) : List D := lotsGo g xs xs.length 0 0
theorem lots_len (g : Int) (xs : List Int) : ∀ n a i, (lotsGo g xs n a i).length ≤ n
  | 0, _, _ => Nat.le_refl _
  | n + 1, a, i => by
    unfold lotsGo
    split
    · have := lots_len g xs n (a + 1) (a + 1)
      simp only [List.length_cons]
      omega
    · have := lots_len g xs n (a + 1) i
      omega
theorem rangeD_map' (n : Nat) : rangeD 0 n = (List.range n).map fun (k : Nat) => D.int k := by
  unfold rangeD
  rw [show ((n : Int) - 0).toNat = n by omega]
  apply List.map_congr_left
  intro k _
  simp
theorem loopG_inv {g : DG} {B : DGn} {E : DGN} (I : List D → List D → Env → Prop) (step : ∀ d r ds ρ, I (d :: r) ds ρ → ∀ N : List D → Env → Prop, (∀ ds' ρ', I r ds' ρ' → N ds' ρ') → g d ρ fun ρ' => B { E with nx := N, ct := N, bk := E.nx } ds ρ') (done : ∀ ds ρ, I [] ds ρ → E.nx ds ρ) :
    ∀ (xs ds : List D) (ρ : Env), I xs ds ρ → loopG g B E xs ds ρ
  | [], ds, ρ, h => done ds ρ h
  | x :: xs, ds, ρ, h => step x xs ds ρ h (loopG g B E xs) fun ds' ρ' h' => loopG_inv I step done xs ds' ρ' h'
theorem at_getD {xs : List Int} {i : Nat} (h : i < xs.length) : atI xs (i : Int) = some (xs.getD i 0) := by
  rw [atI_nat, List.getD_eq_getElem?_getD, List.getElem?_eq_getElem h]
  rfl
theorem getD_mem {xs : List Int} {i : Nat} (h : i < xs.length) : xs.getD i 0 ∈ xs := by
  rw [List.getD_eq_getElem?_getD, List.getElem?_eq_getElem h]
  exact List.getElem_mem h
theorem num_len40 {n : Int} (n0 : 0 ≤ n) (n1 : n < 10 ^ 40) : (Str.ofString (toString n)).length ≤ 40 := by
  obtain ⟨m, rfl⟩ : ∃ m : Nat, n = m := ⟨n.toNat, by omega⟩
  rw [TL.len_tl, TL.tl_num]
  exact TL.numL_len (by decide) (by
    have : (m : Int) < ((10 ^ 40 : Nat) : Int) := Int.lt_of_lt_of_le n1 (by decide)
    omega)
theorem log40 {n : Int} (n0 : 0 ≤ n) (n1 : n < 10 ^ 40) : n.natAbs.log2 < 1920 := by
  refine log_lt (by decide) ?_
  have h : n.natAbs < 10 ^ 40 := by
    have e : ((10 ^ 40 : Nat) : Int) = (10 : Int) ^ 40 := by decide
    omega
  exact Nat.lt_of_lt_of_le h (Nat.le_trans (show 10 ^ 40 ≤ 2 ^ 140 by decide) (Nat.pow_le_pow_right (by decide) (by decide)))
/-- slots: 0 self, 1 at, 2 places, 3 first -/
def B_Lane_lots : DGn :=
  (gGThen (gPl (sPar2 2 3 (dDat (dBin gIx (dFldO "Lane" "now" (dVarL 0)) (dC (.int 0)))) (dDat (dC (.int 0)))))
  (gGThen (gGFor (dRng1 (dCons (dDat (dCB gLen (dCons (dDat (dVar 2)) dNil))) dNil)) (gNm 1) (gGThen (gGIf (dtOr (dTest (dBin gEq (dBin gAdd (dVar 1) (dC (.int 1))) (dCB gLen (dCons (dDat (dVar 2)) dNil)))) (dTest (dBin gNe (dBin gSub (dBin gIx (dVar 2) (dBin gAdd (dVar 1) (dC (.int 1)))) (dBin gIx (dVar 2) (dVar 1))) (dFldO "Lane" "space" (dVarL 0))))) (gGThen (gYld (dBin gAdd (dBin gAdd (dCB gStr (dCons (dDat (dBin gIx (dVar 2) (dVar 3))) dNil)) (dC (.str " "))) (dCB gStr (dCons (dDat (dBin gSub (dBin gAdd (dVar 1) (dC (.int 1))) (dVar 3))) dNil))))
  (gGThen (gPl (sSet 3 (dDat (dBin gAdd (dVar 1) (dC (.int 1))))))
  gG0)) gG0)
  gG0))
  gG0))
def S_Lane_lots : DFG := fun ss T Q => ∃ (k : Nat) (g : Int) (now : St14) (past : List St14), ss = [.ob k] ∧ Ln T k g now past ∧ LnOk g now ∧ (∀ x ∈ now.1, 0 ≤ x ∧ x < 10 ^ 40) ∧ Q (lotsL g now.1) T
theorem h_Lane_lots : ∀ (ss : List Sl) (T : List Ob) (Q : List D → List Ob → Prop), ss.length = 1 → S_Lane_lots ss T Q → B_Lane_lots { nx := fun ds ρ => Q ds (ρ.T.take T.length) } [] (startD 4 1 ss T) := by
  intro ss T Q hl h
  obtain ⟨k, g, now, past, rfl, hk, ok, hb, h⟩ := h
  unfold Ln at hk
  simp only [stD] at hk
  have l40 := ok.l40
  unfold B_Lane_lots
  simp only [gGThen, gPl, gGFor, gGIf, gYld, gG0]
  (walk_at "di"; repeat (simp only [hk]; walk_at "di"))
  simp only [gGThen, gPl, gGFor, gGIf, gYld, gG0]
  walk_at "di"
  refine ⟨⟨by omega, by omega⟩, ?_⟩
  rw [rangeD_map', List.range_eq_range']
  refine loopG_inv (fun rest ds ρ => ∃ (m a i : Nat) (v : Option Sl), rest = (List.range' a m).map (fun (k : Nat) => D.int k) ∧ a + m = now.1.length ∧ i ≤ a ∧ ds.length ≤ a ∧ ds ++ lotsGo g now.1 m a i = lotsL g now.1 ∧ ρ = ⟨T, [some (.ob k), v, some (.dat (.tup (now.1.map .int))), some (.dat (.int i))]⟩) ?_ ?_ _ _ _ ⟨now.1.length, 0, 0, none, rfl, by omega, Nat.le_refl _, Nat.le_refl _, rfl, rfl⟩
  · rintro d rest ds ρ ⟨m, a, i, v, e, hm, hi, hds, hd, rfl⟩ N hN
    cases m with
    | zero => cases e
    | succ m =>
      rw [List.range'_succ, List.map_cons] at e
      cases e
      unfold lotsGo at hd
      simp only [gGThen, gPl, gGFor, gGIf, gYld, gG0]
      have gi := getD_mem (xs := now.1) (i := i) (by omega)
      obtain ⟨b1, b2⟩ := hb _ gi
      have out : ∀ E : Prop, (a + 1 = now.1.length ∨ now.1.getD (a + 1) 0 ≠ now.1.getD a 0 + g) → (ds.length ≤ 1000 ∧ (now.1.getD i 0).natAbs.log2 < 1920 ∧ (toString (now.1.getD i 0) : Str).length + Str.length " " ≤ sizeLine ∧ ((a : Int) + 1 - i).natAbs.log2 < 1920 ∧ ((toString (now.1.getD i 0) : Str) ++ (" " : Str)).length + (toString ((a : Int) + 1 - i) : Str).length ≤ sizeLine ∧ N (ds ++ [lotD now.1 i (a + 1)]) ⟨T, [some (.ob k), some (.dat (.int a)), some (.dat (.tup (now.1.map .int))), some (.dat (.int ((a : Int) + 1)))]⟩ → E) → E := by
        intro E hc hE
        rw [if_pos hc] at hd
        have n1 := num_len40 b1 b2
        have n2 := num_len40 (n := (a : Int) + 1 - i) (by omega) (Int.lt_of_le_of_lt (show (a : Int) + 1 - i ≤ 100 by omega) (by decide))
        have s1 : Str.length " " = 1 := rfl
        refine hE ⟨by omega, log40 b1 b2, by rw [sizeLine_eq]; omega, log40 (by omega) (Int.lt_of_le_of_lt (show (a : Int) + 1 - i ≤ 100 by omega) (by decide)), ?_, ?_⟩
        · rw [Str.length_append, sizeLine_eq]
          omega
        · refine hN _ _ ⟨m, a + 1, a + 1, _, rfl, by omega, Nat.le_refl _, by simp; omega, ?_, rfl⟩
          rw [List.append_assoc, List.singleton_append]
          exact hd
      walk_at "di"
      by_cases c1 : a + 1 = now.1.length
      · rw [show ((a : Int) + 1 == (now.1.length : Int)) = true by simp; omega, if_pos rfl]
        refine out _ (.inl c1) fun ⟨o1, o2, o3, o4, o5, o6⟩ => ⟨o1, ?_⟩
        rw [at_getD (by omega)]
        walk_at "di"
        simp only [gStr]
        exact ⟨o2, o3, o4, o5, o6⟩
      · rw [show ((a : Int) + 1 == (now.1.length : Int)) = false by simp; omega, if_neg Bool.false_ne_true]
        rw [show ((a : Int) + 1) = ((a + 1 : Nat) : Int) by omega, at_getD (i := a + 1) (by omega), at_getD (i := a) (by omega)]
        (walk_at "di"; repeat (simp only [hk]; walk_at "di"))
        cases q : (now.1.getD (a + 1) 0 - now.1.getD a 0 == g) with
        | true =>
          have q' : now.1.getD (a + 1) 0 - now.1.getD a 0 = g := by simpa using q
          walk_at "di"
          rw [if_neg (by omega)] at hd
          exact hN _ _ ⟨m, a + 1, i, _, rfl, by omega, by omega, by omega, hd, rfl⟩
        | false =>
          have q' : now.1.getD (a + 1) 0 - now.1.getD a 0 ≠ g := by simpa using q
          walk_at "di"
          refine out _ (.inr (by omega)) fun ⟨o1, o2, o3, o4, o5, o6⟩ => ⟨o1, ?_⟩
          rw [at_getD (by omega)]
          walk_at "di"
          simp only [gStr]
          exact ⟨o2, o3, o4, o5, o6⟩
  · rintro ds ρ ⟨m, a, i, v, e, hm, hi, hds, hd, rfl⟩
    cases m with
    | succ m => rw [List.range'_succ, List.map_cons] at e; cases e
    | zero =>
      rw [lotsGo, List.append_nil] at hd
      subst hd
      show Q _ (List.take T.length T)
      rw [List.take_length]
      exact h
end DL
set_option Elab.async false
set_option linter.all false
set_option maxRecDepth 100000
set_option maxHeartbeats 4000000
set_option autoImplicit false
/-! Law k14: calls on lanes. -/
namespace DL
open PySem PySem.Spec PyProof.Rows L2
local macro_rules | `(tactic| walk_at "dl") => `(tactic| (try simp only [sSeq, sSet, sRet, sRetN, sIf, sNil, sDrop, sFor, sTo, sPar2, sPar3, sNever, sRaise, sSetIx, dVar, dC, dVarL, dDat, dVal, valK_dat, valK_ob, dBin, dUn, dNil, dCons, dats, dTup, dLst, dNew, dNewOf, dTest, dtAnd, dtOr, dtNot, dAnd, dOr, dNot, dIf, dChain, dCB, dSl, dNo, dSo, sApp, dIxO, dLenO, dMaxD, dGetP, dCall, dSeq, dRng1, dRng2, dZip, dEnum, gNm, gTp, gCs, gNl, dYes,
  startD, endsOf, retD, wipeS, gAdd, gSub, gMul, gMulA, gMulB, gDiv, gMod, gPow, gNeg, gLt, gLe, gGt, gGe, gEq, gNe, gIn, gIx, gSl, gIsi, tyD, isiD, gLen, gAbs, gInt, gMax2, gMin2, gTuple, gList, gIsN, isNon, gIsB, gNotB,
  List.getElem?_cons_zero, List.getElem?_cons_succ, List.getElem?_nil, List.set_cons_zero, List.set_cons_succ, List.map_cons, List.map_nil, List.cons_append, List.nil_append, List.length_cons, List.length_nil, List.replicate_succ, List.replicate_zero, Option.map_some, Nat.reduceSub, Nat.reduceAdd, Nat.reduceLeDiff,
  List.take_length, beq_self_eq_true, String.reduceBEq, Bool.or_true, Bool.true_or, Bool.or_false, Bool.false_or, Bool.and_true, Bool.and_false, Bool.true_and, Bool.false_and, Bool.or_self, Bool.and_self, decide_true, decide_false, dmem, List.any_cons, List.any_nil, okd_non, okd_bl, okd_int, okd_str, okds_nil, okds_cons, okd_60t, okd_59t, okd_58t, okd_60l, okd_59l, okd_58l, st_tk, st_tb, st_tf, st_kt, st_kb, st_kf, st_bt, st_bk, st_bf, st_ft, st_fk, st_fb, nat_num, Int.reduceBEq, Int.reduceBNe, Int.reduceEq, Int.reduceLT, Int.reduceLE, Int.reduceAdd, Int.reduceSub, Int.reduceMul, Int.reduceNeg, Int.reduceToNat, Int.reducePow, atI_0, atI_1, atI_2, set_last, get_last, take_last, deq_str, deq_int, deq_non, deq_bl, deq_tt, deq_ll, deqs_nn, deqs_cc, deqs_nc, deqs_cn, Nat.lt_irrefl, List.set_set, ixN_20, ixN_21, tupI, okds_ints, atI_map', List.length_map, cutL_map, eq_self, if_true, if_false, ite_true, ite_false, Bool.false_eq_true, decide_eq_true_eq, true_and, and_true, and_self, Bool.not_true, Bool.not_false, true_or, or_true, false_or, or_false, Option.some.injEq, reduceCtorEq]))
local macro_rules | `(tactic| walk_at "di") => `(tactic| (try simp only [dFldO, sFldO, OwnP, dOwn, dOwnT, okTy, dLenI, dStrI, dBoolI, dInI, sAugI, dMeth, dMake, dStar, dProp, dCallO, dMakeV, dIsI, intSl, strSl, blSl, starF, gBool, dConO, dAppE, dTupF, dVarT, dTIdx, dListG, fixF, starF1, lk_space, lk_now, lk_past, lk_noted, lk_enter, lk_undo, lk_run, lk_lots, lk_MOST, pt_1, pt_2, pt_3, pt_now, pt_past, gSortedI, dats_map, sSeq, sSet, sRet, sRetN, sIf, sNil, sDrop, sFor, sTo, sPar2, sPar3, sNever, sRaise, sSetIx, dVar, dC, dVarL, dDat, dVal, valK_dat, valK_ob, dBin, dUn, dNil, dCons, dats, dTup, dLst, dNew, dNewOf, dTest, dtAnd, dtOr, dtNot, dAnd, dOr, dNot, dIf, dChain, dCB, dSl, dNo, dSo, sApp, dIxO, dLenO, dMaxD, dGetP, dCall, dSeq, dRng1, dRng2, dZip, dEnum, gNm, gTp, gCs, gNl, dYes,
  startD, endsOf, retD, wipeS, gAdd, gSub, gMul, gMulA, gMulB, gDiv, gMod, gPow, gNeg, gLt, gLe, gGt, gGe, gEq, gNe, gIn, gIx, gSl, gIsi, tyD, isiD, gLen, gAbs, gInt, gMax2, gMin2, gTuple, gList, gIsN, isNon, gIsB, gNotB,
  List.getElem?_cons_zero, List.getElem?_cons_succ, List.getElem?_nil, List.set_cons_zero, List.set_cons_succ, List.map_cons, List.map_nil, List.cons_append, List.nil_append, List.length_cons, List.length_nil, List.replicate_succ, List.replicate_zero, Option.map_some, Nat.reduceSub, Nat.reduceAdd, Nat.reduceLeDiff,
  List.take_length, beq_self_eq_true, String.reduceBEq, Bool.or_true, Bool.true_or, Bool.or_false, Bool.false_or, Bool.and_true, Bool.and_false, Bool.true_and, Bool.false_and, Bool.or_self, Bool.and_self, decide_true, decide_false, dmem, List.any_cons, List.any_nil, okd_non, okd_bl, okd_int, okd_str, okds_nil, okds_cons, okd_60t, okd_59t, okd_58t, okd_60l, okd_59l, okd_58l, st_tk, st_tb, st_tf, st_kt, st_kb, st_kf, st_bt, st_bk, st_bf, st_ft, st_fk, st_fb, nat_num, Int.reduceBEq, Int.reduceBNe, Int.reduceEq, Int.reduceLT, Int.reduceLE, Int.reduceAdd, Int.reduceSub, Int.reduceMul, Int.reduceNeg, Int.reduceToNat, Int.reducePow, atI_0, atI_1, atI_2, set_last, get_last, take_last, deq_str, deq_int, deq_non, deq_bl, deq_tt, deq_ll, deqs_nn, deqs_cc, deqs_nc, deqs_cn, Nat.lt_irrefl, List.set_set, ixN_20, ixN_21, tupI, okds_ints, atI_map', List.length_map, cutL_map, eq_self, if_true, if_false, ite_true, ite_false, Bool.false_eq_true, decide_eq_true_eq, true_and, and_true, and_self, Bool.not_true, Bool.not_false, true_or, or_true, false_or, or_false, Option.some.injEq, reduceCtorEq]))
/-- the calls -/
inductive Cl14 where
  | run (r : Rn) | runD (d : D) | add (rs : List Rn) | addD (d : D) | enter (p : Int) | enterN | undo
def Cl14.d : Cl14 → D
  | .run r => .tup [.str "run", r.d]
  | .runD d => .tup [.str "run", d]
  | .add rs => .tup [.str "add", .tup (rs.map Rn.d)]
  | .addD d => .tup [.str "add", d]
  | .enter p => .tup [.str "enter", .int p]
  | .enterN => .tup [.str "enter", .non]
  | .undo => .tup [.str "undo"]
def Cl14.Ok : Cl14 → Prop
  | .run r => r.ok
  | .runD d => d = .non ∨ d = .tup [.str "back", .int 0] ∨ d = .tup [.str "bark", .int 0]
  | .add rs => rs.length ≤ 20 ∧ ∀ r ∈ rs, r.ok
  | .addD d => ∃ r : Rn, r.ok ∧ (d = .lst [r.d] ∨ d = .tup [r.d, .non])
  | .enter p => p ≤ 1000000000000000000000000000000
  | _ => True
inductive Er | run | place | undo
def Er.w : Er → Str
  | .run => "run"
  | .place => "place"
  | .undo => "undo"
def Er.x : Er → Xn
  | .run => ⟨"InvalidRun", none⟩
  | .place => ⟨"InvalidPlace", none⟩
  | .undo => ⟨"NothingToUndo", none⟩
/-- what a call does -/
def stepC (g : Int) (now : St14) (past : List St14) : Cl14 → Er ⊕ (D × St14 × List St14)
  | .run r => .inr (.int (chgL now.1 (ranL g now.1 r)), (ranL g now.1 r, now.2 ++ [r]), past ++ [now])
  | .add rs => .inr (.non, (rs.foldl (ranL g) now.1, now.2 ++ rs), past ++ [now])
  | .enter p => if 0 ≤ p ∧ farB g p now.1 = true then .inr (.int ((insI p now.1).idxOf p : Nat), (insI p now.1, now.2), past ++ [now]) else .inl .place
  | .runD _ => .inl .run
  | .addD _ => .inl .run
  | .enterN => .inl .place
  | .undo => match past.getLast? with
    | none => .inl .undo
    | some p => .inr (.non, p, past.dropLast)
/-- slots: 0 _law_value -/
def B_l_is_deed : DS :=
  (sSeq (sIf (dtOr (dtNot (dTest (dCB gIsi (dCons (dDat (dVar 0)) (dCons (dDat (dC (.raw (.ty "tuple")))) dNil))))) (dtOr (dTest (dBin gLt (dCB gLen (dCons (dDat (dVar 0)) dNil)) (dC (.int 2)))) (dTest (dBin (gIn false) (dC .non) (dVar 0))))) (sRet (dDat (dC (.bl false)))) sNil)
  (sSeq (sIf (dTest (dBin (gIn true) (dBin gIx (dVar 0) (dC (.int 0))) (dLst (dCons (dDat (dC (.str "to"))) (dCons (dDat (dC (.str "back"))) (dCons (dDat (dC (.str "front"))) (dCons (dDat (dC (.str "bark"))) dNil))))))) (sRet (dDat (dC (.bl false)))) sNil)
  (sRet (dDat (dAnd (dBin gGe (dBin gIx (dVar 0) (dUn gNeg (dC (.int 1)))) (dCB gInt (dCons (dDat (dBin gNe (dBin gIx (dVar 0) (dC (.int 0))) (dC (.str "to")))) dNil))) (dBin gEq (dCB gLen (dCons (dDat (dVar 0)) dNil)) (dBin gAdd (dC (.int 2)) (dCB gInt (dCons (dDat (dBin (gIn false) (dBin gIx (dVar 0) (dC (.int 0))) (dLst (dCons (dDat (dC (.str "back"))) (dCons (dDat (dC (.str "front"))) dNil))))) dNil)))))))))
def S_l_is_deed : DF := fun ss T Q _ => (∃ r : Rn, ss = [.dat r.d] ∧ r.ok ∧ Q (.dat (.bl true)) T) ∨ ∃ d : D, ss = [.dat d] ∧ (d = .non ∨ d = .tup [.str "back", .int 0] ∨ d = .tup [.str "bark", .int 0]) ∧ Q (.dat (.bl false)) T
theorem at_m1 {α : Type} (a b : α) : atI [a, b] (-1) = some b := rfl
theorem at_m13 {α : Type} (a b c : α) : atI [a, b, c] (-1) = some c := rfl
theorem h_l_is_deed : ∀ (ss : List Sl) (T : List Ob) (Q : Sl → List Ob → Prop) (QX : Xn → List Ob → Prop), ss.length = 1 → S_l_is_deed ss T Q QX → B_l_is_deed (endsOf T.length Q QX) (startD 1 1 ss T) := by
  intro ss T Q QX hl h
  unfold B_l_is_deed
  rcases h with ⟨r, rfl, rok, h⟩ | ⟨d, rfl, hd, h⟩
  · cases r with
    | to p =>
      have := rok.1
      simp only [Rn.d]
      walk_at "di"
      rw [if_neg (by decide), if_neg (show ¬ ((deq (D.str (Str.ofString "to")) D.non || deq (D.int p) D.non) = true) from Bool.false_ne_true), at_m1]
      walk_at "di"
      rw [if_pos this]
      exact h
    | bark s =>
      have := rok.1
      simp only [Rn.d]
      walk_at "di"
      rw [if_neg (by decide), if_neg (show ¬ ((deq (D.str (Str.ofString "bark")) D.non || deq (D.int s) D.non) = true) from Bool.false_ne_true), at_m1]
      walk_at "di"
      rw [if_pos this]
      exact h
    | back n s =>
      have := rok.2.1
      simp only [Rn.d]
      walk_at "di"
      rw [if_neg (by decide), if_neg (show ¬ ((deq (D.str (Str.ofString "back")) D.non || (deq (D.int n) D.non || deq (D.int s) D.non)) = true) from Bool.false_ne_true), at_m13]
      walk_at "di"
      rw [if_pos this]
      exact h
    | front n s =>
      have := rok.2.1
      simp only [Rn.d]
      walk_at "di"
      rw [if_neg (by decide), if_neg (show ¬ ((deq (D.str (Str.ofString "front")) D.non || (deq (D.int n) D.non || deq (D.int s) D.non)) = true) from Bool.false_ne_true), at_m13]
      walk_at "di"
      rw [if_pos this]
      exact h
  · rcases hd with rfl | rfl | rfl
    · walk_at "di"
      exact h
    · walk_at "di"
      rw [if_neg (by decide), if_neg (show ¬ ((deq (D.str (Str.ofString "back")) D.non || deq (D.int 0) D.non) = true) from Bool.false_ne_true), at_m1]
      walk_at "di"
      exact h
    · walk_at "di"
      rw [if_neg (by decide), if_neg (show ¬ ((deq (D.str (Str.ofString "bark")) D.non || deq (D.int 0) D.non) = true) from Bool.false_ne_true), at_m1]
      walk_at "di"
      exact h
/-- slots: 0 _law_work, 1 _law_places, 2 _law_run -/
def B_l_end : DS :=
  (sSeq (sFor (dSeq (dBin gIx (dVar 0) (dC (.int 1)))) (gNm 2) (sSet 1 (dDat (dVal (dCall 3 S_l_ran (dCons (dDat (dBin gIx (dVar 0) (dC (.int 0)))) (dCons (dDat (dVar 1)) (dCons (dDat (dVar 2)) dNil))))))))
  (sRet (dDat (dVar 1))))
def S_l_end : DF := fun ss T Q _ => ∃ (g : Int) (xs : List Int) (rs : List Rn), ss = [.dat (drD g rs), .dat (tupI xs)] ∧ 1 ≤ xs.length ∧ xs.length ≤ 1000 ∧ (∀ r ∈ rs, r.ok) ∧ spaced g xs = true ∧ Q (.dat (tupI (rs.foldl (ranL g) xs))) T
theorem h_l_end : ∀ (ss : List Sl) (T : List Ob) (Q : Sl → List Ob → Prop) (QX : Xn → List Ob → Prop), ss.length = 2 → S_l_end ss T Q QX → B_l_end (endsOf T.length Q QX) (startD 3 2 ss T) := by
  intro ss T Q QX hl h
  obtain ⟨g, xs, rs, rfl, h1, hz, ok, sp, h⟩ := h
  unfold B_l_end
  simp only [drD]
  walk_at "di"
  refine loop_inv (fun ds ρ => ∃ (ys : List Int) (rest : List Rn) (v : Option Sl), ρ = ⟨T, [some (.dat (.tup [.int g, .tup (rs.map Rn.d)])), some (.dat (tupI ys)), v]⟩ ∧ ds = rest.map Rn.d ∧ ys.length = xs.length ∧ (∀ r ∈ rest, r.ok) ∧ spaced g ys = true ∧ rest.foldl (ranL g) ys = rs.foldl (ranL g) xs) ?_ ?_ _ _ ?_
  · rintro d ds ρ ⟨ys, rest, v, rfl, e, hy, ho, sp2, hf⟩ N hN
    cases rest with
    | nil => cases e
    | cons r rest =>
      cases e
      walk_at "di"
      refine ⟨g, ys, r, rfl, by omega, by omega, ho r (by simp), sp2, ?_⟩
      walk_at "di"
      exact hN _ ⟨ranL g ys r, rest, _, rfl, rfl, by rw [ranL_len, hy], fun x hx => ho x (by simp [hx]), ran_spaced sp2 (ho r (by simp)), hf⟩
  · rintro ρ ⟨ys, rest, v, rfl, e, hy, ho, sp2, hf⟩
    have hr : rest = [] := by
      cases rest with
      | nil => rfl
      | cons y rest => cases e
    subst hr
    simp only [List.foldl_nil] at hf
    subst hf
    walk_at "di"
    exact h
  · exact ⟨xs, rs, none, rfl, rfl, rfl, ok, sp, rfl⟩
/-- what the law says that is due -/
def dueD (g : Int) (now : St14) (c : Cl14) : D := match stepC g now [] c with
  | .inl e => .tup [.str e.w, .non]
  | .inr (d, new, _) => .tup [d, stD new]
def Cl14.law : Cl14 → Prop
  | .undo => False
  | _ => True
/-- the number of a sheep that stands elsewhere -/
def chI (xs ys : List Int) (i : Nat) : Option D := if xs.getD i 0 = ys.getD i 0 then none else some (.int i)
theorem fm_len {α : Type} (p : α → Prop) [DecidablePred p] (f : α → D) : ∀ l : List α, (l.filterMap fun i => if p i then none else some (f i)).length = (l.filter fun i => decide (¬ p i)).length
  | [] => rfl
  | a :: l => by
    rw [List.filterMap_cons, List.filter_cons]
    by_cases q : p a
    · rw [if_pos q, if_neg (by simpa using q)]
      exact fm_len p f l
    · rw [if_neg q, if_pos (by simpa using q)]
      simp only [List.length_cons]
      rw [fm_len p f l]
theorem chI_len : ∀ (xs ys : List Int), xs.length = ys.length → ((List.range xs.length).filterMap (chI xs ys)).length = chgL xs ys := by
  intro xs ys h
  unfold chI
  rw [fm_len (fun i => xs.getD i 0 = ys.getD i 0) (fun i => D.int (i : Nat))]
  induction xs generalizing ys with
  | nil =>
    cases ys with
    | nil => rfl
    | cons y ys => cases h
  | cons x xs ih =>
    cases ys with
    | nil => cases h
    | cons y ys =>
      have ih := ih ys (by simpa using h)
      rw [List.length_cons, List.range_succ_eq_map, List.filter_cons, List.filter_map, chgL, ← ih]
      by_cases q : x = y
      · rw [if_pos q, if_neg (by simp [q]), List.length_map, Nat.zero_add]
        rfl
      · rw [if_neg q, if_pos (by simp [q]), List.length_cons, List.length_map, Nat.add_comm]
        rfl
theorem far_fm (g p : Int) : ∀ xs : List Int, (xs.filterMap fun x => if (if x - p < 0 then -(x - p) else x - p) < g then some (D.int x) else none).isEmpty = farB g p xs
  | [] => rfl
  | x :: xs => by
    rw [List.filterMap_cons]
    have ih := far_fm g p xs
    by_cases q : (if x - p < 0 then -(x - p) else x - p) < g
    · rw [if_pos q]
      have : farB g p (x :: xs) = (decide (x + g ≤ p ∨ p + g ≤ x) && farB g p xs) := rfl
      rw [this, show decide (x + g ≤ p ∨ p + g ≤ x) = false by
        rw [decide_eq_false_iff_not]
        split at q <;> omega]
      rfl
    · rw [if_neg q]
      have : farB g p (x :: xs) = (decide (x + g ≤ p ∨ p + g ≤ x) && farB g p xs) := rfl
      rw [this, show decide (x + g ≤ p ∨ p + g ≤ x) = true by
        rw [decide_eq_true_eq]
        split at q <;> omega, Bool.true_and]
      exact ih
theorem due_in {g p : Int} {now : St14} (h : 0 ≤ p ∧ farB g p now.1 = true) : dueD g now (.enter p) = .tup [.int ((insI p now.1).idxOf p : Nat), stD (insI p now.1, now.2)] := by
  show (match (if 0 ≤ p ∧ farB g p now.1 = true then (.inr (.int ((insI p now.1).idxOf p : Nat), (insI p now.1, now.2), [now]) : Er ⊕ (D × St14 × List St14)) else .inl .place) with
    | .inl e => D.tup [.str e.w, .non]
    | .inr (d, new, _) => .tup [d, stD new]) = _
  rw [if_pos h]
theorem due_out {g p : Int} {now : St14} (h : ¬ (0 ≤ p ∧ farB g p now.1 = true)) : dueD g now (.enter p) = .tup [.str "place", .non] := by
  show (match (if 0 ≤ p ∧ farB g p now.1 = true then (.inr (.int ((insI p now.1).idxOf p : Nat), (insI p now.1, now.2), [now]) : Er ⊕ (D × St14 × List St14)) else .inl .place) with
    | .inl e => D.tup [.str e.w, .non]
    | .inr (d, new, _) => .tup [d, stD new]) = _
  rw [if_neg h]
  rfl
/-- slots: 0 _law_gap, 1 _law_now, 2 _law_call_here, 3 _law_place, 4 _law_found, 5 _law_places, 6 _law_runs, 7 _law_there, 8 _law_many, 9 _law_at_here, 10 _law_one, 11 _law_run -/
def B_l_due : DS :=
  (sSeq (sTo (dVar 1) (gTp 2 (gCs (gNm 5) (gCs (gNm 6) gNl))))
  (sSeq (sIf (dTest (dBin gEq (dBin gIx (dVar 2) (dC (.int 0))) (dC (.str "run")))) (sSeq (sIf (dtNot (dTest (dVal (dCall 1 S_l_is_deed (dCons (dDat (dBin gIx (dVar 2) (dC (.int 1)))) dNil))))) (sRet (dDat (dTup (dCons (dDat (dC (.str "run"))) (dCons (dDat (dC .non)) dNil))))) sNil)
  (sSeq (sSet 7 (dDat (dVal (dCall 3 S_l_ran (dCons (dDat (dVar 0)) (dCons (dDat (dVar 5)) (dCons (dDat (dBin gIx (dVar 2) (dC (.int 1)))) dNil)))))))
  (sSeq (sSet 8 (dDat (dCB gLen (dCons (dDat (dComp (dRng1 (dCons (dDat (dCB gLen (dCons (dDat (dVar 5)) dNil))) dNil)) (gNm 9) (dTest (dBin gNe (dBin gIx (dVar 7) (dVar 9)) (dBin gIx (dVar 5) (dVar 9)))) (dVar 9) [9])) dNil))))
  (sRet (dDat (dTup (dCons (dDat (dVar 8)) (dCons (dDat (dTup (dCons (dDat (dVar 7)) (dCons (dDat (dBin gAdd (dVar 6) (dTup (dCons (dDat (dBin gIx (dVar 2) (dC (.int 1)))) dNil)))) dNil)))) dNil)))))))) sNil)
  (sSeq (sIf (dTest (dBin gEq (dBin gIx (dVar 2) (dC (.int 0))) (dC (.str "add")))) (sSeq (sIf (dtOr (dtNot (dTest (dCB gIsi (dCons (dDat (dBin gIx (dVar 2) (dC (.int 1)))) (dCons (dDat (dC (.raw (.ty "tuple")))) dNil))))) (dTest (dBin gNe (dComp (dSeq (dBin gIx (dVar 2) (dC (.int 1)))) (gNm 11) (dtNot (dTest (dVal (dCall 1 S_l_is_deed (dCons (dDat (dVar 11)) dNil))))) (dVar 11) [11]) (dLst dNil)))) (sRet (dDat (dTup (dCons (dDat (dC (.str "run"))) (dCons (dDat (dC .non)) dNil))))) sNil)
  (sRet (dDat (dTup (dCons (dDat (dC .non)) (dCons (dDat (dTup (dCons (dDat (dVal (dCall 2 S_l_end (dCons (dDat (dTup (dCons (dDat (dVar 0)) (dCons (dDat (dBin gIx (dVar 2) (dC (.int 1)))) dNil)))) (dCons (dDat (dVar 5)) dNil))))) (dCons (dDat (dBin gAdd (dVar 6) (dBin gIx (dVar 2) (dC (.int 1))))) dNil)))) dNil)))))) sNil)
  (sSeq (sSet 3 (dDat (dBin gIx (dVar 2) (dC (.int 1)))))
  (sSeq (sIf (dtOr (dTest (dBin (gIsN false) (dVar 3) (dC .non))) (dtOr (dTest (dBin gLt (dVar 3) (dC (.int 0)))) (dTest (dBin gNe (dComp (dSeq (dVar 5)) (gNm 10) (dTest (dBin gLt (dCB gAbs (dCons (dDat (dBin gSub (dVar 10) (dVar 3))) dNil)) (dVar 0))) (dVar 10) [10]) (dLst dNil))))) (sRet (dDat (dTup (dCons (dDat (dC (.str "place"))) (dCons (dDat (dC .non)) dNil))))) sNil)
  (sSeq (sSet 4 (dTupF (dCB gSortedI (dCons (dDat (dBin gAdd (dVar 5) (dTup (dCons (dDat (dVar 3)) dNil)))) dNil))))
  (sRet (dDat (dTup (dCons (dDat (dTIdx 4 (dVar 3))) (dCons (dDat (dTup (dCons (dDat (dVarT 4)) (dCons (dDat (dVar 6)) dNil)))) dNil)))))))))))
def S_l_due : DF := fun ss T Q _ => ∃ (g : Int) (now : St14) (c : Cl14), ss = [.dat (.int g), .dat (stD now), .dat c.d] ∧ LnOk g now ∧ c.Ok ∧ c.law ∧ Q (.dat (dueD g now c)) T
theorem h_l_due : ∀ (ss : List Sl) (T : List Ob) (Q : Sl → List Ob → Prop) (QX : Xn → List Ob → Prop), ss.length = 3 → S_l_due ss T Q QX → B_l_due (endsOf T.length Q QX) (startD 12 3 ss T) := by
  intro ss T Q QX hl h
  obtain ⟨g, now, c, rfl, ok, cok, cl, h⟩ := h
  have l1 := ok.l1
  have l40 := ok.l40
  have r1 := ok.r1
  have g1 := ok.g1
  have sp := ok.sp
  have srt := le_of_spaced g1 sp
  unfold B_l_due
  simp only [stD]
  cases c with
  | undo => exact cl.elim
  | run r =>
    simp only [Cl14.d]
    walk_at "di"
    refine .inl ⟨r, rfl, cok, ?_⟩
    walk_at "di"
    refine ⟨g, now.1, r, rfl, l1, by omega, cok, sp, ?_⟩
    walk_at "di"
    rw [dComp_eq]
    walk_at "di"
    refine ⟨⟨by omega, by omega⟩, ?_⟩
    have yl := ranL_len g now.1 r
    rw [rangeD_map']
    refine compK_idx (List.range now.1.length) (fun (i : Nat) => .int i) (chI now.1 (ranL g now.1 r)) rfl _ rfl rfl rfl (by rw [List.length_range, sizeLine_eq]; omega) ?_ ?_
    · intro i hi acc R hR
      have il : i < now.1.length := by simpa using hi
      walk_at "di"
      rw [at_getD (by omega), at_getD (xs := now.1) il]
      walk_at "di"
      have := hR [some (.dat (.int g)), some (.dat (.tup [.tup (now.1.map .int), .tup (now.2.map Rn.d)])), some (.dat (.tup [.str "run", r.d])), none, none, some (.dat (.tup (now.1.map .int))), some (.dat (.tup (now.2.map Rn.d))), some (.dat (.tup ((ranL g now.1 r).map .int))), none, some (.dat (.int i)), none, none] rfl
      unfold chI at this
      by_cases q : now.1.getD i 0 = (ranL g now.1 r).getD i 0
      · rw [if_pos q] at this
        rw [show ((ranL g now.1 r).getD i 0 == now.1.getD i 0) = true by simpa using q.symm]
        walk_at "di"
        exact this
      · rw [if_neg q] at this
        rw [show ((ranL g now.1 r).getD i 0 == now.1.getD i 0) = false by simpa using fun z => q z.symm]
        walk_at "di"
        exact this
    walk_at "di"
    rw [chI_len now.1 _ yl.symm]
    refine ⟨by rw [sizeLine_eq]; omega, ?_⟩
    have e : dueD g now (.run r) = .tup [.int (chgL now.1 (ranL g now.1 r)), .tup [.tup ((ranL g now.1 r).map .int), .tup (now.2.map Rn.d ++ [r.d])]] := by
      simp [dueD, stepC, stD, tupI]
    rw [e] at h
    exact h
  | runD d =>
    simp only [Cl14.d]
    walk_at "di"
    refine .inr ⟨d, rfl, cok, ?_⟩
    walk_at "di"
    exact h
  | add rs =>
    obtain ⟨c20, rok⟩ := cok
    simp only [Cl14.d]
    walk_at "di"
    rw [dComp_eq]
    walk_at "di"
    refine compK_idx rs Rn.d (fun r => none) rfl _ rfl rfl rfl (by rw [sizeLine_eq]; omega) ?_ ?_
    · intro r hr acc R hR
      walk_at "di"
      refine .inl ⟨r, rfl, rok r hr, ?_⟩
      walk_at "di"
      exact hR [some (.dat (.int g)), some (.dat (.tup [.tup (now.1.map .int), .tup (now.2.map Rn.d)])), some (.dat (.tup [.str "add", .tup (rs.map Rn.d)])), none, none, some (.dat (.tup (now.1.map .int))), some (.dat (.tup (now.2.map Rn.d))), none, none, none, none, some (.dat r.d)] rfl
    rw [show rs.filterMap (fun _ => (none : Option D)) = [] by simp]
    walk_at "di"
    refine ⟨g, now.1, rs, rfl, l1, by omega, rok, sp, ?_⟩
    walk_at "di"
    refine ⟨by rw [sizeLine_eq]; omega, ?_⟩
    have e : dueD g now (.add rs) = .tup [.non, .tup [.tup ((rs.foldl (ranL g) now.1).map .int), .tup (now.2.map Rn.d ++ rs.map Rn.d)]] := by
      simp [dueD, stepC, stD, tupI]
    rw [e] at h
    exact h
  | addD d =>
    obtain ⟨r, rok, rfl | rfl⟩ := cok
    · simp only [Cl14.d]
      walk_at "di"
      exact h
    · simp only [Cl14.d]
      walk_at "di"
      rw [dComp_eq]
      walk_at "di"
      refine compK_pure (fun d => match d with | .non => some .non | _ => none) _ rfl rfl rfl (by rw [sizeLine_eq]; simp) ?_ ?_
      · intro d hd acc R hR
        simp only [List.mem_cons, List.not_mem_nil, or_false] at hd
        rcases hd with rfl | rfl
        · walk_at "di"
          refine .inl ⟨r, rfl, rok, ?_⟩
          walk_at "di"
          have := hR [some (.dat (.int g)), some (.dat (.tup [.tup (now.1.map .int), .tup (now.2.map Rn.d)])), some (.dat (.tup [.str "add", .tup [r.d, .non]])), none, none, some (.dat (.tup (now.1.map .int))), some (.dat (.tup (now.2.map Rn.d))), none, none, none, none, some (.dat r.d)] rfl
          cases r <;> exact this
        · walk_at "di"
          refine .inr ⟨.non, rfl, .inl rfl, ?_⟩
          walk_at "di"
          exact hR [some (.dat (.int g)), some (.dat (.tup [.tup (now.1.map .int), .tup (now.2.map Rn.d)])), some (.dat (.tup [.str "add", .tup [r.d, .non]])), none, none, some (.dat (.tup (now.1.map .int))), some (.dat (.tup (now.2.map Rn.d))), none, none, none, none, some (.dat .non)] rfl
      · rw [show [r.d, D.non].filterMap (fun d => match d with | .non => some D.non | _ => none) = [.non] by cases r <;> rfl]
        walk_at "di"
        exact h
  | enter p =>
    simp only [Cl14.d]
    walk_at "di"
    by_cases p0 : p < 0
    · rw [if_pos p0]
      rw [due_out (fun z => by omega)] at h
      exact h
    · rw [if_neg p0]
      walk_at "di"
      rw [dComp_eq]
      walk_at "di"
      refine compK_idx now.1 .int (fun x => if (if x - p < 0 then -(x - p) else x - p) < g then some (.int x) else none) rfl _ rfl rfl rfl (by rw [sizeLine_eq]; omega) ?_ ?_
      · intro x hx acc R hR
        walk_at "di"
        have := hR [some (.dat (.int g)), some (.dat (.tup [.tup (now.1.map .int), .tup (now.2.map Rn.d)])), some (.dat (.tup [.str "enter", .int p])), some (.dat (.int p)), none, some (.dat (.tup (now.1.map .int))), some (.dat (.tup (now.2.map Rn.d))), none, none, none, some (.dat (.int x)), none] rfl
        by_cases q : (if x - p < 0 then -(x - p) else x - p) < g
        · rw [if_pos q] at this ⊢
          exact this
        · rw [if_neg q] at this ⊢
          exact this
      walk_at "di"
      rw [deqs_nil_iff, far_fm]
      refine ⟨(okds_iff _ _).mpr fun d hd => ?_, ?_⟩
      · obtain ⟨x, hx, e⟩ := List.mem_filterMap.mp hd
        by_cases q : (if x - p < 0 then -(x - p) else x - p) < g
        · rw [if_pos q] at e
          cases e
          rfl
        · rw [if_neg q] at e
          cases e
      cases q : farB g p now.1 with
      | false =>
        walk_at "di"
        rw [due_out (fun z => by rw [q] at z; exact absurd z.2 Bool.false_ne_true)] at h
        exact h
      | true =>
        walk_at "di"
        refine ⟨by rw [sizeLine_eq]; omega, now.1 ++ [p], by simp, fun ns' pm pw => ⟨ns', rfl, fun a o od => ?_⟩⟩
        obtain rfl : ns' = insI p now.1 := sorted_eq (pm.trans ((List.perm_append_comm).trans (insI_perm p now.1).symm)) pw (insI_sorted p _ srt)
        have il := insI_len p now.1
        refine ⟨a, o, _, rfl, od, p, rfl, pm.mem_iff.mpr (by simp), a, o, _, rfl, by omega, ?_⟩
        rw [due_in ⟨by omega, q⟩] at h
        exact h
  | enterN =>
    simp only [Cl14.d]
    walk_at "di"
    exact h
theorem beta_take {QX : Xn → List Ob → Prop} {x : Xn} {T : List Ob} (h : QX x T) : QX x (List.take T.length T) := by rw [List.take_length]; exact h
/-- slots: 0 _law_lane, 1 _law_runs -/
def B_l_added : DS :=
  (sAugI 0 "Lane" S_Lane_iadd_u (dVarL 1))
def S_l_added : DF := fun ss T Q QX => ∃ (k : Nat) (g : Int) (now : St14) (past : List St14), Ln T k g now past ∧ LnOk g now ∧ ((∃ rs : List Rn, ss = [.ob k, .dat (.tup (rs.map Rn.d))] ∧ rs.length ≤ 20 ∧ (∀ r ∈ rs, r.ok) ∧ past.length < 50 ∧ Q (.dat .non) (T.set k (laneO g (rs.foldl (ranL g) now.1, now.2 ++ rs) (past ++ [now])))) ∨
  ∃ (d : D) (t : String), ss = [.ob k, .dat d] ∧ tyD d = some t ∧ okd 60 d = true ∧ runsB d = false ∧ QX ⟨"InvalidRun", none⟩ T)
theorem h_l_added : ∀ (ss : List Sl) (T : List Ob) (Q : Sl → List Ob → Prop) (QX : Xn → List Ob → Prop), ss.length = 2 → S_l_added ss T Q QX → B_l_added (endsOf T.length Q QX) (startD 2 2 ss T) := by
  intro ss T Q QX hl h
  obtain ⟨k, g, now, past, hk, ok, h⟩ := h
  have hk0 := hk
  unfold Ln at hk
  unfold B_l_added
  rcases h with ⟨rs, rfl, c20, rok, hp, h⟩ | ⟨d, t, rfl, ht, o1, nr, h⟩
  · (walk_at "di"; repeat (simp only [hk]; walk_at "di"))
    refine ⟨k, g, now, past, hk0, ok, .inl ⟨rs, rfl, c20, rok, hp, ?_⟩⟩
    walk_at "di"
    rw [List.take_of_length_le (by simp)]
    exact h
  · (walk_at "di"; repeat (simp only [hk]; walk_at "di"))
    refine ⟨k, g, now, past, hk0, ok, .inr ⟨d, rfl, o1, nr, ?_⟩⟩
    exact beta_take h
theorem nil_or_snoc {α : Type} (l : List α) : l = [] ∨ ∃ i x, l = i ++ [x] := by
  rcases List.eq_nil_or_concat l with h | ⟨i, x, h⟩
  · exact .inl h
  · exact .inr ⟨i, x, by rw [h, List.concat_eq_append]⟩
theorem n22 : (((2 : Nat) : Int) == 2) = true := rfl
theorem n32 : (((3 : Nat) : Int) == 2) = false := rfl
theorem s_ua : (Str.ofString "undo" == Str.ofString "add") = false := by decide
theorem s_ue : (Str.ofString "undo" == Str.ofString "enter") = false := by decide
theorem s_ra : (Str.ofString "run" == Str.ofString "add") = false := by decide
theorem s_re : (Str.ofString "run" == Str.ofString "enter") = false := by decide
theorem s_ru : (Str.ofString "run" == Str.ofString "undo") = false := by decide
theorem s_ea : (Str.ofString "enter" == Str.ofString "add") = false := by decide
theorem exp_take {T : List Ob} {k : Nat} {o : Ob} : (T.set k o).take T.length = T.set k o := List.take_of_length_le (by simp)
/-- slots: 0 _law_lane, 1 _law_call_here -/
def B_l_call : DS :=
  (sSeq (sIf (dTest (dBin gEq (dBin gIx (dVar 1) (dC (.int 0))) (dC (.str "add")))) (sRet (dDat (dVal (dCall 2 S_l_added (dCons (dVarL 0) (dCons (dDat (dBin gIx (dVar 1) (dC (.int 1)))) dNil)))))) sNil)
  (sSeq (sIf (dTest (dBin gEq (dBin gIx (dVar 1) (dC (.int 0))) (dC (.str "enter")))) (sRet (dDat (dVal (dMeth "Lane" "enter" 2 S_Lane_enter (dVarL 0) (dCons (dDat (dBin gIx (dVar 1) (dC (.int 1)))) dNil))))) sNil)
  (sSeq (sIf (dTest (dBin gEq (dBin gIx (dVar 1) (dC (.int 0))) (dC (.str "undo")))) (sRet (dDat (dVal (dMeth "Lane" "undo" 1 S_Lane_undo (dVarL 0) dNil)))) sNil)
  (sSeq (sIf (dTest (dBin (gIsN false) (dBin gIx (dVar 1) (dC (.int 1))) (dC .non))) (sRet (dDat (dVal (dMeth "Lane" "run" 2 (starF1 S_Lane_run) (dVarL 0) (dCons (dDat (dC .non)) dNil))))) sNil)
  (sSeq (sIf (dTest (dBin gEq (dCB gLen (dCons (dDat (dBin gIx (dVar 1) (dC (.int 1)))) dNil)) (dC (.int 2)))) (sRet (dDat (dVal (dMeth "Lane" "run" 3 (starF1 S_Lane_run) (dVarL 0) (dCons (dDat (dBin gIx (dBin gIx (dVar 1) (dC (.int 1))) (dC (.int 0)))) (dCons (dDat (dBin gIx (dBin gIx (dVar 1) (dC (.int 1))) (dC (.int 1)))) dNil)))))) sNil)
  (sRet (dDat (dVal (dMeth "Lane" "run" 4 (starF1 S_Lane_run) (dVarL 0) (dCons (dDat (dBin gIx (dBin gIx (dVar 1) (dC (.int 1))) (dC (.int 0)))) (dCons (dDat (dBin gIx (dBin gIx (dVar 1) (dC (.int 1))) (dC (.int 1)))) (dCons (dDat (dBin gIx (dBin gIx (dVar 1) (dC (.int 1))) (dC (.int 2)))) dNil))))))))))))
def S_l_call : DF := fun ss T Q QX => ∃ (k : Nat) (g : Int) (now : St14) (past : List St14) (c : Cl14), ss = [.ob k, .dat c.d] ∧ Ln T k g now past ∧ LnOk g now ∧ c.Ok ∧ past.length < 50 ∧ now.1.length < 40 ∧ match stepC g now past c with
  | .inl e => QX e.x T
  | .inr (d, new, past') => Q (.dat d) (T.set k (laneO g new past'))
theorem h_l_call : ∀ (ss : List Sl) (T : List Ob) (Q : Sl → List Ob → Prop) (QX : Xn → List Ob → Prop), ss.length = 2 → S_l_call ss T Q QX → B_l_call (endsOf T.length Q QX) (startD 2 2 ss T) := by
  intro ss T Q QX hl h
  obtain ⟨k, g, now, past, c, rfl, hk, ok, cok, hp, h40, h⟩ := h
  have hT : k < T.length := (List.getElem?_eq_some_iff.mp hk).1
  have hk0 := hk
  unfold Ln at hk
  unfold B_l_call
  cases c with
  | undo =>
    simp only [Cl14.d]
    (walk_at "di"; repeat (simp only [hk, s_ua, s_ue]; walk_at "di"))
    rcases nil_or_snoc past with rfl | ⟨init, p, rfl⟩
    · refine ⟨k, g, now, [], rfl, hk0, by simp, .inl ⟨rfl, ?_⟩⟩
      exact beta_take h
    · refine ⟨k, g, now, init ++ [p], rfl, hk0, by omega, .inr ⟨init, p, rfl, ?_⟩⟩
      walk_at "di"
      rw [exp_take]
      simp only [stepC, List.getLast?_concat, List.dropLast_concat] at h
      exact h
  | run r =>
    have rok : r.ok := cok
    cases r with
    | to p =>
      simp only [Cl14.d, Rn.d]
      (walk_at "di"; repeat (simp only [hk, s_ra, s_re, s_ru, n22, n32]; walk_at "di"))
      refine ⟨k, g, now, past, hk0, ok, .inl ⟨.to p, rfl, cok, hp, ?_⟩⟩
      walk_at "di"
      rw [exp_take]
      exact h
    | bark s =>
      simp only [Cl14.d, Rn.d]
      (walk_at "di"; repeat (simp only [hk, s_ra, s_re, s_ru, n22, n32]; walk_at "di"))
      refine ⟨k, g, now, past, hk0, ok, .inl ⟨.bark s, rfl, cok, hp, ?_⟩⟩
      walk_at "di"
      rw [exp_take]
      exact h
    | back n s =>
      simp only [Cl14.d, Rn.d]
      (walk_at "di"; repeat (simp only [hk, s_ra, s_re, s_ru, n22, n32]; walk_at "di"))
      refine ⟨k, g, now, past, hk0, ok, .inl ⟨.back n s, rfl, cok, hp, ?_⟩⟩
      walk_at "di"
      rw [exp_take]
      exact h
    | front n s =>
      simp only [Cl14.d, Rn.d]
      (walk_at "di"; repeat (simp only [hk, s_ra, s_re, s_ru, n22, n32]; walk_at "di"))
      refine ⟨k, g, now, past, hk0, ok, .inl ⟨.front n s, rfl, cok, hp, ?_⟩⟩
      walk_at "di"
      rw [exp_take]
      exact h
  | runD d =>
    have cok' : d = .non ∨ d = .tup [.str "back", .int 0] ∨ d = .tup [.str "bark", .int 0] := cok
    rcases cok' with rfl | rfl | rfl
    · simp only [Cl14.d]
      (walk_at "di"; repeat (simp only [hk, s_ra, s_re, s_ru]; walk_at "di"))
      exact ⟨k, g, now, past, hk0, ok, .inr ⟨_, rfl, rfl, rfl, beta_take h⟩⟩
    · simp only [Cl14.d]
      (walk_at "di"; repeat (simp only [hk, s_ra, s_re, s_ru, n22]; walk_at "di"))
      exact ⟨k, g, now, past, hk0, ok, .inr ⟨_, rfl, rfl, rfl, beta_take h⟩⟩
    · simp only [Cl14.d]
      (walk_at "di"; repeat (simp only [hk, s_ra, s_re, s_ru, n22]; walk_at "di"))
      exact ⟨k, g, now, past, hk0, ok, .inr ⟨_, rfl, rfl, rfl, beta_take h⟩⟩
  | add rs =>
    simp only [Cl14.d]
    (walk_at "di"; repeat (simp only [hk]; walk_at "di"))
    refine ⟨k, g, now, past, hk0, ok, .inl ⟨rs, rfl, cok.1, cok.2, hp, ?_⟩⟩
    walk_at "di"
    rw [exp_take]
    exact h
  | addD d =>
    simp only [Cl14.d]
    (walk_at "di"; repeat (simp only [hk]; walk_at "di"))
    obtain ⟨r, rok, rfl | rfl⟩ := cok
    · refine ⟨k, g, now, past, hk0, ok, .inr ⟨_, _, rfl, rfl, ?_, rfl, ?_⟩⟩
      · rw [okd_60l, okds_cons, okds_nil, r.okd 58]
        rfl
      · exact beta_take h
    · refine ⟨k, g, now, past, hk0, ok, .inr ⟨_, _, rfl, rfl, ?_, ?_, ?_⟩⟩
      · rw [okd_60t, okds_cons, okds_cons, okds_nil, r.okd 58]
        rfl
      · show (decide ([r.d, D.non].length ≤ 20) && (isRun r.d && (isRun .non && true))) = false
        rw [show isRun .non = false from rfl, Bool.false_and, Bool.and_false, Bool.and_false]
      · exact beta_take h
  | enter p =>
    simp only [Cl14.d]
    (walk_at "di"; repeat (simp only [hk, s_ea]; walk_at "di"))
    have cp : p ≤ 1000000000000000000000000000000 := cok
    by_cases p0 : 0 ≤ p
    · cases q : farB g p now.1 with
      | true =>
        refine ⟨k, g, now, past, hk0, ok, .inl ⟨p, rfl, p0, cp, q, h40, hp, ?_⟩⟩
        walk_at "di"
        rw [exp_take]
        simp only [stepC] at h
        rw [if_pos ⟨p0, q⟩] at h
        exact h
      | false =>
        refine ⟨k, g, now, past, hk0, ok, .inr (.inl ⟨p, rfl, p0, cp, .inl q, ?_⟩)⟩
        simp only [stepC] at h
        rw [if_neg (fun z => by rw [q] at z; exact absurd z.2 Bool.false_ne_true)] at h
        exact beta_take h
    · refine ⟨k, g, now, past, hk0, ok, .inr (.inr ⟨.int p, rfl, okd_int _ _, ?_, ?_⟩)⟩
      · simp [isInt, p0]
      · simp only [stepC] at h
        rw [if_neg (fun z => p0 z.1)] at h
        exact beta_take h
  | enterN =>
    simp only [Cl14.d]
    (walk_at "di"; repeat (simp only [hk, s_ea]; walk_at "di"))
    refine ⟨k, g, now, past, hk0, ok, .inr (.inr ⟨.non, rfl, rfl, rfl, ?_⟩)⟩
    exact beta_take h
end DL
set_option Elab.async false
set_option linter.all false
set_option maxRecDepth 100000
set_option maxHeartbeats 4000000
set_option autoImplicit false
/-! Law k14: what the law looks at. -/
namespace DL
open PySem PySem.Spec PyProof.Rows L2
local macro_rules | `(tactic| walk_at "dl") => `(tactic| (try simp only [sSeq, sSet, sRet, sRetN, sIf, sNil, sDrop, sFor, sTo, sPar2, sPar3, sNever, sRaise, sSetIx, dVar, dC, dVarL, dDat, dVal, valK_dat, valK_ob, dBin, dUn, dNil, dCons, dats, dTup, dLst, dNew, dNewOf, dTest, dtAnd, dtOr, dtNot, dAnd, dOr, dNot, dIf, dChain, dCB, dSl, dNo, dSo, sApp, dIxO, dLenO, dMaxD, dGetP, dCall, dSeq, dRng1, dRng2, dZip, dEnum, gNm, gTp, gCs, gNl, dYes,
  startD, endsOf, retD, wipeS, gAdd, gSub, gMul, gMulA, gMulB, gDiv, gMod, gPow, gNeg, gLt, gLe, gGt, gGe, gEq, gNe, gIn, gIx, gSl, gIsi, tyD, isiD, gLen, gAbs, gInt, gMax2, gMin2, gTuple, gList, gIsN, isNon, gIsB, gNotB,
  List.getElem?_cons_zero, List.getElem?_cons_succ, List.getElem?_nil, List.set_cons_zero, List.set_cons_succ, List.map_cons, List.map_nil, List.cons_append, List.nil_append, List.length_cons, List.length_nil, List.replicate_succ, List.replicate_zero, Option.map_some, Nat.reduceSub, Nat.reduceAdd, Nat.reduceLeDiff,
  List.take_length, beq_self_eq_true, String.reduceBEq, Bool.or_true, Bool.true_or, Bool.or_false, Bool.false_or, Bool.and_true, Bool.and_false, Bool.true_and, Bool.false_and, Bool.or_self, Bool.and_self, decide_true, decide_false, dmem, List.any_cons, List.any_nil, okd_non, okd_bl, okd_int, okd_str, okds_nil, okds_cons, okd_60t, okd_59t, okd_58t, okd_60l, okd_59l, okd_58l, st_tk, st_tb, st_tf, st_kt, st_kb, st_kf, st_bt, st_bk, st_bf, st_ft, st_fk, st_fb, nat_num, Int.reduceBEq, Int.reduceBNe, Int.reduceEq, Int.reduceLT, Int.reduceLE, Int.reduceAdd, Int.reduceSub, Int.reduceMul, Int.reduceNeg, Int.reduceToNat, Int.reducePow, atI_0, atI_1, atI_2, set_last, get_last, take_last, deq_str, deq_int, deq_non, deq_bl, deq_tt, deq_ll, deqs_nn, deqs_cc, deqs_nc, deqs_cn, Nat.lt_irrefl, List.set_set, ixN_20, ixN_21, tupI, okds_ints, atI_map', List.length_map, cutL_map, eq_self, if_true, if_false, ite_true, ite_false, Bool.false_eq_true, decide_eq_true_eq, true_and, and_true, and_self, Bool.not_true, Bool.not_false, true_or, or_true, false_or, or_false, Option.some.injEq, reduceCtorEq]))
local macro_rules | `(tactic| walk_at "di") => `(tactic| (try simp only [dFldO, sFldO, OwnP, dOwn, dOwnT, okTy, dLenI, dStrI, dBoolI, dInI, sAugI, dMeth, dMake, dStar, dProp, dCallO, dMakeV, dIsI, intSl, strSl, blSl, starF, gBool, dConO, dAppE, dTupF, dVarT, dTIdx, dListG, fixF, starF1, lk_space, lk_now, lk_past, lk_noted, lk_enter, lk_undo, lk_run, lk_lots, lk_MOST, pt_1, pt_2, pt_3, pt_now, pt_past, gSortedI, dats_map, sSeq, sSet, sRet, sRetN, sIf, sNil, sDrop, sFor, sTo, sPar2, sPar3, sNever, sRaise, sSetIx, dVar, dC, dVarL, dDat, dVal, valK_dat, valK_ob, dBin, dUn, dNil, dCons, dats, dTup, dLst, dNew, dNewOf, dTest, dtAnd, dtOr, dtNot, dAnd, dOr, dNot, dIf, dChain, dCB, dSl, dNo, dSo, sApp, dIxO, dLenO, dMaxD, dGetP, dCall, dSeq, dRng1, dRng2, dZip, dEnum, gNm, gTp, gCs, gNl, dYes,
  startD, endsOf, retD, wipeS, gAdd, gSub, gMul, gMulA, gMulB, gDiv, gMod, gPow, gNeg, gLt, gLe, gGt, gGe, gEq, gNe, gIn, gIx, gSl, gIsi, tyD, isiD, gLen, gAbs, gInt, gMax2, gMin2, gTuple, gList, gIsN, isNon, gIsB, gNotB,
  List.getElem?_cons_zero, List.getElem?_cons_succ, List.getElem?_nil, List.set_cons_zero, List.set_cons_succ, List.map_cons, List.map_nil, List.cons_append, List.nil_append, List.length_cons, List.length_nil, List.replicate_succ, List.replicate_zero, Option.map_some, Nat.reduceSub, Nat.reduceAdd, Nat.reduceLeDiff,
  List.take_length, beq_self_eq_true, String.reduceBEq, Bool.or_true, Bool.true_or, Bool.or_false, Bool.false_or, Bool.and_true, Bool.and_false, Bool.true_and, Bool.false_and, Bool.or_self, Bool.and_self, decide_true, decide_false, dmem, List.any_cons, List.any_nil, okd_non, okd_bl, okd_int, okd_str, okds_nil, okds_cons, okd_60t, okd_59t, okd_58t, okd_60l, okd_59l, okd_58l, st_tk, st_tb, st_tf, st_kt, st_kb, st_kf, st_bt, st_bk, st_bf, st_ft, st_fk, st_fb, nat_num, Int.reduceBEq, Int.reduceBNe, Int.reduceEq, Int.reduceLT, Int.reduceLE, Int.reduceAdd, Int.reduceSub, Int.reduceMul, Int.reduceNeg, Int.reduceToNat, Int.reducePow, atI_0, atI_1, atI_2, set_last, get_last, take_last, deq_str, deq_int, deq_non, deq_bl, deq_tt, deq_ll, deqs_nn, deqs_cc, deqs_nc, deqs_cn, Nat.lt_irrefl, List.set_set, ixN_20, ixN_21, tupI, okds_ints, atI_map', List.length_map, cutL_map, eq_self, if_true, if_false, ite_true, ite_false, Bool.false_eq_true, decide_eq_true_eq, true_and, and_true, and_self, Bool.not_true, Bool.not_false, true_or, or_true, false_or, or_false, Option.some.injEq, reduceCtorEq]))
theorem word_err {R : List Str} {c : CallF} {T : List Ob} {Q : Sl → List Ob → Prop} {x : Xn} {w : Str} (hw : IsWord R x w) (keep : ∀ Q' QX', (∀ T', T'.take T.length = T → QX' x T') → c T Q' QX') (q : Q (.dat (.str w)) T) : S_l_word R c T Q := by
  intro Q' QX' h1 h2
  refine keep Q' QX' fun T' e => h2 _ w _ hw ?_
  rw [e]
  exact q
theorem Er.word {R : List Str} (h1 : R.contains "InvalidRun" = true) (h2 : R.contains "InvalidPlace" = true) (h3 : R.contains "NothingToUndo" = true) : ∀ e : Er, IsWord R e.x e.w
  | .run => ⟨h1, .inl (by simp [words, Er.x, Er.w])⟩
  | .place => ⟨h2, .inl (by simp [words, Er.x, Er.w])⟩
  | .undo => ⟨h3, .inl (by simp [words, Er.x, Er.w])⟩
theorem Er.ne : ∀ e : Er, (e.w == Str.ofString "") = false
  | .run => by decide
  | .place => by decide
  | .undo => by decide
/-- slots: 0 _law_lane, 1 _law_call_here, 2 _law_found, 3 _law_word_here -/
def B_l_called (Rs : List Str) : DS :=
  (sSeq (sSet 2 (dNew dNil))
  (sSeq (sSet 3 (dDat (dVal (dLam (S_l_word Rs) (dAppE 2 (dVal (dCall 2 S_l_call (dCons (dVarL 0) (dCons (dDat (dVar 1)) dNil)))))))))
  (sRet (dDat (dIf (dTest (dBin gEq (dVar 3) (dC (.str "")))) (dIxO 2 (dC (.int 0))) (dVar 3))))))
def S_l_called (R : List Str) : DF := fun ss T Q _ => (R.contains "InvalidRun" = true ∧ R.contains "InvalidPlace" = true ∧ R.contains "NothingToUndo" = true) ∧ ∃ (k : Nat) (g : Int) (now : St14) (past : List St14) (c : Cl14), ss = [.ob k, .dat c.d] ∧ Ln T k g now past ∧ LnOk g now ∧ c.Ok ∧ past.length < 50 ∧ now.1.length < 40 ∧ match stepC g now past c with
  | .inl e => Q (.dat (.str e.w)) T
  | .inr (d, new, past') => Q (.dat d) (T.set k (laneO g new past'))
theorem h_l_called (Rs : List Str) : ∀ (ss : List Sl) (T : List Ob) (Q : Sl → List Ob → Prop) (QX : Xn → List Ob → Prop), ss.length = 2 → S_l_called Rs ss T Q QX → B_l_called Rs (endsOf T.length Q QX) (startD 4 2 ss T) := by
  intro ss T Q QX hl h
  obtain ⟨⟨r1, r2, r3⟩, k, g, now, past, c, rfl, hk, ok, cok, hp, h40, h⟩ := h
  have hT : k < T.length := (List.getElem?_eq_some_iff.mp hk).1
  have hk1 : Ln (T ++ [Ob.lst []]) k g now past := by
    unfold Ln at hk ⊢
    rw [List.getElem?_append_left hT]
    exact hk
  unfold B_l_called
  walk_at "di"
  simp only [dLam]
  have gl : ∀ T1 : List Ob, T1.length = T.length → (T1 ++ [Ob.lst []])[T.length]? = some (.lst []) := fun T1 e => by rw [← e]; simp
  cases e : stepC g now past c with
  | inl er =>
    rw [e] at h
    refine word_err (Er.word r1 r2 r3 er) (fun Q1 QX1 hQ => ?_) ?_
    · walk_at "di"
      refine ⟨k, g, now, past, c, rfl, hk1, ok, cok, hp, h40, ?_⟩
      rw [e]
      exact hQ _ (List.take_length ..)
    · walk_at "di"
      rw [er.ne]
      walk_at "di"
      exact h
  | inr o =>
    obtain ⟨d, new, past'⟩ := o
    rw [e] at h
    intro Q1 QX1 q1 q2
    walk_at "di"
    refine ⟨k, g, now, past, c, rfl, hk1, ok, cok, hp, h40, ?_⟩
    rw [e]
    dsimp only at h ⊢
    rw [List.set_append_left _ _ hT]
    generalize ht : T.set k (laneO g new past') = T1 at h ⊢
    have tl : T1.length = T.length := by rw [← ht]; simp
    have gl := gl T1 tl
    (walk_at "di"; repeat (simp only [gl]; walk_at "di"))
    refine ⟨by decide, ?_⟩
    refine q1 _ _ ?_
    have st : (T1 ++ [Ob.lst []]).set T.length (.lst ([] ++ [d])) = T1 ++ [.lst [d]] := by
      rw [List.set_append_right _ _ (by omega), tl, Nat.sub_self]
      rfl
    rw [List.nil_append] at st
    rw [st, List.take_of_length_le (by simp; omega)]
    have g2 : (T1 ++ [Ob.lst [d]])[T.length]? = some (.lst [d]) := by rw [← tl]; simp
    (walk_at "di"; repeat (simp only [g2]; walk_at "di"))
    rw [← tl, List.take_left]
    exact h
theorem rangeD_map1' (n : Nat) : rangeD 1 ((n : Int) + 1) = (List.range' 1 n).map fun (k : Nat) => D.int k := by
  unfold rangeD
  rw [show ((n : Int) + 1 - 1).toNat = n by omega, List.range'_eq_map_range, List.map_map]
  apply List.map_congr_left
  intro k _
  simp
/-- slots: 0 _law_gap, 1 _law_places, 2 _law_at_here, 3 _law_found, 4 _law_first -/
def B_l_lots : DS :=
  (sSeq (sPar2 3 4 (dNew dNil) (dDat (dC (.int 0))))
  (sSeq (sFor (dRng2 (dCons (dDat (dC (.int 1))) (dCons (dDat (dBin gAdd (dCB gLen (dCons (dDat (dVar 1)) dNil)) (dC (.int 1)))) dNil))) (gNm 2) (sIf (dtOr (dTest (dBin gEq (dVar 2) (dCB gLen (dCons (dDat (dVar 1)) dNil)))) (dTest (dBin gNe (dBin gIx (dVar 1) (dVar 2)) (dBin gAdd (dBin gIx (dVar 1) (dBin gSub (dVar 2) (dC (.int 1)))) (dVar 0))))) (sSeq (sApp 3 (dBin gAdd (dBin gAdd (dCB gStr (dCons (dDat (dBin gIx (dVar 1) (dVar 4))) dNil)) (dC (.str " "))) (dCB gStr (dCons (dDat (dBin gSub (dVar 2) (dVar 4))) dNil))))
  (sSet 4 (dDat (dVar 2)))) sNil))
  (sRet (dDat (dVar 3)))))
def S_l_lots : DF := fun ss T Q _ => ∃ (g : Int) (xs : List Int), ss = [.dat (.int g), .dat (tupI xs)] ∧ 1 ≤ xs.length ∧ xs.length ≤ 40 ∧ (∀ x ∈ xs, 0 ≤ x ∧ x < 10 ^ 40) ∧ Q (.dat (.lst (lotsL g xs))) T
theorem h_l_lots : ∀ (ss : List Sl) (T : List Ob) (Q : Sl → List Ob → Prop) (QX : Xn → List Ob → Prop), ss.length = 2 → S_l_lots ss T Q QX → B_l_lots (endsOf T.length Q QX) (startD 5 2 ss T) := by
  intro ss T Q QX hl h
  obtain ⟨g, xs, rfl, l1, l40, hb, h⟩ := h
  unfold B_l_lots
  walk_at "di"
  refine ⟨⟨by omega, by omega⟩, ?_⟩
  rw [rangeD_map1']
  refine loop_inv (fun rest ρ => ∃ (m a i : Nat) (v : Option Sl) (ds : List D), rest = (List.range' (a + 1) m).map (fun (k : Nat) => D.int k) ∧ a + m = xs.length ∧ i ≤ a ∧ ds.length ≤ a ∧ ds ++ lotsGo g xs m a i = lotsL g xs ∧ ρ = ⟨T ++ [.lst ds], [some (.dat (.int g)), some (.dat (.tup (xs.map .int))), v, some (.ob T.length), some (.dat (.int i))]⟩) ?_ ?_ _ _ ⟨xs.length, 0, 0, none, [], rfl, by omega, Nat.le_refl _, Nat.le_refl _, rfl, rfl⟩
  · rintro d rest ρ ⟨m, a, i, v, ds, e, hm, hi, hds, hd, rfl⟩ N hN
    cases m with
    | zero => cases e
    | succ m =>
      rw [List.range'_succ, List.map_cons] at e
      cases e
      unfold lotsGo at hd
      have gi := getD_mem (xs := xs) (i := i) (by omega)
      obtain ⟨b1, b2⟩ := hb _ gi
      have g1 : (T ++ [Ob.lst ds])[T.length]? = some (.lst ds) := idx_app _ _
      have s1 : (T ++ [Ob.lst ds]).set T.length (.lst (ds ++ [lotD xs i (a + 1)])) = T ++ [.lst (ds ++ [lotD xs i (a + 1)])] := set_app _ _ _
      have out : ∀ E : Prop, (a + 1 = xs.length ∨ xs.getD (a + 1) 0 ≠ xs.getD a 0 + g) → ((xs.getD i 0).natAbs.log2 < 1920 ∧ (toString (xs.getD i 0) : Str).length + Str.length " " ≤ sizeLine ∧ (((a + 1 : Nat) : Int) - i).natAbs.log2 < 1920 ∧ ((toString (xs.getD i 0) : Str) ++ (" " : Str)).length + (toString (((a + 1 : Nat) : Int) - i) : Str).length ≤ sizeLine ∧ ds.length < sizeLine ∧ N ⟨T ++ [.lst (ds ++ [lotD xs i (a + 1)])], [some (.dat (.int g)), some (.dat (.tup (xs.map .int))), some (.dat (.int ((a + 1 : Nat) : Int))), some (.ob T.length), some (.dat (.int ((a + 1 : Nat) : Int)))]⟩ → E) → E := by
        intro E hc hE
        rw [if_pos hc] at hd
        have n1 := num_len40 b1 b2
        have n2 := num_len40 (n := ((a + 1 : Nat) : Int) - i) (by omega) (Int.lt_of_le_of_lt (show ((a + 1 : Nat) : Int) - i ≤ 100 by omega) (by decide))
        have s1 : Str.length " " = 1 := rfl
        refine hE ⟨log40 b1 b2, by rw [sizeLine_eq]; omega, log40 (by omega) (Int.lt_of_le_of_lt (show ((a + 1 : Nat) : Int) - i ≤ 100 by omega) (by decide)), ?_, by rw [sizeLine_eq]; omega, ?_⟩
        · rw [Str.length_append, sizeLine_eq]
          omega
        · refine hN _ ⟨m, a + 1, a + 1, _, _, rfl, by omega, Nat.le_refl _, by simp; omega, ?_, rfl⟩
          rw [List.append_assoc, List.singleton_append]
          exact hd
      walk_at "di"
      by_cases c1 : a + 1 = xs.length
      · rw [show (((a + 1 : Nat) : Int) == (xs.length : Int)) = true by simp; omega]
        refine out _ (.inl c1) fun ⟨o2, o3, o4, o5, o6, o7⟩ => ?_
        (walk_at "di"; repeat (simp only [g1]; walk_at "di"))
        rw [at_getD (by omega)]
        walk_at "di"
        simp only [gStr]
        exact ⟨o2, o3, o4, o5, o6, o7⟩
      · rw [show (((a + 1 : Nat) : Int) == (xs.length : Int)) = false by simp; omega]
        walk_at "di"
        rw [at_getD (i := a + 1) (by omega), show (((a + 1 : Nat) : Int) - 1) = (a : Int) by omega, at_getD (i := a) (by omega)]
        (walk_at "di"; repeat (simp only [g1]; walk_at "di"))
        cases q : (xs.getD (a + 1) 0 == xs.getD a 0 + g) with
        | true =>
          have q' : xs.getD (a + 1) 0 = xs.getD a 0 + g := by simpa using q
          walk_at "di"
          rw [if_neg (by omega)] at hd
          exact hN _ ⟨m, a + 1, i, _, ds, rfl, by omega, by omega, by omega, hd, rfl⟩
        | false =>
          have q' : xs.getD (a + 1) 0 ≠ xs.getD a 0 + g := by simpa using q
          walk_at "di"
          refine out _ (.inr q') fun ⟨o2, o3, o4, o5, o6, o7⟩ => ?_
          rw [at_getD (by omega)]
          walk_at "di"
          simp only [gStr]
          exact ⟨o2, o3, o4, o5, o6, o7⟩
  · rintro ρ ⟨m, a, i, v, ds, e, hm, hi, hds, hd, rfl⟩
    cases m with
    | succ m => rw [List.range'_succ, List.map_cons] at e; cases e
    | zero =>
      rw [lotsGo, List.append_nil] at hd
      subst hd
      have g1 : (T ++ [Ob.lst (lotsL g xs)])[T.length]? = some (.lst (lotsL g xs)) := idx_app _ _
      (walk_at "di"; repeat (simp only [g1]; walk_at "di"))
      exact h
/-- as many lots as breaks, and one -/
theorem lots_one (g : Int) (xs : List Int) : ∀ (n a i : Nat), a + (n + 1) = xs.length → ((lotsGo g xs (n + 1) a i).length = 1 ↔ ∀ j, a ≤ j → j + 1 < xs.length → xs.getD (j + 1) 0 = xs.getD j 0 + g)
  | 0, a, i, h => by
    unfold lotsGo
    rw [if_pos (.inl (by omega))]
    simp only [lotsGo, List.length_cons, List.length_nil]
    exact ⟨fun _ j h1 h2 => by omega, fun _ => trivial⟩
  | n + 1, a, i, h => by
    have pos : ∀ (m a i : Nat), a + (m + 1) = xs.length → 1 ≤ (lotsGo g xs (m + 1) a i).length := by
      intro m
      induction m with
      | zero =>
        intro a i e
        unfold lotsGo
        rw [if_pos (.inl (by omega))]
        simp
      | succ m ih =>
        intro a i e
        unfold lotsGo
        split
        · simp
        · exact ih (a + 1) i (by omega)
    unfold lotsGo
    by_cases q : xs.getD (a + 1) 0 = xs.getD a 0 + g
    · rw [if_neg (by omega), lots_one g xs n (a + 1) i (by omega)]
      constructor
      · intro z j h1 h2
        by_cases e : j = a
        · subst e; exact q
        · exact z j (by omega) h2
      · intro z j h1 h2
        exact z j (by omega) h2
    · rw [if_pos (.inr q)]
      have := pos n (a + 1) (a + 1) (by omega)
      simp only [List.length_cons]
      constructor
      · intro z; omega
      · intro z
        exact absurd (z a (Nat.le_refl _) (by omega)) q
theorem even_iff (g : Int) : ∀ xs : List Int, evenB g xs = true ↔ ∀ j, j + 1 < xs.length → xs.getD (j + 1) 0 = xs.getD j 0 + g
  | [] => by simp [evenB]
  | [x] => by simp [evenB]
  | x :: y :: r => by
    have ih := even_iff g (y :: r)
    show ((y - x == g) && evenB g (y :: r)) = true ↔ _
    rw [Bool.and_eq_true, ih, beq_iff_eq]
    constructor
    · rintro ⟨a, b⟩ j hj
      cases j with
      | zero =>
        show y = x + g
        omega
      | succ j => exact b j (by simpa using hj)
    · intro z
      refine ⟨?_, fun j hj => z (j + 1) (by simpa using hj)⟩
      have : y = x + g := z 0 (by simp)
      omega
theorem even_lots {g : Int} {xs : List Int} (l1 : 1 ≤ xs.length) : evenB g xs = decide ((lotsL g xs).length = 1) := by
  obtain ⟨n, hn⟩ : ∃ n, xs.length = n + 1 := ⟨xs.length - 1, by omega⟩
  have := lots_one g xs n 0 0 (by omega)
  unfold lotsL
  rw [hn, Bool.eq_iff_iff, even_iff, decide_eq_true_eq, this]
  exact ⟨fun z j _ h => z j h, fun z j h => z j (Nat.zero_le _) h⟩
theorem atI_neg {α : Type} {xs : List α} {i : Int} (h0 : i < 0) (h1 : 0 ≤ i + xs.length) : atI xs i = xs[(i + xs.length).toNat]? := by
  unfold atI ixN
  rw [if_neg (by omega), if_pos (by omega)]
  rfl
theorem fm_congr {α β : Type} {f g : α → Option β} : ∀ {l : List α}, (∀ a ∈ l, f a = g a) → l.filterMap f = l.filterMap g
  | [], _ => rfl
  | a :: l, h => by
    rw [List.filterMap_cons, List.filterMap_cons, h a List.mem_cons_self, fm_congr fun b hb => h b (List.mem_cons_of_mem _ hb)]
theorem range_get {α : Type} (l : List α) : (List.range l.length).filterMap (fun i => l[i]?) = l := by
  have h1 : ∀ (l p : List α), (List.range' p.length l.length).filterMap (fun i => (p ++ l)[i]?) = l := by
    intro l
    induction l with
    | nil => intro p; rfl
    | cons x l ih =>
      intro p
      rw [List.length_cons, List.range'_succ, List.filterMap_cons]
      simp only [List.getElem?_append_right (Nat.le_refl _), Nat.sub_self, List.getElem?_cons_zero]
      have := ih (p ++ [x])
      rw [List.length_append, List.length_singleton, List.append_assoc, List.singleton_append] at this
      rw [this]
  have := h1 l []
  rw [List.range_eq_range']
  exact this
/-- every item by its place from the end, then from the start -/
theorem both_ways (xs : List Int) : (List.range (xs.length + xs.length)).filterMap (fun k => (atI xs (0 - (xs.length : Int) + (k : Nat))).map D.int) = xs.map D.int ++ xs.map D.int := by
  have key : ∀ f : Nat → Option D, (∀ k, k < xs.length → f k = (xs.map D.int)[k]?) → (List.range xs.length).filterMap f = xs.map D.int := by
    intro f hf
    have e : (List.range xs.length).filterMap f = (List.range xs.length).filterMap fun k => (xs.map D.int)[k]? := by
      exact fm_congr fun k hk => hf k (by simpa using hk)
    rw [e]
    have := range_get (xs.map D.int)
    rwa [List.length_map] at this
  rw [List.range_add, List.filterMap_append, List.filterMap_map, key _ ?_, key _ ?_]
  · intro k hk
    have e : (0 - (xs.length : Int) + ((xs.length + k : Nat) : Int)) = (k : Int) := by omega
    show (atI xs (0 - (xs.length : Int) + ((xs.length + k : Nat) : Int))).map D.int = _
    rw [e, atI_nat, List.getElem?_map]
  · intro k hk
    rw [atI_neg (by omega) (by omega), List.getElem?_map, show (0 - (xs.length : Int) + (k : Int) + xs.length).toNat = k by omega]
theorem lots_okd (g : Int) (xs : List Int) : ∀ (n a i : Nat) (d : D), d ∈ lotsGo g xs n a i → okd 59 d = true
  | 0, a, i, d, h => by simp [lotsGo] at h
  | n + 1, a, i, d, h => by
    unfold lotsGo at h
    split at h
    · rcases List.mem_cons.mp h with rfl | h
      · rfl
      · exact lots_okd g xs n _ _ d h
    · exact lots_okd g xs n _ _ d h
/-- slots: 0 _law_lane, 1 _law_gap, 2 _law_now, 3 _law_many, 4 _law_wide, 5 _law_odd, 6 _law_place, 7 _law_lots_here, 8 _law_places, 9 _law_runs, 10 _law_at_here -/
def B_l_shows (Rs : List Str) : DS :=
  (sSeq (sTo (dVar 2) (gTp 2 (gCs (gNm 8) (gCs (gNm 9) gNl))))
  (sSeq (sIf (dtOr (dTest (dBin gNe (dTup (dCons (dDat (dVal (dProp "Lane" S_Lane_gap (dVarL 0)))) (dCons (dDat (dVal (dProp "Lane" S_Lane_places (dVarL 0)))) (dCons (dDat (dVal (dProp "Lane" S_Lane_runs (dVarL 0)))) dNil)))) (dTup (dCons (dDat (dVar 1)) (dCons (dDat (dVar 8)) (dCons (dDat (dVar 9)) dNil)))))) (dTest (dBin gNe (dLenI "Lane" S_Lane_len_u (dVarL 0)) (dVar 3)))) (sRet (dDat (dC (.bl false)))) sNil)
  (sSeq (sSet 4 (dDat (dCB gLen (dCons (dDat (dVar 8)) dNil))))
  (sSeq (sIf (dTest (dBin gNe (dComp (dRng2 (dCons (dDat (dBin gSub (dC (.int 0)) (dVar 4))) (dCons (dDat (dVar 4)) dNil))) (gNm 10) dYes (dVal (dOwn "Lane" 2 S_Lane_getitem_u (dCons (dVarL 0) (dCons (dVarL 10) dNil)))) [10]) (dBin gMulB (dCB gList (dCons (dDat (dVar 8)) dNil)) (dC (.int 2))))) (sRet (dDat (dC (.bl false)))) sNil)
  (sSeq (sFor (dSeq (dLst (dCons (dDat (dVar 4)) (dCons (dDat (dBin gSub (dBin gSub (dC (.int 0)) (dVar 4)) (dC (.int 1)))) (dCons (dDat (dC .non)) (dCons (dDat (dC (.bl true))) (dCons (dDat (dC (.str "0"))) dNil))))))) (gNm 5) (sIf (dTest (dBin gNe (dVal (dLam (S_l_word Rs) (dOwn "Lane" 2 S_Lane_getitem_u (dCons (dVarL 0) (dCons (dVarL 5) dNil))))) (dC (.str "sheep")))) (sRet (dDat (dC (.bl false)))) sNil))
  (sSeq (sFor (dSeq (dLst (dCons (dDat (dC (.int 0))) (dCons (dDat (dC (.int 1))) (dCons (dDat (dBin gIx (dVar 8) (dC (.int 0)))) (dCons (dDat (dBin gIx (dVar 8) (dUn gNeg (dC (.int 1))))) (dCons (dDat (dBin gAdd (dBin gIx (dVar 8) (dC (.int 0))) (dC (.int 1)))) dNil))))))) (gNm 6) (sIf (dTest (dBin gNe (dInI "Lane" S_Lane_contains_u (dVarL 6) (dVarL 0)) (dBin (gIn false) (dVar 6) (dVar 8)))) (sRet (dDat (dC (.bl false)))) sNil))
  (sSeq (sSet 7 (dDat (dVal (dCall 2 S_l_lots (dCons (dDat (dVar 1)) (dCons (dDat (dVar 8)) dNil))))))
  (sSeq (sIf (dtOr (dTest (dInI "Lane" S_Lane_contains_u (dDat (dC .non)) (dVarL 0))) (dtOr (dTest (dInI "Lane" S_Lane_contains_u (dDat (dC (.str "0"))) (dVarL 0))) (dTest (dBin gNe (dBoolI "Lane" S_Lane_bool_u (dVarL 0)) (dBin gEq (dCB gLen (dCons (dDat (dVar 7)) dNil)) (dC (.int 1))))))) (sRet (dDat (dC (.bl false)))) sNil)
  (sRet (dDat (dBin gEq (dListG "Lane" "lots" S_Lane_lots (dVarL 0)) (dVar 7))))))))))))
def S_l_shows (R : List Str) : DF := fun ss T Q _ => R.contains "InvalidSheep" = true ∧ ∃ (k : Nat) (g : Int) (now : St14) (past : List St14), ss = [.ob k, .dat (.int g), .dat (stD now), .dat (.int past.length)] ∧ Ln T k g now past ∧ LnOk g now ∧ (∀ x ∈ now.1, 0 ≤ x ∧ x < 10 ^ 40) ∧ past.length ≤ 900 ∧ Q (.dat (.bl true)) T
theorem h_l_shows (Rs : List Str) : ∀ (ss : List Sl) (T : List Ob) (Q : Sl → List Ob → Prop) (QX : Xn → List Ob → Prop), ss.length = 4 → S_l_shows Rs ss T Q QX → B_l_shows Rs (endsOf T.length Q QX) (startD 11 4 ss T) := by
  intro ss T Q QX hl h
  obtain ⟨r1, k, g, now, past, rfl, hk, ok, hb, hp, h⟩ := h
  have hT : k < T.length := (List.getElem?_eq_some_iff.mp hk).1
  have w1 : IsWord Rs ⟨"InvalidSheep", none⟩ "sheep" := ⟨r1, .inl (by simp [words])⟩
  have hk0 := hk
  have l1 := ok.l1
  have l40 := ok.l40
  unfold Ln at hk
  unfold B_l_shows
  simp only [stD]
  (walk_at "di"; repeat (simp only [hk]; walk_at "di"))
  refine ⟨k, g, now, past, rfl, hk0, ?_⟩
  (walk_at "di"; repeat (simp only [hk]; walk_at "di"))
  refine ⟨k, g, now, past, rfl, hk0, ?_⟩
  (walk_at "di"; repeat (simp only [hk]; walk_at "di"))
  refine ⟨k, g, now, past, rfl, hk0, ?_⟩
  (walk_at "di"; repeat (simp only [hk]; walk_at "di"))
  have ko : okds 58 (now.2.map Rn.d) = true := (okds_iff _ _).mpr fun d hd => by
    obtain ⟨r, _, rfl⟩ := List.mem_map.mp hd
    exact r.okd 57
  refine ⟨ko, ko, ?_⟩
  rw [deqs_refl 59 (okds_ints 59 _), deqs_refl 58 ko]
  walk_at "di"
  refine ⟨k, g, now, past, rfl, hk0, ?_⟩
  refine ⟨by omega, by omega, ?_⟩
  rw [beq_self_eq_true]
  (walk_at "di"; repeat (simp only [hk]; walk_at "di"))
  rw [dComp_eq]
  walk_at "di"
  refine ⟨⟨by omega, by omega, by omega, by omega⟩, ?_⟩
  refine compK_idx (List.range (now.1.length + now.1.length)) (fun (k : Nat) => .int (0 - (now.1.length : Int) + k)) (fun k => (atI now.1 (0 - (now.1.length : Int) + (k : Nat))).map D.int) (by unfold rangeD; rw [show ((now.1.length : Int) - (0 - now.1.length)).toNat = now.1.length + now.1.length by omega]) _ rfl rfl ?_ (by rw [List.length_range, sizeLine_eq]; omega) ?_ ?_
  · exact (low_ob hT _).trans rfl
  · intro i hi acc R hR
    have il : i < now.1.length + now.1.length := by simpa using hi
    have hk1 : (T ++ [Ob.lst acc])[k]? = some (.ins "Lane" [("space", .int g), ("now", stD now), ("past", .tup (past.map stD))]) := by rw [List.getElem?_append_left hT]; exact hk
    obtain ⟨x, hx⟩ : ∃ x, atI now.1 (0 - (now.1.length : Int) + (i : Nat)) = some x := by
      by_cases q : i < now.1.length
      · rw [atI_neg (by omega) (by omega), show (0 - (now.1.length : Int) + (i : Int) + now.1.length).toNat = i by omega]
        exact ⟨_, List.getElem?_eq_getElem q⟩
      · rw [show (0 - (now.1.length : Int) + (i : Int)) = ((i - now.1.length : Nat) : Int) by omega, atI_nat]
        exact ⟨_, List.getElem?_eq_getElem (by omega)⟩
    (walk_at "di"; repeat (simp only [hk1]; walk_at "di"))
    refine ⟨k, g, now, past, hk1, .inl ⟨_, x, rfl, hx, ?_⟩⟩
    walk_at "di"
    have := hR [some (.ob k), some (.dat (.int g)), some (.dat (.tup [.tup (now.1.map .int), .tup (now.2.map Rn.d)])), some (.dat (.int past.length)), some (.dat (.int now.1.length)), none, none, none, some (.dat (.tup (now.1.map .int))), some (.dat (.tup (now.2.map Rn.d))), some (.dat (.int (0 - (now.1.length : Int) + (i : Nat))))] rfl
    rw [hx] at this
    exact this
  rw [both_ways]
  walk_at "di"
  rw [show ([now.1.map D.int, now.1.map D.int] : List (List D)).flatten = now.1.map D.int ++ now.1.map D.int from by simp, ← List.map_append]
  refine ⟨by omega, okds_ints 59 _, okds_ints 59 _, ?_⟩
  rw [deqs_refl 59 (okds_ints 59 _)]
  walk_at "di"
  refine loop_inv (fun rest ρ => (∀ d ∈ rest, okd 60 d = true ∧ isInt d (0 - (now.1.length : Int)) ((now.1.length : Int) - 1) = false) ∧ ∃ v, ρ = ⟨T, [some (.ob k), some (.dat (.int g)), some (.dat (.tup [.tup (now.1.map .int), .tup (now.2.map Rn.d)])), some (.dat (.int past.length)), some (.dat (.int now.1.length)), v, none, none, some (.dat (.tup (now.1.map .int))), some (.dat (.tup (now.2.map Rn.d))), none]⟩) ?_ ?_ _ _ ⟨?_, _, rfl⟩
  · rintro d rest ρ ⟨hm, v, rfl⟩ N hN
    obtain ⟨o1, nr⟩ := hm d (by simp)
    walk_at "di"
    simp only [dLam]
    refine word_err w1 (fun Q1 QX1 hQ => ?_) ?_
    · (walk_at "di"; repeat (simp only [hk]; walk_at "di"))
      exact ⟨k, g, now, past, hk0, .inr ⟨d, rfl, o1, nr, hQ _ (List.take_length ..)⟩⟩
    walk_at "di"
    exact hN _ ⟨fun x hx => hm x (by simp [hx]), _, rfl⟩
  rotate_left
  · intro d m
    simp only [List.mem_cons, List.not_mem_nil, or_false] at m
    rcases m with rfl | rfl | rfl | rfl | rfl
    · exact ⟨rfl, by simp [isInt]; omega⟩
    · exact ⟨rfl, by simp [isInt]; omega⟩
    · exact ⟨rfl, rfl⟩
    · exact ⟨rfl, rfl⟩
    · exact ⟨rfl, rfl⟩
  rintro ρ ⟨hm, v, rfl⟩
  walk_at "di"
  obtain ⟨x0, hx0⟩ : ∃ x, atI now.1 0 = some x := by
    rw [atI_pos (Int.le_refl 0)]
    exact ⟨_, List.getElem?_eq_getElem (by simp; omega)⟩
  obtain ⟨x1, hx1⟩ : ∃ x, atI now.1 (-1) = some x := by
    rw [atI_neg (by omega) (by omega)]
    exact ⟨_, List.getElem?_eq_getElem (by omega)⟩
  rw [hx0, hx1]
  walk_at "di"
  refine loop_inv (fun rest ρ => (∀ d ∈ rest, ∃ i : Int, d = .int i) ∧ ∃ v w, ρ = ⟨T, [some (.ob k), some (.dat (.int g)), some (.dat (.tup [.tup (now.1.map .int), .tup (now.2.map Rn.d)])), some (.dat (.int past.length)), some (.dat (.int now.1.length)), v, w, none, some (.dat (.tup (now.1.map .int))), some (.dat (.tup (now.2.map Rn.d))), none]⟩) ?_ ?_ _ _ ⟨?_, _, _, rfl⟩
  · rintro d rest ρ ⟨hm, v, w, rfl⟩ N hN
    obtain ⟨i, rfl⟩ := hm d (by simp)
    (walk_at "di"; repeat (simp only [hk]; walk_at "di"))
    refine ⟨k, g, now, past, _, hk0, rfl, rfl, ?_⟩
    walk_at "di"
    rw [any_int, show inB (.int i) now.1 = decide (i ∈ now.1) from rfl, beq_self_eq_true]
    walk_at "di"
    exact hN _ ⟨fun x hx => hm x (by simp [hx]), _, _, rfl⟩
  rotate_left
  · intro d m
    simp only [List.mem_cons, List.not_mem_nil, or_false] at m
    rcases m with rfl | rfl | rfl | rfl | rfl <;> exact ⟨_, rfl⟩
  rintro ρ ⟨hm, v, w, rfl⟩
  walk_at "di"
  refine ⟨g, now.1, rfl, l1, l40, hb, ?_⟩
  (walk_at "di"; repeat (simp only [hk]; walk_at "di"))
  refine ⟨k, g, now, past, _, hk0, rfl, rfl, ?_⟩
  rw [show inB .non now.1 = false from rfl]
  (walk_at "di"; repeat (simp only [hk]; walk_at "di"))
  refine ⟨k, g, now, past, _, hk0, rfl, rfl, ?_⟩
  rw [show inB (.str (Str.ofString "0")) now.1 = false from rfl]
  (walk_at "di"; repeat (simp only [hk]; walk_at "di"))
  refine ⟨k, g, now, past, rfl, hk0, ok, ?_⟩
  rw [even_lots l1]
  have e1 : decide ((lotsL g now.1).length = 1) = (((lotsL g now.1).length : Int) == 1) := by
    rw [Bool.eq_iff_iff, decide_eq_true_eq, beq_iff_eq]
    omega
  rw [e1]
  (walk_at "di"; repeat (simp only [hk]; walk_at "di"))
  have ll := lots_len g now.1 now.1.length 0 0
  have kl : okds 59 (lotsL g now.1) = true := (okds_iff _ _).mpr fun d hd => lots_okd _ _ _ _ _ d hd
  refine ⟨k, g, now, past, rfl, hk0, ok, hb, ?_, kl, kl, ?_⟩
  · show (lotsGo g now.1 now.1.length 0 0).length ≤ 1000
    omega
  · rw [deqs_refl 59 kl, List.take_length]
    exact h
end DL
set_option Elab.async false
set_option linter.all false
set_option maxRecDepth 100000
set_option maxHeartbeats 4000000
set_option autoImplicit false
/-! Law k14: what stays so from call to call. -/
namespace DL
open PySem PySem.Spec PyProof.Rows L2
/-! ### how far places grow -/
theorem clo_bd {g : Int} (g0 : 0 ≤ g) : ∀ (r : List Int) (p M : Int), (∀ x ∈ r, x ≤ M) → p ≤ M → ∀ y ∈ clo g p r, y ≤ M + g * r.length
  | [], _, _, _, _, y, hy => by simp [clo] at hy
  | x :: r, p, M, h, hp, y, hy => by
    have hx := h x List.mem_cons_self
    have e : M + g * ((x :: r).length : Int) = (M + g) + g * (r.length : Int) := by
      rw [List.length_cons]
      push_cast
      rw [Int.mul_add, Int.mul_one]
      omega
    have hn : 0 ≤ g * (r.length : Int) := Int.mul_nonneg g0 (by omega)
    rw [e]
    rcases List.mem_cons.mp hy with rfl | hy
    · split <;> omega
    · refine clo_bd g0 r _ (M + g) (fun z hz => ?_) ?_ y hy
      · have := h z (List.mem_cons_of_mem _ hz)
        omega
      · split <;> omega
theorem pushed_bd {g s M : Int} (g0 : 0 ≤ g) (hs : 0 ≤ s) {xs : List Int} (i : Nat) (h : ∀ x ∈ xs, x ≤ M) : ∀ y ∈ pushedL g xs i s, y ≤ M + s + g * xs.length := by
  intro y hy
  have hn : 0 ≤ g * (xs.length : Int) := Int.mul_nonneg g0 (by omega)
  by_cases q : i < xs.length
  · obtain ⟨A, x, r, rfl, rfl⟩ := split_at q
    rw [pushedL_at] at hy
    have hx := h x (by simp)
    have hr : g * (r.length : Int) ≤ g * ((A ++ x :: r).length : Int) := Int.mul_le_mul_of_nonneg_left (by simp; omega) g0
    rcases List.mem_append.mp hy with hy | hy
    · have := h y (List.mem_append_left _ hy)
      omega
    · rcases List.mem_cons.mp hy with rfl | hy
      · omega
      · have := clo_bd g0 r (x + s) (M + s) (fun z hz => by have := h z (by simp [hz]); omega) (by omega) y hy
        omega
  · unfold pushedL at hy
    rw [List.drop_eq_nil_of_le (by omega), List.take_of_length_le (by omega), List.append_nil] at hy
    have := h y hy
    omega
theorem ran_bd {g M : Int} {xs : List Int} {r : Rn} (g0 : 0 ≤ g) (ok : r.ok) (h0 : ∀ x ∈ xs, 0 ≤ x) (h : ∀ x ∈ xs, x ≤ M) : ∀ y ∈ ranL g xs r, y ≤ M + 1000000000000 + g * xs.length := by
  have hn : 0 ≤ g * (xs.length : Int) := Int.mul_nonneg g0 (by omega)
  intro y hy
  cases r with
  | to p =>
    have := ok.2
    simp only [ranL] at hy
    cases xs with
    | nil =>
      simp [pushedL] at hy
    | cons x r =>
      have x0 := h0 x List.mem_cons_self
      simp only [List.headD_cons] at hy
      have hz : 0 ≤ (if p - x > 0 then p - x else 0) ∧ (if p - x > 0 then p - x else 0) ≤ 1000000000000 := by split <;> omega
      have := pushed_bd g0 hz.1 0 h y hy
      omega
  | bark s =>
    have := ok.2
    simp only [ranL] at hy
    obtain ⟨x, hx, rfl⟩ := List.mem_map.mp hy
    have := h x hx
    omega
  | back n s =>
    have := ok.2.1
    have := ok.2.2
    simp only [ranL] at hy
    split at hy
    · have := pushed_bd g0 (by omega) _ h y hy
      omega
    · have := h y hy
      omega
  | front n s =>
    have := ok.2.1
    have := ok.2.2
    simp only [ranL] at hy
    split at hy
    · have := pushed_bd g0 (by omega) _ h y hy
      omega
    · have := h y hy
      omega
theorem leL_mem : ∀ {xs ys : List Int}, leL xs ys → ∀ y ∈ ys, ∃ x ∈ xs, x ≤ y
  | [], [], _, y, hy => by simp at hy
  | x :: r, y :: s, h, z, hz => by
    rcases List.mem_cons.mp hz with rfl | hz
    · exact ⟨x, List.mem_cons_self, h.1⟩
    · obtain ⟨w, hw, hl⟩ := leL_mem h.2 z hz
      exact ⟨w, List.mem_cons_of_mem _ hw, hl⟩
theorem ran_pos {g : Int} {xs : List Int} {r : Rn} (ok : r.ok) (h0 : ∀ x ∈ xs, 0 ≤ x) : ∀ y ∈ ranL g xs r, 0 ≤ y := by
  intro y hy
  obtain ⟨x, hx, hl⟩ := leL_mem (leL_ran ok) y hy
  have := h0 x hx
  omega
/-! ### a state, with so many turns left -/
structure StOk (g : Int) (n : Nat) (p : St14) : Prop where
  l1 : 1 ≤ p.1.length
  l40 : p.1.length + n ≤ 36
  rr : p.2.length + 2 * n ≤ 60
  sp : spaced g p.1 = true
  pos : ∀ x ∈ p.1, 0 ≤ x
  bd : ∀ x ∈ p.1, x ≤ 10000000000000000 - n * 100000000000000
theorem StOk.down {g : Int} {n : Nat} {p : St14} (h : StOk g (n + 1) p) : StOk g n p :=
  ⟨h.l1, by have := h.l40; omega, by have := h.rr; omega, h.sp, h.pos, fun x hx => by have := h.bd x hx; push_cast at this; omega⟩
theorem StOk.ln {g : Int} {n : Nat} {p : St14} (h : StOk g n p) (g1 : 1 ≤ g) (g9 : g ≤ 9) : LnOk g p :=
  ⟨g1, g9, h.l1, by have := h.l40; omega, by have := h.rr; omega, h.sp⟩
theorem StOk.great {g : Int} {n : Nat} {p : St14} (h : StOk g n p) : ∀ x ∈ p.1, 0 ≤ x ∧ x ≤ 1000000000000000000000000000000 := fun x hx => ⟨h.pos x hx, by have := h.bd x hx; omega⟩
theorem StOk.b40 {g : Int} {n : Nat} {p : St14} (h : StOk g n p) : ∀ x ∈ p.1, 0 ≤ x ∧ x < 10 ^ 40 := fun x hx => ⟨h.pos x hx, by have := h.bd x hx; simp only [Int.reducePow]; omega⟩
theorem StOk.bg {g : Int} {n : Nat} {p : St14} (h : StOk g n p) : BgOk g p.1 := ⟨h.l1, by have := h.l40; omega, h.great, h.sp⟩
/-- a call that the law may make -/
def Cl14.Fr (g top : Int) : Cl14 → Prop
  | .run r => r.ok
  | .runD d => d = .non ∨ d = .tup [.str "back", .int 0] ∨ d = .tup [.str "bark", .int 0]
  | .add rs => rs.length ≤ 2 ∧ ∀ r ∈ rs, r.ok
  | .addD d => ∃ r : Rn, r.ok ∧ (d = .lst [r.d] ∨ d = .tup [r.d, .non])
  | .enter p => p ≤ top + g ∨ p < 20
  | _ => True
theorem Cl14.Fr.ok {g top : Int} (ht : top ≤ 10000000000000000) (g9 : g ≤ 9) : ∀ {c : Cl14}, c.Fr g top → c.Ok
  | .run _, h => h
  | .runD _, h => h
  | .add _, h => ⟨by have := h.1; omega, h.2⟩
  | .addD _, h => h
  | .enter p, h => by
    have h : p ≤ top + g ∨ p < 20 := h
    show p ≤ 1000000000000000000000000000000
    omega
  | .enterN, _ => trivial
  | .undo, _ => trivial
theorem ran_ok {g : Int} {n : Nat} {xs : List Int} {rs rs' : List Rn} {r : Rn} {M : Int} (g1 : 1 ≤ g) (g9 : g ≤ 9) (ok : r.ok) (h40 : xs.length ≤ 40) (pos : ∀ x ∈ xs, 0 ≤ x) (bd : ∀ x ∈ xs, x ≤ M) :
    (∀ x ∈ ranL g xs r, 0 ≤ x) ∧ ∀ x ∈ ranL g xs r, x ≤ M + 10000000000000 := by
  refine ⟨ran_pos ok pos, fun x hx => ?_⟩
  have := ran_bd (by omega) ok pos bd x hx
  have h3 : g * (xs.length : Int) ≤ 9 * 40 := Int.mul_le_mul g9 (by omega) (by omega) (by omega)
  omega
theorem Cl14.step {g : Int} {n : Nat} {now : St14} {past : List St14} (g1 : 1 ≤ g) (g9 : g ≤ 9) (h : StOk g (n + 1) now) (hp : ∀ p ∈ past, StOk g (n + 1) p) {top : Int} (ht : top ∈ now.1) {c : Cl14} (fr : c.Fr g top) :
    ∀ d new past', stepC g now past c = .inr (d, new, past') → StOk g n new ∧ ∀ p ∈ past', StOk g n p := by
  intro d new past' e
  have hd := h.down
  have hpd : ∀ p ∈ past ++ [now], StOk g n p := fun p m => by
    rcases List.mem_append.mp m with m | m
    · exact (hp p m).down
    · rw [List.mem_singleton.mp m]
      exact hd
  have h40 := h.l40
  have rr := h.rr
  have tb := h.bd top ht
  have grow : ∀ x : Int, x ≤ 10000000000000000 - ((n + 1 : Nat) : Int) * 100000000000000 + 20000000000000 → x ≤ 10000000000000000 - (n : Int) * 100000000000000 := fun x hx => by
    push_cast at hx
    omega
  cases c with
  | run r =>
    cases e
    obtain ⟨a, b⟩ := ran_ok (n := n) (rs := []) (rs' := []) g1 g9 fr (by omega) h.pos h.bd
    exact ⟨⟨by rw [ranL_len]; exact h.l1, by rw [ranL_len]; omega, by rw [List.length_append, List.length_singleton]; omega, ran_spaced h.sp fr, a, fun x hx => grow x (by have := b x hx; omega)⟩, hpd⟩
  | runD d => cases e
  | addD d => cases e
  | enterN => cases e
  | add rs =>
    cases e
    obtain ⟨f1, f2⟩ := fr
    refine ⟨?_, hpd⟩
    match rs, f1, f2 with
    | [], _, _ => exact ⟨hd.l1, hd.l40, by rw [List.append_nil]; exact hd.rr, hd.sp, hd.pos, hd.bd⟩
    | [r], _, f2 =>
      have fr := f2 r (by simp)
      obtain ⟨a, b⟩ := ran_ok (n := n) (rs := []) (rs' := []) g1 g9 fr (by omega) h.pos h.bd
      exact ⟨by show 1 ≤ (ranL g now.1 r).length; rw [ranL_len]; exact h.l1, by show (ranL g now.1 r).length + n ≤ 36; rw [ranL_len]; omega, by rw [List.length_append, List.length_singleton]; omega, ran_spaced h.sp fr, a, fun x hx => grow x (by have := b x hx; omega)⟩
    | [r, r2], _, f2 =>
      have fr := f2 r (by simp)
      have fr2 := f2 r2 (by simp)
      obtain ⟨a, b⟩ := ran_ok (n := n) (rs := []) (rs' := []) g1 g9 fr (by omega) h.pos h.bd
      obtain ⟨a2, b2⟩ := ran_ok (n := n) (rs := []) (rs' := []) g1 g9 fr2 (by rw [ranL_len]; omega) a b
      exact ⟨by show 1 ≤ (ranL g (ranL g now.1 r) r2).length; rw [ranL_len, ranL_len]; exact h.l1, by show (ranL g (ranL g now.1 r) r2).length + n ≤ 36; rw [ranL_len, ranL_len]; omega, by rw [List.length_append]; simp; omega, ran_spaced (ran_spaced h.sp fr) fr2, a2, fun x hx => grow x (by have := b2 x hx; omega)⟩
    | _ :: _ :: _ :: _, f1, _ => simp at f1
  | enter p =>
    simp only [stepC] at e
    split at e
    · rename_i q
      cases e
      have fr : p ≤ top + g ∨ p < 20 := fr
      refine ⟨⟨by rw [insI_len]; omega, by rw [insI_len]; omega, by show now.2.length + 2 * n ≤ 60; omega, ?_, ?_, ?_⟩, hpd⟩
      · rw [ins_spaced g1 h.sp]
        exact q.2
      · intro x hx
        rcases insI_mem.mp hx with rfl | hx
        · exact q.1
        · exact h.pos x hx
      · intro x hx
        rcases insI_mem.mp hx with rfl | hx
        · push_cast at tb
          omega
        · exact hd.bd x hx
    · cases e
  | undo =>
    simp only [stepC] at e
    rcases nil_or_snoc past with rfl | ⟨init, p, rfl⟩
    · cases e
    · simp only [List.getLast?_concat, List.dropLast_concat] at e
      cases e
      exact ⟨(hp _ (by simp)).down, fun q m => (hp q (by simp [m])).down⟩
theorem Cl14.steplen {g : Int} {now : St14} {past : List St14} {c : Cl14} : ∀ d new past', stepC g now past c = .inr (d, new, past') → past'.length ≤ past.length + 1 := by
  intro d new past' e
  cases c with
  | run r => cases e; simp
  | runD d => cases e
  | addD d => cases e
  | enterN => cases e
  | add rs => cases e; simp
  | enter p =>
    simp only [stepC] at e
    split at e
    · cases e; simp
    · cases e
  | undo =>
    simp only [stepC] at e
    rcases nil_or_snoc past with rfl | ⟨init, p, rfl⟩
    · cases e
    · simp only [List.getLast?_concat, List.dropLast_concat] at e
      cases e
      simp; omega
def Cl14.isU : Cl14 → Bool
  | .undo => true
  | _ => false
theorem Cl14.deqU : ∀ c : Cl14, deq c.d (.tup [.str "undo"]) = c.isU
  | .undo => by decide
  | .run _ => by simp only [Cl14.d, deq_tt, deqs_cc, deqs_cn, Bool.and_false]; rfl
  | .runD _ => by simp only [Cl14.d, deq_tt, deqs_cc, deqs_cn, Bool.and_false]; rfl
  | .add _ => by simp only [Cl14.d, deq_tt, deqs_cc, deqs_cn, Bool.and_false]; rfl
  | .addD _ => by simp only [Cl14.d, deq_tt, deqs_cc, deqs_cn, Bool.and_false]; rfl
  | .enter _ => by simp only [Cl14.d, deq_tt, deqs_cc, deqs_cn, Bool.and_false]; rfl
  | .enterN => by simp only [Cl14.d, deq_tt, deqs_cc, deqs_cn, Bool.and_false]; rfl
theorem Cl14.okd60 {c : Cl14} (ok : c.Ok) : okd 60 c.d = true := by
  cases c with
  | run r => simp only [Cl14.d, okd_60t, okds_cons, okds_nil, okd_str, r.okd 58, Bool.and_true]
  | runD d =>
    have ok : d = .non ∨ d = .tup [.str "back", .int 0] ∨ d = .tup [.str "bark", .int 0] := ok
    rcases ok with rfl | rfl | rfl <;> rfl
  | add rs =>
    simp only [Cl14.d, okd_60t, okds_cons, okds_nil, okd_str, okd_59t, Bool.and_true, Bool.true_and]
    exact (okds_iff _ _).mpr fun d hd => by
      obtain ⟨r, _, rfl⟩ := List.mem_map.mp hd
      exact r.okd 57
  | addD d =>
    obtain ⟨r, rok, rfl | rfl⟩ := ok
    · simp only [Cl14.d, okd_60t, okds_cons, okds_nil, okd_str, okd_59l, r.okd 57, Bool.and_true]
    · simp only [Cl14.d, okd_60t, okds_cons, okds_nil, okd_str, okd_59t, okd_non, r.okd 57, Bool.and_true]
  | enter p => rfl
  | enterN => rfl
  | undo => rfl
end DL
set_option Elab.async false
set_option linter.all false
set_option maxRecDepth 100000
set_option maxHeartbeats 1000000
set_option autoImplicit false
/-! The data level: methods called with nothing. -/
namespace DL
open PySem PySem.Spec PyProof.Rows L2
theorem bt_sorted : bootBuiltins "sorted" = some (.builtin "sorted") := by decide +kernel
theorem pe_methR0 {X : Cx} {CX : CXT} {k : Nat} {C f : Addr} {m : Str} {sp : Sp} {E : XK} {o : Expr} {ta : TE} {apos pos : Pos} {pl : Sem Bool} (he : PE X o ta) (c : Cls X.K C) (hm : Meth X.K C m f)
    (F : FnR X.prog X.w X.K X.mg X.base CX k f sp) (hr : Room k X.A) (hx : Passes CX X E)
    (ht : eval (.Call (.Attribute o m apos) [] [] pos) X.env = (do
      let ov ← eval o X.env
      standAt apos.atName
      let (f, first) ← holding [ov] (getMethod ov m pl)
      callWith pos f first (backTo pos (starEach [] X.env)) (backToKw pos (keywordEach [] X.env))) := by rfl) :
    PE X (.Call (.Attribute o m apos) [] [] pos) (tMethR C m sp E ta tNil) := by
  refine ⟨fun pins s σ H Q I h => ?_⟩
  refine PySem.W.methodCall_KW (pl := pl) (thn (he.run pins s σ H _ I h) fun u s1 ⟨x, H1, I1, rx, a, dx, fs, ex, ea, l, q⟩ => ?_) ht
  subst ex
  obtain rfl : u = Value.ref a := rx
  refine getmeth_ok I1 ea c hm l ?_
  exact PySem.W.callWith_K0 (first := [.ref a]) I1.kIn hm.kp (wpAny_call (run_fnR (us := [.ref a]) (vs := [.ref a]) F hr hx I1 (.cons rfl .nil) q))
section
variable {X : Cx} {E : XK} {Cn m : Str} {C f : Addr} {k n : Nat} {F : DF} {o : Expr} {fo : DL'} {pos apos : Pos}
theorem dl_meth0 (c : ClsI X.K Cn C) (ow : OwnF X C m f k n F) (hr : Room k X.A) (tk : Takes X (WF' E)) (ho : PE X o (lL X.K (WF' E) fo)) {pl : Sem Bool}
    (ht : eval (.Call (.Attribute o m apos) [] [] pos) X.env = (do
      let ov ← eval o X.env
      standAt apos.atName
      let (f, first) ← holding [ov] (getMethod ov m pl)
      callWith pos f first (backTo pos (starEach [] X.env)) (backToKw pos (keywordEach [] X.env))) := by rfl) : PE X (.Call (.Attribute o m apos) [] [] pos) (lL X.K (WF' E) (dMeth Cn m n F fo dNil)) :=
  pe_imp (pe_methR0 (pl := pl) ho c.cl ⟨ow.at_, ow.fn, ow.kp⟩ ow.run hr (passE tk) ht) fun σ H Q ⟨ρ, G, la, P, XX, r, h, q, xo⟩ => ⟨ρ, G, la, _, XX, r, h, fun x ρ1 v G1 la1 H1 p1 a1 z1 => by
    cases x with
    | dat d => exact (show False from p1).elim
    | clo _ _ _ => exact (show False from p1).elim
    | ob k' =>
      have z0 := z1
      obtain ⟨a, hla, ev⟩ := z1
      have p2 : (match ρ1.T[k']? with
        | some (.ins C fs) => match fs.lookup m with
          | none => C = Cn ∧ 1 = n ∧ F [.ob k'] ρ1.T (fun x T' => P x ⟨T', ρ1.s⟩) (fun x T' => XX x ⟨T', ρ1.s⟩)
          | some _ => False
        | _ => False) := p1
      split at p2
      · rename_i C' fs hk
        split at p2
        · rename_i hl
          obtain ⟨rfl, hn, p5⟩ := p2
          obtain ⟨dx, ws, hH, _, _, e1, e2⟩ := a1.r.tb.ins_at hla hk c.nm
          refine ⟨a, dx, ws, ev, hH, lookD_none e1 hl, ?_⟩
          refine ⟨hn, [.ob k'], G1, la1, ρ1.T, _, _, a1.r.tb, .cons z0 .nil, p5, fun r2 T' v' G' la' H' pr g pp rl sr => ?_, fun y T' G' la' H' cls od px g pp rl xr' => ?_⟩
          · refine q _ _ _ _ _ _ pr ⟨a1.g.trans g, a1.p.trans pp, ⟨rl, a1.r.sl, fun i y hy => ?_⟩⟩ sr
            obtain ⟨u, hu, ru⟩ := a1.r.at_ i y hy
            exact ⟨u, hu, ru.grow g pp⟩
          · refine xo y ⟨T', ρ1.s⟩ σ G' la' H' cls od px ⟨a1.g.trans g, a1.p.trans pp, ⟨rl, a1.r.sl, fun i y hy => ?_⟩⟩ xr'
            obtain ⟨u, hu, ru⟩ := a1.r.at_ i y hy
            exact ⟨u, hu, ru.grow g pp⟩
        · exact p2.elim
      · exact p2.elim, xo⟩
end
end DL
set_option Elab.async false
set_option linter.all false
set_option maxRecDepth 100000
set_option maxHeartbeats 4000000
set_option autoImplicit false
/-! Law k14 at data level. -/
namespace DL
open PySem PySem.Spec PyProof.Rows L2
local macro_rules | `(tactic| walk_at "dl") => `(tactic| (try simp only [sSeq, sSet, sRet, sRetN, sIf, sNil, sDrop, sFor, sTo, sPar2, sPar3, sNever, sRaise, sSetIx, dVar, dC, dVarL, dDat, dVal, valK_dat, valK_ob, dBin, dUn, dNil, dCons, dats, dTup, dLst, dNew, dNewOf, dTest, dtAnd, dtOr, dtNot, dAnd, dOr, dNot, dIf, dChain, dCB, dSl, dNo, dSo, sApp, dIxO, dLenO, dMaxD, dGetP, dCall, dSeq, dRng1, dRng2, dZip, dEnum, gNm, gTp, gCs, gNl, dYes,
  startD, endsOf, retD, wipeS, gAdd, gSub, gMul, gMulA, gMulB, gDiv, gMod, gPow, gNeg, gLt, gLe, gGt, gGe, gEq, gNe, gIn, gIx, gSl, gIsi, tyD, isiD, gLen, gAbs, gInt, gMax2, gMin2, gTuple, gList, gIsN, isNon, gIsB, gNotB,
  List.getElem?_cons_zero, List.getElem?_cons_succ, List.getElem?_nil, List.set_cons_zero, List.set_cons_succ, List.map_cons, List.map_nil, List.cons_append, List.nil_append, List.length_cons, List.length_nil, List.replicate_succ, List.replicate_zero, Option.map_some, Nat.reduceSub, Nat.reduceAdd, Nat.reduceLeDiff,
  List.take_length, beq_self_eq_true, String.reduceBEq, Bool.or_true, Bool.true_or, Bool.or_false, Bool.false_or, Bool.and_true, Bool.and_false, Bool.true_and, Bool.false_and, Bool.or_self, Bool.and_self, decide_true, decide_false, dmem, List.any_cons, List.any_nil, okd_non, okd_bl, okd_int, okd_str, okds_nil, okds_cons, okd_60t, okd_59t, okd_58t, okd_60l, okd_59l, okd_58l, st_tk, st_tb, st_tf, st_kt, st_kb, st_kf, st_bt, st_bk, st_bf, st_ft, st_fk, st_fb, nat_num, Int.reduceBEq, Int.reduceBNe, Int.reduceEq, Int.reduceLT, Int.reduceLE, Int.reduceAdd, Int.reduceSub, Int.reduceMul, Int.reduceNeg, Int.reduceToNat, Int.reducePow, atI_0, atI_1, atI_2, set_last, get_last, take_last, deq_str, deq_int, deq_non, deq_bl, deq_tt, deq_ll, deqs_nn, deqs_cc, deqs_nc, deqs_cn, Nat.lt_irrefl, List.set_set, ixN_20, ixN_21, tupI, okds_ints, atI_map', List.length_map, cutL_map, eq_self, if_true, if_false, ite_true, ite_false, Bool.false_eq_true, decide_eq_true_eq, true_and, and_true, and_self, Bool.not_true, Bool.not_false, true_or, or_true, false_or, or_false, Option.some.injEq, reduceCtorEq]))
local macro_rules | `(tactic| walk_at "di") => `(tactic| (try simp only [dFldO, sFldO, OwnP, dOwn, dOwnT, okTy, dLenI, dStrI, dBoolI, dInI, sAugI, dMeth, dMake, dStar, dProp, dCallO, dMakeV, dIsI, intSl, strSl, blSl, starF, gBool, dConO, dAppE, dTupF, dVarT, dTIdx, dListG, fixF, starF1, lk_space, lk_now, lk_past, lk_noted, lk_enter, lk_undo, lk_run, lk_lots, lk_MOST, pt_1, pt_2, pt_3, pt_now, pt_past, gSortedI, dats_map, sSeq, sSet, sRet, sRetN, sIf, sNil, sDrop, sFor, sTo, sPar2, sPar3, sNever, sRaise, sSetIx, dVar, dC, dVarL, dDat, dVal, valK_dat, valK_ob, dBin, dUn, dNil, dCons, dats, dTup, dLst, dNew, dNewOf, dTest, dtAnd, dtOr, dtNot, dAnd, dOr, dNot, dIf, dChain, dCB, dSl, dNo, dSo, sApp, dIxO, dLenO, dMaxD, dGetP, dCall, dSeq, dRng1, dRng2, dZip, dEnum, gNm, gTp, gCs, gNl, dYes,
  startD, endsOf, retD, wipeS, gAdd, gSub, gMul, gMulA, gMulB, gDiv, gMod, gPow, gNeg, gLt, gLe, gGt, gGe, gEq, gNe, gIn, gIx, gSl, gIsi, tyD, isiD, gLen, gAbs, gInt, gMax2, gMin2, gTuple, gList, gIsN, isNon, gIsB, gNotB,
  List.getElem?_cons_zero, List.getElem?_cons_succ, List.getElem?_nil, List.set_cons_zero, List.set_cons_succ, List.map_cons, List.map_nil, List.cons_append, List.nil_append, List.length_cons, List.length_nil, List.replicate_succ, List.replicate_zero, Option.map_some, Nat.reduceSub, Nat.reduceAdd, Nat.reduceLeDiff,
  List.take_length, beq_self_eq_true, String.reduceBEq, Bool.or_true, Bool.true_or, Bool.or_false, Bool.false_or, Bool.and_true, Bool.and_false, Bool.true_and, Bool.false_and, Bool.or_self, Bool.and_self, decide_true, decide_false, dmem, List.any_cons, List.any_nil, okd_non, okd_bl, okd_int, okd_str, okds_nil, okds_cons, okd_60t, okd_59t, okd_58t, okd_60l, okd_59l, okd_58l, st_tk, st_tb, st_tf, st_kt, st_kb, st_kf, st_bt, st_bk, st_bf, st_ft, st_fk, st_fb, nat_num, Int.reduceBEq, Int.reduceBNe, Int.reduceEq, Int.reduceLT, Int.reduceLE, Int.reduceAdd, Int.reduceSub, Int.reduceMul, Int.reduceNeg, Int.reduceToNat, Int.reducePow, atI_0, atI_1, atI_2, set_last, get_last, take_last, deq_str, deq_int, deq_non, deq_bl, deq_tt, deq_ll, deqs_nn, deqs_cc, deqs_nc, deqs_cn, Nat.lt_irrefl, List.set_set, ixN_20, ixN_21, tupI, okds_ints, atI_map', List.length_map, cutL_map, eq_self, if_true, if_false, ite_true, ite_false, Bool.false_eq_true, decide_eq_true_eq, true_and, and_true, and_self, Bool.not_true, Bool.not_false, true_or, or_true, false_or, or_false, Option.some.injEq, reduceCtorEq]))
theorem Ln.cart {T T' : List Ob} {j k : Nat} {g : Int} {now : St14} {past : List St14} (h : Ln T j g now past) (c : CartTo T T' k) (ne : k ≠ j) : Ln T' j g now past := by
  obtain ⟨a, b, rfl, _⟩ := c
  unfold Ln at h ⊢
  rw [List.getElem?_set_ne ne]
  exact h
theorem Cart.set {T : List Ob} {j k : Nat} (c : Cart T k) (ne : j ≠ k) (o : Ob) : Cart (T.set j o) k := by
  obtain ⟨a, b, e, ok⟩ := c
  exact ⟨a, b, by rw [List.getElem?_set_ne ne]; exact e, ok⟩
theorem Cart.ext {T T' : List Ob} {k : Nat} (c : Cart T k) (e : T'.take T.length = T) : Cart T' k := by
  have hl := c.lt
  obtain ⟨a, b, h, ok⟩ := c
  refine ⟨a, b, ?_, ok⟩
  rw [← e, List.getElem?_take, if_pos hl] at h
  exact h
theorem Ln.setp {T : List Ob} {j : Nat} {g : Int} {now : St14} {past : List St14} (h : Ln T j g now past) (g2 : Int) (now2 : St14) (past2 : List St14) : Ln (T.set j (laneO g2 now2 past2)) j g2 now2 past2 := idx_set (List.getElem?_eq_some_iff.mp h).1 _
theorem Ln.ext {T T' : List Ob} {j : Nat} {g : Int} {now : St14} {past : List St14} (h : Ln T j g now past) (e : T'.take T.length = T) : Ln T' j g now past := by
  have hl := (List.getElem?_eq_some_iff.mp h).1
  unfold Ln at h ⊢
  rw [← e, List.getElem?_take, if_pos hl] at h
  exact h
theorem ext_app' (T S : List Ob) : (T ++ S).take T.length = T := List.take_left ..
/-- what a call that is none to undo does, however many went before -/
theorem step_past {g : Int} {now : St14} (past : List St14) : ∀ {c : Cl14}, c.isU = false → (∀ e, stepC g now [] c = .inl e → stepC g now past c = .inl e) ∧ ∀ d new p', stepC g now [] c = .inr (d, new, p') → stepC g now past c = .inr (d, new, past ++ [now])
  | .run r, _ => ⟨fun e h => (by cases h), fun d new p' h => (by cases h; rfl)⟩
  | .runD d, _ => ⟨fun e h => h, fun d new p' h => (by cases h)⟩
  | .add rs, _ => ⟨fun e h => (by cases h), fun d new p' h => (by cases h; rfl)⟩
  | .addD d, _ => ⟨fun e h => h, fun d new p' h => (by cases h)⟩
  | .enter p, _ => by
    simp only [stepC]
    split
    · exact ⟨fun e h => (by cases h), fun d new p' h => (by cases h; rfl)⟩
    · exact ⟨fun e h => h, fun d new p' h => (by cases h)⟩
  | .enterN, _ => ⟨fun e h => h, fun d new p' h => (by cases h)⟩
theorem at_bd {g M : Int} (g0 : 0 ≤ g) : ∀ (xs : List Int) (i : Nat), (∀ x ∈ xs, x ≤ M) → ∀ y ∈ atL g i xs, y ≤ M + ((i + xs.length : Nat) : Int) * g
  | [], i, h, y, hy => by simp [atL] at hy
  | x :: r, i, h, y, hy => by
    rcases List.mem_cons.mp hy with rfl | hy
    · have := h x (by simp)
      have h3 : (i : Int) * g ≤ ((i + (x :: r).length : Nat) : Int) * g := Int.mul_le_mul_of_nonneg_right (by simp; omega) g0
      omega
    · have := at_bd g0 r (i + 1) (fun z hz => h z (by simp [hz])) y hy
      rw [show i + 1 + r.length = i + (x :: r).length by simp; omega] at this
      exact this
theorem step_d {g : Int} {now : St14} {past : List St14} {c : Cl14} : ∀ d new past', stepC g now past c = .inr (d, new, past') → (∃ i : Int, d = .int i) ∨ d = .non := by
  intro d new past' e
  cases c with
  | run r => cases e; exact .inl ⟨_, rfl⟩
  | runD d => cases e
  | addD d => cases e
  | enterN => cases e
  | add rs => cases e; exact .inr rfl
  | enter p =>
    simp only [stepC] at e
    split at e
    · cases e; exact .inl ⟨_, rfl⟩
    · cases e
  | undo =>
    simp only [stepC] at e
    rcases nil_or_snoc past with rfl | ⟨init, p, rfl⟩
    · cases e
    · simp only [List.getLast?_concat] at e
      cases e; exact .inr rfl
theorem deq_st (now : St14) : deq (stD now) (stD (now.1, [])) = deqs (now.2.map Rn.d) [] := by
  simp only [stD, deq_tt, deqs_cc, deqs_nn, List.map_nil, Bool.and_true]
  rw [show deq (tupI now.1) (tupI now.1) = true from by rw [tupI, deq_tt]; exact deqs_refl 59 (okds_ints 59 _), Bool.true_and]
theorem law_of {c : Cl14} (h : c.isU = false) : c.law := by
  cases c with
  | undo => cases h
  | _ => trivial
theorem isU_eq {c : Cl14} (h : c.isU = true) : c = .undo := by
  cases c with
  | undo => rfl
  | _ => cases h
theorem st_last' (past : List St14) (now : St14) : atI ((past ++ [now]).map stD) (-1) = some (.tup [.tup (now.1.map .int), .tup (now.2.map Rn.d)]) := by
  rw [List.map_append, List.map_singleton, atI_last]
  rfl
theorem st_last (past : List St14) (now : St14) : atI ((past ++ [now]).map stD) (-1) = some (stD now) := by
  rw [List.map_append, List.map_singleton, atI_last]
theorem atI_lastI {xs : List Int} (h : 1 ≤ xs.length) : ∃ x ∈ xs, atI xs (-1) = some x := by
  rcases nil_or_snoc xs with rfl | ⟨i, x, rfl⟩
  · simp at h
  · exact ⟨x, by simp, atI_last i x⟩
theorem mem16 {c : D} {a1 a2 a3 a4 a5 a6 a7 a8 a9 a10 a11 a12 a13 a14 a15 a16 : D} (h : c ∈ [a1, a2, a3, a4, a5, a6, a7, a8, a9, a10, a11, a12, a13, a14, a15, a16]) : c = a1 ∨ c = a2 ∨ c = a3 ∨ c = a4 ∨ c = a5 ∨ c = a6 ∨ c = a7 ∨ c = a8 ∨ c = a9 ∨ c = a10 ∨ c = a11 ∨ c = a12 ∨ c = a13 ∨ c = a14 ∨ c = a15 ∨ c = a16 := by simpa using h
/-- slots: 0 _law_script, 1 _law_k, 2 _law_lane, 3 _law_full, 4 _law_cart, 5 _law_gap, 6 _law_first, 7 _law_turn, 8 _law_other, 9 _law_past, 10 _law_calls, 11 _law_call_here, 12 _law_deed_here, 13 _law_top, 14 _law_due_here, 15 _law_now -/
def B_law (Rs : List Str) : DS :=
  (sSeq (sFor (dRng1 (dCons (dDat (dBin gAdd (dC (.int 1)) (dCB gMin2 (dCons (dDat (dCB gLen (dCons (dDat (dVar 0)) dNil))) (dCons (dDat (dC (.int 6))) dNil))))) dNil)) (gNm 1) (sSeq (sSet 4 (dCall 2 S_l_cart_of (dCons (dDat (dVar 0)) (dCons (dDat (dVar 1)) dNil))))
  (sSeq (sSet 5 (dDat (dBin gAdd (dC (.int 1)) (dVal (dCall 2 S_l_take (dCons (dVarL 4) (dCons (dDat (dC (.int 4))) dNil)))))))
  (sSeq (sSet 6 (dDat (dVal (dCall 2 S_l_at (dCons (dDat (dVar 5)) (dCons (dDat (dVal (dCall 3 S_l_rooms (dCons (dVarL 4) (dCons (dDat (dBin gAdd (dC (.int 1)) (dVal (dCall 2 S_l_take (dCons (dVarL 4) (dCons (dDat (dC (.int 6))) dNil)))))) (dCons (dDat (dVal (dCall 2 S_l_any (dCons (dVarL 4) (dCons (dDat (dLst (dCons (dDat (dC (.int 2))) (dCons (dDat (dC (.int 9))) (dCons (dDat (dBin gPow (dC (.int 10)) (dC (.int 12)))) dNil))))) dNil))))) dNil)))))) dNil))))))
  (sSeq (sPar2 2 9 (dMake "Lane" (fixF 3 S_Lane_init_u) (dCons (dDat (dVar 5)) (dCons (dDat (dVar 6)) dNil))) (dDat (dLst (dCons (dDat (dTup (dCons (dDat (dVar 6)) (dCons (dDat (dTup dNil)) dNil)))) dNil))))
  (sSeq (sFor (dRng1 (dCons (dDat (dC (.int 30))) dNil)) (gNm 7) (sSeq (sPar2 12 13 (dDat (dVal (dCall 2 S_l_deed (dCons (dVarL 4) (dCons (dDat (dC (.int 9))) dNil))))) (dDat (dBin gIx (dBin gIx (dBin gIx (dVar 9) (dUn gNeg (dC (.int 1)))) (dC (.int 0))) (dUn gNeg (dC (.int 1))))))
  (sSeq (sSet 10 (dDat (dLst (dCons (dDat (dTup (dCons (dDat (dC (.str "run"))) (dCons (dDat (dVar 12)) dNil)))) (dCons (dDat (dTup (dCons (dDat (dC (.str "run"))) (dCons (dDat (dVar 12)) dNil)))) (dCons (dDat (dTup (dCons (dDat (dC (.str "run"))) (dCons (dDat (dC .non)) dNil)))) (dCons (dDat (dTup (dCons (dDat (dC (.str "run"))) (dCons (dDat (dTup (dCons (dDat (dC (.str "back"))) (dCons (dDat (dC (.int 0))) dNil)))) dNil)))) (dCons (dDat (dTup (dCons (dDat (dC (.str "run"))) (dCons (dDat (dTup (dCons (dDat (dC (.str "bark"))) (dCons (dDat (dC (.int 0))) dNil)))) dNil)))) dNil))))))))
  (sSeq (sSet 10 (dDat (dBin gAdd (dVar 10) (dLst (dCons (dDat (dTup (dCons (dDat (dC (.str "add"))) (dCons (dDat (dTup (dCons (dDat (dVar 12)) (dCons (dDat (dTup (dCons (dDat (dC (.str "bark"))) (dCons (dDat (dC (.int 1))) dNil)))) dNil)))) dNil)))) (dCons (dDat (dTup (dCons (dDat (dC (.str "add"))) (dCons (dDat (dTup dNil)) dNil)))) (dCons (dDat (dTup (dCons (dDat (dC (.str "add"))) (dCons (dDat (dLst (dCons (dDat (dVar 12)) dNil))) dNil)))) (dCons (dDat (dTup (dCons (dDat (dC (.str "add"))) (dCons (dDat (dTup (dCons (dDat (dVar 12)) (dCons (dDat (dC .non)) dNil)))) dNil)))) dNil))))))))
  (sSeq (sSet 10 (dDat (dBin gAdd (dVar 10) (dLst (dCons (dDat (dTup (dCons (dDat (dC (.str "enter"))) (dCons (dDat (dBin gAdd (dVar 13) (dVar 5))) dNil)))) (dCons (dDat (dTup (dCons (dDat (dC (.str "enter"))) (dCons (dDat (dBin gSub (dBin gAdd (dVar 13) (dVar 5)) (dC (.int 1)))) dNil)))) (dCons (dDat (dTup (dCons (dDat (dC (.str "enter"))) (dCons (dDat (dUn gNeg (dC (.int 1)))) dNil)))) dNil)))))))
  (sSeq (sSet 10 (dDat (dBin gAdd (dVar 10) (dLst (dCons (dDat (dTup (dCons (dDat (dC (.str "enter"))) (dCons (dDat (dVal (dCall 2 S_l_take (dCons (dVarL 4) (dCons (dDat (dC (.int 20))) dNil))))) dNil)))) (dCons (dDat (dTup (dCons (dDat (dC (.str "enter"))) (dCons (dDat (dC .non)) dNil)))) dNil))))))
  (sSeq (sSet 11 (dDat (dVal (dCall 2 S_l_any (dCons (dVarL 4) (dCons (dDat (dBin gAdd (dVar 10) (dLst (dCons (dDat (dTup (dCons (dDat (dC (.str "undo"))) dNil))) (dCons (dDat (dTup (dCons (dDat (dC (.str "undo"))) dNil))) dNil))))) dNil))))))
  (sSeq (sIf (dTest (dBin gEq (dVar 11) (dTup (dCons (dDat (dC (.str "undo"))) dNil)))) (sSeq (sSet 14 (dDat (dIf (dTest (dBin gEq (dCB gLen (dCons (dDat (dVar 9)) dNil)) (dC (.int 1)))) (dC (.str "undo")) (dC .non))))
  (sSet 9 (dDat (dIf (dTest (dBin gEq (dCB gLen (dCons (dDat (dVar 9)) dNil)) (dC (.int 1)))) (dSl (dVar 9) dNo (dSo (dC (.int 1)))) (dSl (dVar 9) dNo (dSo (dUn gNeg (dC (.int 1))))))))) (sSeq (sTo (dVal (dCall 3 S_l_due (dCons (dDat (dVar 5)) (dCons (dDat (dBin gIx (dVar 9) (dUn gNeg (dC (.int 1))))) (dCons (dDat (dVar 11)) dNil))))) (gTp 2 (gCs (gNm 14) (gCs (gNm 15) gNl))))
  (sSet 9 (dDat (dIf (dTest (dBin (gIsN false) (dVar 15) (dC .non))) (dVar 9) (dBin gAdd (dVar 9) (dLst (dCons (dDat (dVar 15)) dNil))))))))
  (sSeq (sIf (dTest (dBin gNe (dVal (dCall 2 (S_l_called Rs) (dCons (dVarL 2) (dCons (dDat (dVar 11)) dNil)))) (dVar 14))) (sRet (dDat (dC (.bl false)))) sNil)
  (sIf (dtNot (dTest (dVal (dCall 4 (S_l_shows Rs) (dCons (dVarL 2) (dCons (dDat (dVar 5)) (dCons (dDat (dBin gIx (dVar 9) (dUn gNeg (dC (.int 1))))) (dCons (dDat (dBin gSub (dCB gLen (dCons (dDat (dVar 9)) dNil)) (dC (.int 1)))) dNil)))))))) (sRet (dDat (dC (.bl false)))) sNil))))))))))
  (sSeq (sSet 8 (dMake "Lane" (fixF 3 S_Lane_init_u) (dCons (dDat (dVar 5)) (dCons (dDat (dBin gIx (dBin gIx (dVar 9) (dUn gNeg (dC (.int 1)))) (dC (.int 0)))) dNil))))
  (sIf (dtOr (dTest (dVal (dOwnT "Lane" S_Lane_eq_u (dVarL 2) (dVarL 6)))) (dTest (dBin gNe (dVal (dOwnT "Lane" S_Lane_eq_u (dVarL 2) (dVarL 8))) (dBin gEq (dBin gIx (dBin gIx (dVar 9) (dUn gNeg (dC (.int 1)))) (dC (.int 1))) (dTup dNil))))) (sRet (dDat (dC (.bl false)))) sNil))))))))
  (sSeq (sSet 2 (dMake "Lane" (fixF 3 S_Lane_init_u) (dCons (dDat (dC (.int 2))) (dCons (dDat (dTup (dCons (dDat (dC (.int 0))) (dCons (dDat (dC (.int 4))) (dCons (dDat (dC (.int 9))) dNil))))) dNil))))
  (sSeq (sIf (dTest (dBin gNe (dLst (dCons (dDat (dVal (dMeth "Lane" "run" 3 (starF1 S_Lane_run) (dVarL 2) (dCons (dDat (dC (.str "to"))) (dCons (dDat (dC (.int 5))) dNil))))) (dCons (dDat (dVal (dMeth "Lane" "run" 4 (starF1 S_Lane_run) (dVarL 2) (dCons (dDat (dC (.str "front"))) (dCons (dDat (dC (.int 1))) (dCons (dDat (dC (.int 3))) dNil)))))) (dCons (dDat (dVal (dMeth "Lane" "enter" 2 S_Lane_enter (dVarL 2) (dCons (dDat (dC (.int 0))) dNil)))) (dCons (dDat (dVal (dOwn "Lane" 2 S_Lane_getitem_u (dCons (dVarL 2) (dCons (dDat (dUn gNeg (dC (.int 1)))) dNil))))) dNil))))) (dLst (dCons (dDat (dC (.int 2))) (dCons (dDat (dC (.int 2))) (dCons (dDat (dC (.int 0))) (dCons (dDat (dC (.int 12))) dNil))))))) (sRet (dDat (dC (.bl false)))) sNil)
  (sSeq (sIf (dtOr (dTest (dBin gNe (dListG "Lane" "lots" S_Lane_lots (dVarL 2)) (dLst (dCons (dDat (dC (.str "0 1"))) (dCons (dDat (dC (.str "5 1"))) (dCons (dDat (dC (.str "10 2"))) dNil)))))) (dtOr (dTest (dBin gNe (dC (.int 50)) (dC (.int 50)))) (dTest (dBoolI "Lane" S_Lane_bool_u (dVarL 2))))) (sRet (dDat (dC (.bl false)))) sNil)
  (sSeq (sSet 3 (dMake "Lane" (fixF 3 S_Lane_init_u) (dCons (dDat (dC (.int 1))) (dCons (dDat (dVal (dCall 2 S_l_at (dCons (dDat (dC (.int 1))) (dCons (dDat (dBin gMulB (dTup (dCons (dDat (dC (.int 0))) dNil)) (dC (.int 40)))) dNil))))) dNil))))
  (sRet (dDat (dAnd (dBoolI "Lane" S_Lane_bool_u (dVarL 3)) (dAnd (dBin gEq (dVal (dLam (S_l_word Rs) (dMeth "Lane" "enter" 2 S_Lane_enter (dVarL 3) (dCons (dDat (dC (.int 90))) dNil)))) (dC (.str "place"))) (dBin gEq (dVal (dMeth "Lane" "run" 3 (starF1 S_Lane_run) (dVarL 3) (dCons (dDat (dC (.str "bark"))) (dCons (dDat (dC (.int 1))) dNil)))) (dC (.int 40))))))))))))
def S_law (Rs : List Str) : DF := fun ss T Q _ => ∃ ns : List Int, ss = [.dat (.scr ns)] ∧ ns.length ≤ 63 ∧ (Rs.contains "InvalidRun" = true ∧ Rs.contains "InvalidPlace" = true ∧ Rs.contains "NothingToUndo" = true ∧ Rs.contains "InvalidSheep" = true) ∧ ∀ T', Q (.dat (.bl true)) T'
theorem h_law (Rs : List Str) : ∀ (ss : List Sl) (T : List Ob) (Q : Sl → List Ob → Prop) (QX : Xn → List Ob → Prop), ss.length = 1 → S_law Rs ss T Q QX → B_law Rs (endsOf T.length Q QX) (startD 16 1 ss T) := by
  intro ss T Q QX hl h
  obtain ⟨ns, rfl, hn, ⟨r1, r2, r3, r4⟩, h⟩ := h
  unfold B_law
  walk_at "di"
  refine ⟨by split <;> omega, ?_⟩
  refine loop_inv (fun ds ρ => (∀ d ∈ ds, ∃ i : Int, d = .int i ∧ 0 ≤ i ∧ i < 9) ∧ ∃ T' x1 x2 x4 x5 x6 x7 x8 x9 x10 x11 x12 x13 x14 x15, ρ = ⟨T', [some (.dat (.scr ns)), x1, x2, none, x4, x5, x6, x7, x8, x9, x10, x11, x12, x13, x14, x15]⟩) ?_ ?_ _ _ ?_
  · rintro d ds ρ ⟨hd, T', x1, x2, x4, x5, x6, x7, x8, x9, x10, x11, x12, x13, x14, x15, rfl⟩ N hN
    obtain ⟨i, rfl, i0, i9⟩ := hd d (by simp)
    walk_at "di"
    refine ⟨ns, i, rfl, i0, by omega, by omega, fun a b ok => ?_⟩
    have k1 : Cart (T' ++ [CartV a b]) T'.length := ⟨a, b, get_last _ _, ok⟩
    generalize hk : T'.length = k at *
    walk_at "di"
    refine ⟨k, 4, rfl, k1, by decide, by decide, fun v T1 v0 v1 c1 => ?_⟩
    have k2 := c1.cart k1
    walk_at "di"
    refine ⟨k, 6, rfl, k2, by decide, by decide, fun m T2 m0 m1 c2 => ?_⟩
    have k3 := c2.cart k2
    walk_at "di"
    refine ⟨by unfold CPow; decide, k, _, _, rfl, .inl rfl, k3, by simp, by simp, fun y T3 hy c3 => ?_⟩
    have k4 := c3.cart k3
    obtain ⟨w, rfl, w0, w1⟩ : ∃ w : Int, y = .int w ∧ 0 ≤ w ∧ w ≤ 1000000000000 := by
      simp only [List.mem_cons, List.not_mem_nil, or_false] at hy
      rcases hy with rfl | rfl | rfl
      all_goals exact ⟨_, rfl, by decide, by decide⟩
    walk_at "di"
    refine ⟨k, 1 + m, w, rfl, k4, by omega, by omega, w0, by simp only [Int.reducePow]; omega, fun xs T4 hx rok c4 => ?_⟩
    have k5 := c4.cart k4
    walk_at "di"
    refine ⟨1 + v, xs, rfl, by omega, by omega, ?_⟩
    have gb : 1 ≤ 1 + v ∧ 1 + v ≤ 4 := by omega
    have hb := BgOk.at rok gb.1 (by omega) (by omega) (by omega) (by simp only [Int.reducePow]; omega) w0
    have so : StOk (1 + v) 30 (atL (1 + v) 0 xs, []) := by
      refine ⟨hb.l1, ?_, by simp, hb.sp, fun x hx => (hb.great x hx).1, ?_⟩
      · rw [show (atL (1 + v) 0 xs, ([] : List Rn)).1.length = xs.length from atL_len ..]
        omega
      · intro x hx
        have xl : (xs.length : Int) ≤ 6 := by omega
        have h1 := at_bd (M := 6000000000000) (g := 1 + v) (by omega) xs 0 (fun z hz => Int.le_trans (rok.r z hz).2 (Int.le_trans (Int.mul_le_mul w1 xl (by omega) (by decide)) (by decide))) x hx
        have h2 : ((0 + xs.length : Nat) : Int) * (1 + v) ≤ 6 * 4 := Int.mul_le_mul (by omega) (by omega) (by omega) (by decide)
        omega
    generalize 1 + v = g at *
    generalize atL g 0 xs = ys at *
    walk_at "di"
    refine ⟨_, g, ys, rfl, gb.1, by omega, hb, idx_app _ _, ?_⟩
    rw [set_app]
    have lk : k < T4.length := k5.lt
    have ln : Ln (T4 ++ [laneO g (ys, []) []]) T4.length g (ys, []) [] := idx_app _ _
    have k6 : Cart (T4 ++ [laneO g (ys, []) []]) k := k5.app _
    have ne : k ≠ T4.length := by omega
    generalize T4 ++ [laneO g (ys, []) []] = T5 at *
    generalize T4.length = j at *
    walk_at "di"
    refine loop_inv (fun ds ρ => ∃ (T' : List Ob) (now : St14) (past : List St14) (x7 x10 x11 x12 x13 x14 x15 : Option Sl), ρ = ⟨T', [some (.dat (.scr ns)), some (.dat (.int i)), some (.ob j), none, some (.ob k), some (.dat (.int g)), some (.dat (.tup (ys.map .int))), x7, x8, some (.dat (.lst ((past ++ [now]).map stD))), x10, x11, x12, x13, x14, x15]⟩ ∧ ds.length ≤ 30 ∧ past.length + ds.length ≤ 30 ∧ Cart T' k ∧ Ln T' j g now past ∧ StOk g ds.length now ∧ ∀ p ∈ past, StOk g ds.length p) ?_ ?_ _ _ ⟨T5, (ys, []), [], x7, x10, x11, x12, x13, x14, x15, by simp [stD, tupI], by rw [rangeD_len]; decide, by rw [rangeD_len]; decide, k6, ln, by rw [rangeD_len]; exact so, by simp⟩
    · rintro d2 ds2 ρ ⟨T6, now, past, x7, x10, x11, x12, x13, x14, x15, rfl, d30, pd, k7, l7, sn, sp⟩ N2 hN2
      rw [List.length_cons] at d30 pd sn sp
      walk_at "di"
      refine ⟨k, 9, rfl, k7, by decide, by decide, fun r T7 rk c7 => ?_⟩
      have k8 := c7.cart k7
      have l8 := l7.cart c7 ne
      obtain ⟨top, tm, ht⟩ := atI_lastI sn.l1
      have tb := sn.bd top tm
      have tp := sn.pos top tm
      walk_at "di"
      rw [st_last']
      walk_at "di"
      rw [ht]
      walk_at "di"
      refine ⟨by rw [sizeLine_eq]; decide, by rw [sizeLine_eq]; decide, k, 20, rfl, k8, by decide, by decide, fun t T8 t0 t1 c8 => ?_⟩
      have k9 := c8.cart k8
      have l9 := l8.cart c8 ne
      walk_at "di"
      refine ⟨by rw [sizeLine_eq]; decide, by rw [sizeLine_eq]; decide, k, _, _, rfl, .inl rfl, k9, by simp, by simp, fun x T9 hx c9 => ?_⟩
      obtain ⟨c, rfl, fr⟩ : ∃ c : Cl14, x = c.d ∧ c.Fr g top := by
        simp only [List.mem_cons, List.not_mem_nil, or_false] at hx
        rcases hx with rfl | rfl | rfl | rfl | rfl | rfl | rfl | rfl | rfl | rfl | rfl | rfl | rfl | rfl | rfl | rfl
        · exact ⟨.run r, rfl, rk⟩
        · exact ⟨.run r, rfl, rk⟩
        · exact ⟨.runD .non, rfl, .inl rfl⟩
        · exact ⟨.runD _, rfl, .inr (.inl rfl)⟩
        · exact ⟨.runD _, rfl, .inr (.inr rfl)⟩
        · refine ⟨.add [r, .bark 1], rfl, by simp, fun z hz => ?_⟩
          simp only [List.mem_cons, List.not_mem_nil, or_false] at hz
          rcases hz with rfl | rfl
          · exact rk
          · exact ⟨by decide, by decide⟩
        · exact ⟨.add [], rfl, by simp, by simp⟩
        · exact ⟨.addD _, rfl, r, rk, .inl rfl⟩
        · exact ⟨.addD _, rfl, r, rk, .inr rfl⟩
        · exact ⟨.enter (top + g), rfl, .inl (Int.le_refl _)⟩
        · exact ⟨.enter (top + g - 1), rfl, .inl (by omega)⟩
        · exact ⟨.enter (-1), rfl, .inr (by decide)⟩
        · exact ⟨.enter t, rfl, .inr t1⟩
        · exact ⟨.enterN, rfl, trivial⟩
        · exact ⟨.undo, rfl, trivial⟩
        · exact ⟨.undo, rfl, trivial⟩
      have cok : c.Ok := fr.ok (by push_cast at tb; omega) (by omega)
      have k10 := c9.cart k9
      have l10 := l9.cart c9 ne
      have lo := sn.ln gb.1 (by omega)
      have h40 := sn.l40
      clear hx
      walk_at "di"
      rw [c.deqU]
      refine ⟨Cl14.okd60 cok, ?_⟩
      cases cu : c.isU with
      | true =>
        have := isU_eq cu
        subst this
        walk_at "di"
        rcases nil_or_snoc past with rfl | ⟨init, p, rfl⟩
        · rw [show ((((([] : List St14) ++ [now]).length : Nat) : Int) == 1) = true from rfl]
          walk_at "di"
          refine ⟨⟨r1, r2, r3⟩, j, g, now, [], .undo, rfl, l10, lo, trivial, by simp, by omega, ?_⟩
          rw [show stepC g now [] .undo = .inl .undo from rfl]
          dsimp only
          walk_at "di"
          rw [show (!Er.undo.w == Str.ofString "undo") = false from by decide, show cutL [now] none (some 1) = [] ++ [now] from rfl, if_neg Bool.false_ne_true, st_last]
          walk_at "di"
          refine ⟨r4, j, g, now, [], by simp, l10, sn.down.ln gb.1 (by omega), sn.down.b40, by simp, ?_⟩
          walk_at "di"
          exact hN2 _ ⟨_, now, [], _, _, _, _, _, _, _, rfl, by omega, by simp; omega, k10, l10, sn.down, by simp⟩
        · rw [show ((((init ++ [p] ++ [now] : List St14).length : Nat) : Int) == 1) = false by simp; omega]
          rw [cut_init]
          rw [List.length_append, List.length_singleton] at pd
          have np := (sp p (by simp)).down
          walk_at "di"
          refine ⟨⟨r1, r2, r3⟩, j, g, now, init ++ [p], .undo, rfl, l10, lo, trivial, by simp; omega, by omega, ?_⟩
          have e : stepC g now (init ++ [p]) .undo = .inr (.non, p, init) := by simp only [stepC, List.getLast?_concat, List.dropLast_concat]
          rw [e]
          dsimp only
          walk_at "di"
          rw [st_last]
          walk_at "di"
          refine ⟨r4, j, g, p, init, by simp, l10.setp g p init, np.ln gb.1 (by omega), np.b40, by omega, ?_⟩
          walk_at "di"
          exact hN2 _ ⟨_, p, init, _, _, _, _, _, _, _, rfl, by omega, by omega, k10.set (fun z => ne z.symm) _, l10.setp g p init, np, fun q hq => (sp q (by simp [hq])).down⟩
      | false =>
        walk_at "di"
        rw [st_last]
        walk_at "di"
        refine ⟨g, now, c, rfl, lo, cok, law_of cu, ?_⟩
        have sl := Cl14.step gb.1 (by omega) sn sp tm fr
        cases e : stepC g now [] c with
        | inl er =>
          rw [show dueD g now c = .tup [.str er.w, .non] from by unfold dueD; rw [e]]
          walk_at "di"
          have e2 := (step_past past cu).1 er e
          refine ⟨⟨r1, r2, r3⟩, j, g, now, past, c, rfl, l10, lo, cok, by omega, by omega, ?_⟩
          rw [e2]
          dsimp only
          walk_at "di"
          rw [st_last]
          walk_at "di"
          refine ⟨r4, j, g, now, past, by simp, l10, sn.down.ln gb.1 (by omega), sn.down.b40, by omega, ?_⟩
          walk_at "di"
          exact hN2 _ ⟨_, now, past, _, _, _, _, _, _, _, rfl, by omega, by omega, k10, l10, sn.down, fun q hq => (sp q hq).down⟩
        | inr o =>
          obtain ⟨d3, new, p3⟩ := o
          have e2 := (step_past past cu).2 d3 new p3 e
          obtain ⟨s1, s2⟩ := sl d3 new _ e2
          rw [show dueD g now c = .tup [d3, stD new] from by unfold dueD; rw [e]]
          have ed : stD new = .tup [.tup (new.1.map .int), .tup (new.2.map Rn.d)] := rfl
          rcases step_d d3 new _ e with ⟨i3, rfl⟩ | rfl
          · walk_at "di"
            simp only [ed]
            walk_at "di"
            rw [show List.map stD (past ++ [now]) ++ [D.tup [D.tup (List.map D.int new.1), D.tup (List.map Rn.d new.2)]] = List.map stD ((past ++ [now]) ++ [new]) from by rw [List.map_append (l₂ := [new])]; rfl]
            refine ⟨by rw [sizeLine_eq]; simp; omega, ⟨r1, r2, r3⟩, j, g, now, past, c, rfl, l10, lo, cok, by omega, by omega, ?_⟩
            rw [e2]
            dsimp only
            walk_at "di"
            rw [st_last]
            walk_at "di"
            refine ⟨r4, j, g, new, past ++ [now], by simp; omega, l10.setp g new _, s1.ln gb.1 (by omega), s1.b40, by simp; omega, ?_⟩
            walk_at "di"
            exact hN2 _ ⟨_, new, past ++ [now], _, _, _, _, _, _, _, rfl, by omega, by simp; omega, k10.set (fun z => ne z.symm) _, l10.setp g new _, s1, s2⟩
          · walk_at "di"
            simp only [ed]
            walk_at "di"
            rw [show List.map stD (past ++ [now]) ++ [D.tup [D.tup (List.map D.int new.1), D.tup (List.map Rn.d new.2)]] = List.map stD ((past ++ [now]) ++ [new]) from by rw [List.map_append (l₂ := [new])]; rfl]
            refine ⟨by rw [sizeLine_eq]; simp; omega, ⟨r1, r2, r3⟩, j, g, now, past, c, rfl, l10, lo, cok, by omega, by omega, ?_⟩
            rw [e2]
            dsimp only
            walk_at "di"
            rw [st_last]
            walk_at "di"
            refine ⟨r4, j, g, new, past ++ [now], by simp; omega, l10.setp g new _, s1.ln gb.1 (by omega), s1.b40, by simp; omega, ?_⟩
            walk_at "di"
            exact hN2 _ ⟨_, new, past ++ [now], _, _, _, _, _, _, _, rfl, by omega, by simp; omega, k10.set (fun z => ne z.symm) _, l10.setp g new _, s1, s2⟩
    · rintro ρ ⟨T6, now, past, x7, x10, x11, x12, x13, x14, x15, rfl, d30, pd, k7, l7, sn, sp⟩
      walk_at "di"
      rw [st_last']
      walk_at "di"
      refine ⟨_, g, now.1, rfl, gb.1, by omega, sn.bg, idx_app _ _, ?_⟩
      rw [set_app]
      have l8 : Ln (T6 ++ [laneO g (now.1, []) []]) j g now past := l7.ext (ext_app' _ _)
      have m8 : Ln (T6 ++ [laneO g (now.1, []) []]) T6.length g (now.1, []) [] := idx_app _ _
      generalize T6 ++ [laneO g (now.1, []) []] = T7 at *
      generalize T6.length = j2 at *
      have l8' := l8
      have m8' := m8
      unfold Ln at l8' m8'
      (walk_at "di"; repeat (simp only [l8', m8']; walk_at "di"))
      refine ⟨j, g, now, past, l8, .inl ⟨_, "tuple", rfl, rfl, ?_⟩⟩
      (walk_at "di"; repeat (simp only [l8', m8']; walk_at "di"))
      refine ⟨j, g, now, past, l8, .inr ⟨j2, g, (now.1, []), [], rfl, m8, ?_⟩⟩
      rw [deq_st, beq_self_eq_true, Bool.true_and]
      (walk_at "di"; repeat (simp only [l8', m8']; walk_at "di"))
      rw [st_last']
      (walk_at "di"; repeat (simp only [l8', m8']; walk_at "di"))
      refine ⟨(okds_iff _ _).mpr fun d hd => ?_, hN _ ⟨fun d h => hd d (by simp [h]), _, _, _, _, _, _, _, _, _, _, _, _, _, _, _, rfl⟩⟩
      obtain ⟨r, _, rfl⟩ := List.mem_map.mp hd
      exact r.okd 58
  · rintro ρ ⟨hd, T', x1, x2, x4, x5, x6, x7, x8, x9, x10, x11, x12, x13, x14, x15, rfl⟩
    walk_at "di"
    refine ⟨_, 2, [0, 4, 9], rfl, by decide, by decide, ⟨by decide, by decide, by simp, rfl⟩, idx_app _ _, ?_⟩
    rw [set_app]
    have l1 : Ln (T' ++ [laneO 2 ([0, 4, 9], []) []]) T'.length 2 ([0, 4, 9], []) [] := idx_app _ _
    generalize T' ++ [laneO 2 ([0, 4, 9], []) []] = T1 at *
    generalize T'.length = j at *
    have l1' := l1
    unfold Ln at l1'
    (walk_at "di"; repeat (simp only [l1']; walk_at "di"))
    refine ⟨j, 2, _, _, l1, ⟨by decide, by decide, by decide, by decide, by decide, rfl⟩, .inl ⟨.to 5, rfl, ⟨by decide, by decide⟩, by decide, ?_⟩⟩
    rw [show ranL 2 [0, 4, 9] (.to 5) = [5, 7, 9] from by decide]
    have l2 := l1.setp 2 ([5, 7, 9], [.to 5]) [([0, 4, 9], [])]
    simp only [List.nil_append]
    rw [show chgL [0, 4, 9] [5, 7, 9] = 2 from by decide]
    generalize T1.set j (laneO 2 ([5, 7, 9], [.to 5]) [([0, 4, 9], [])]) = T2 at *
    have l2' := l2
    unfold Ln at l2'
    (walk_at "di"; repeat (simp only [l2']; walk_at "di"))
    refine ⟨j, 2, _, _, l2, ⟨by decide, by decide, by decide, by decide, by decide, rfl⟩, .inl ⟨.front 1 3, rfl, ⟨by decide, by decide⟩, by decide, ?_⟩⟩
    rw [show ranL 2 [5, 7, 9] (.front 1 3) = [5, 10, 12] from by decide]
    have l3 := l2.setp 2 ([5, 10, 12], [.to 5, .front 1 3]) [([0, 4, 9], []), ([5, 7, 9], [.to 5])]
    simp only [List.cons_append, List.nil_append]
    rw [show chgL [5, 7, 9] [5, 10, 12] = 2 from by decide]
    generalize T2.set j (laneO 2 ([5, 10, 12], [.to 5, .front 1 3]) [([0, 4, 9], []), ([5, 7, 9], [.to 5])]) = T3 at *
    have l3' := l3
    unfold Ln at l3'
    (walk_at "di"; repeat (simp only [l3']; walk_at "di"))
    refine ⟨j, 2, _, _, l3, ⟨by decide, by decide, by decide, by decide, by decide, rfl⟩, .inl ⟨0, rfl, by decide, by decide, by decide, by decide, by decide, ?_⟩⟩
    dsimp only
    rw [show insI 0 [5, 10, 12] = [0, 5, 10, 12] from by decide, show (([0, 5, 10, 12] : List Int).idxOf 0 : Nat) = 0 from by decide]
    have l4 := l3.setp 2 ([0, 5, 10, 12], [.to 5, .front 1 3]) [([0, 4, 9], []), ([5, 7, 9], [.to 5]), ([5, 10, 12], [.to 5, .front 1 3])]
    simp only [List.cons_append, List.nil_append]
    generalize T3.set j (laneO 2 ([0, 5, 10, 12], [.to 5, .front 1 3]) [([0, 4, 9], []), ([5, 7, 9], [.to 5]), ([5, 10, 12], [.to 5, .front 1 3])]) = T4 at *
    have l4' := l4
    unfold Ln at l4'
    (walk_at "di"; repeat (simp only [l4']; walk_at "di"))
    refine ⟨j, 2, _, _, l4, .inl ⟨-1, 12, rfl, by decide, ?_⟩⟩
    (walk_at "di"; repeat (simp only [l4']; walk_at "di"))
    refine ⟨j, 2, _, _, rfl, l4, ⟨by decide, by decide, by decide, by decide, by decide, rfl⟩, by decide, ?_⟩
    dsimp only
    rw [show deqs (lotsL 2 [0, 5, 10, 12]) [D.str (Str.ofString "0 1"), D.str (Str.ofString "5 1"), D.str (Str.ofString "10 2")] = true from by decide +kernel]
    refine ⟨by decide, by decide +kernel, ?_⟩
    (walk_at "di"; repeat (simp only [l4']; walk_at "di"))
    refine ⟨j, 2, _, _, rfl, l4, ⟨by decide, by decide, by decide, by decide, by decide, rfl⟩, ?_⟩
    dsimp only
    rw [show evenB 2 [0, 5, 10, 12] = false from by decide]
    (walk_at "di"; repeat (simp only [l4']; walk_at "di"))
    refine ⟨1, List.replicate 40 0, rfl, by decide, by decide, ?_⟩
    have bg : BgOk 1 (atL 1 0 (List.replicate 40 0)) := ⟨by decide, by decide, by decide, by decide⟩
    have lr : (atL 1 0 (List.replicate 40 0)).length = 40 := by decide
    have le : evenB 1 (atL 1 0 (List.replicate 40 0)) = true := by decide
    have fa : farB 1 90 (atL 1 0 (List.replicate 40 0)) = true := by decide
    have rn : ranL 1 (atL 1 0 (List.replicate 40 0)) (.bark 1) = atL 1 0 (List.replicate 40 1) := by decide
    have ch : chgL (atL 1 0 (List.replicate 40 0)) (atL 1 0 (List.replicate 40 1)) = 40 := by decide
    generalize atL 1 0 (List.replicate 40 0) = zs at *
    walk_at "di"
    refine ⟨_, 1, zs, rfl, by decide, by decide, bg, idx_app _ _, ?_⟩
    rw [set_app]
    have l5 : Ln (T4 ++ [laneO 1 (zs, []) []]) T4.length 1 (zs, []) [] := idx_app _ _
    generalize T4 ++ [laneO 1 (zs, []) []] = T5 at *
    generalize T4.length = j2 at *
    have l5' := l5
    unfold Ln at l5'
    have lo : LnOk 1 (zs, []) := ⟨by decide, by decide, bg.l1, bg.l40, by simp, bg.sp⟩
    (walk_at "di"; repeat (simp only [l5']; walk_at "di"))
    refine ⟨j2, 1, _, _, rfl, l5, lo, ?_⟩
    dsimp only
    rw [le]
    (walk_at "di"; repeat (simp only [l5']; walk_at "di"))
    simp only [dLam]
    have wp : IsWord Rs ⟨"InvalidPlace", none⟩ "place" := ⟨r2, .inl (by simp [words])⟩
    refine word_err wp (fun Q1 QX1 hQ => ?_) ?_
    · (walk_at "di"; repeat (simp only [l5']; walk_at "di"))
      exact ⟨j2, 1, _, _, l5, lo, .inr (.inl ⟨90, rfl, by decide, by decide, .inr (by simp [lr]), hQ _ (List.take_length ..)⟩)⟩
    (walk_at "di"; repeat (simp only [l5']; walk_at "di"))
    refine ⟨j2, 1, _, _, l5, lo, .inl ⟨.bark 1, rfl, ⟨by decide, by decide⟩, by decide, ?_⟩⟩
    dsimp only
    rw [rn, ch]
    walk_at "di"
    exact h _
  · refine ⟨fun d hd => ?_, T, none, none, none, none, none, none, none, none, none, none, none, none, none, none, rfl⟩
    obtain ⟨i, rfl, i0, i1⟩ := range_mem hd
    refine ⟨i, rfl, i0, ?_⟩
    split at i1 <;> omega
end DL
set_option Elab.async false
set_option linter.all false
set_option maxRecDepth 100000
set_option maxHeartbeats 4000000
set_option autoImplicit false
/-! The program's text keeps what the data level promises. -/
namespace DL
open PySem PySem.Spec PyProof.Rows L2
def topS (i : Nat) : Stmt := PySem.Challenge.pw_dogruns_k14_whole_lanes_run_by_run.main.body.getD i (.Pass ⟨0, 0, 0, 0⟩)
theorem exm_mk {K : PySem.W.Frag} {cls : Value} {C : Addr} {b : Bool} (h1 : PySem.W.subIn K (.ref C) (.type "BaseException") = some true) (h2 : PySem.W.isClsIn K C = true) (h3 : PySem.W.typeIn K (.ref C) = some (.type "type")) (h4 : PySem.W.subIn K cls (.ref C) = some b) : PySem.W.exmOne K cls (.ref C) = some b := by
  unfold PySem.W.exmOne
  rw [h1, if_pos (by decide)]
  show (if ((PySem.W.clsIn K C).isSome && PySem.W.typeIn K (.ref C) == some (.type "type")) = true then PySem.W.subIn K cls (.ref C) else none) = some b
  rw [show (PySem.W.clsIn K C).isSome = true from h2, h3, if_pos (by decide)]
  exact h4
theorem tab_mk {K : PySem.W.Frag} {x : Str} {f c P : Addr} {oc oc2 : Value} {od od2 : Option Addr} {fd : FuncData} {sl sl2 : Array (Option Value)} {vs : Array Value} (h1 : PySem.W.nsIn K mainGlobals x = some (some (.ref f))) (h2 : K.lookup f = some ⟨oc, od, .func fd, sl⟩) (h3 : fd.code = .ref c) (h4 : K.lookup c = some ⟨oc2, od2, .fields vs, sl2⟩) (h5 : vs[11]? = some (.ref P)) : PySem.W.tabIn K x = some (c, P) := by
  unfold PySem.W.tabIn
  simp only [h1, h2, h3, h4, h5]
theorem tab_no {K : PySem.W.Frag} {x : Str} (h : PySem.W.nsIn K mainGlobals x = some none) : PySem.W.tabIn K x = none := by
  unfold PySem.W.tabIn
  simp only [h]
theorem kit_self {K : PySem.W.Frag} {C : Addr} : PySem.W.kitOne K (.ref C) (.ref C) = some true := by
  unfold PySem.W.kitOne
  rw [if_pos (by simp)]
theorem kit_ty {K : PySem.W.Frag} {C : Addr} {T : String} {b : Bool} (h : PySem.W.subIn K (.type T) (.ref C) = some b) (hc : PySem.W.isClsIn K C = true) (ht : PySem.W.typeIn K (.ref C) = some (.type "type")) : PySem.W.kitOne K (.type T) (.ref C) = some b := by
  unfold PySem.W.kitOne
  rw [if_neg (by intro z; cases (eq_of_beq z))]
  show (if ((PySem.W.clsIn K C).isSome && PySem.W.typeIn K (.ref C) == some (.type "type")) = true then PySem.W.subIn K (.type T) (.ref C) else none) = some b
  rw [show (PySem.W.clsIn K C).isSome = true from hc, ht, if_pos (by decide)]
  exact h
theorem kit_six {K : PySem.W.Frag} {C : Addr} (h0 : PySem.W.subIn K (.type "NoneType") (.ref C) = some false) (h1 : PySem.W.subIn K (.type "bool") (.ref C) = some false) (h2 : PySem.W.subIn K (.type "int") (.ref C) = some false) (h3 : PySem.W.subIn K (.type "str") (.ref C) = some false) (h4 : PySem.W.subIn K (.type "tuple") (.ref C) = some false) (h5 : PySem.W.subIn K (.type "list") (.ref C) = some false) (hc : PySem.W.isClsIn K C = true) (ht : PySem.W.typeIn K (.ref C) = some (.type "type")) : ∀ T ∈ (["NoneType", "bool", "int", "str", "tuple", "list"] : List String), PySem.W.kitOne K (.type T) (.ref C) = some false := by
  intro T hT
  simp only [List.mem_cons, List.not_mem_nil, or_false] at hT
  rcases hT with rfl | rfl | rfl | rfl | rfl | rfl
  · exact kit_ty h0 hc ht
  · exact kit_ty h1 hc ht
  · exact kit_ty h2 hc ht
  · exact kit_ty h3 hc ht
  · exact kit_ty h4 hc ht
  · exact kit_ty h5 hc ht
abbrev s_is_int : Stmt := topS 20
theorem sc_is_int : FnScope ["value", "low", "high"] ["value", "low", "high"] (defScope s_is_int) := ⟨rfl, rfl, rfl, by decide +kernel, rfl, by decide +kernel, by decide +kernel⟩
abbrev s_is_a_run : Stmt := topS 21
theorem sc_is_a_run : FnScope ["value"] ["value"] (defScope s_is_a_run) := ⟨rfl, rfl, rfl, by decide +kernel, rfl, by decide +kernel, by decide +kernel⟩
abbrev s_begins : Stmt := topS 22
theorem sc_begins : FnScope ["gap", "value", "place", "one", "other"] ["gap", "value"] (defScope s_begins) := ⟨rfl, rfl, rfl, by decide +kernel, rfl, by decide +kernel, by decide +kernel⟩
abbrev s_need_beginning : Stmt := topS 23
theorem sc_need_beginning : FnScope ["gap", "value"] ["gap", "value"] (defScope s_need_beginning) := ⟨rfl, rfl, rfl, by decide +kernel, rfl, by decide +kernel, by decide +kernel⟩
abbrev s_pushed : Stmt := topS 25
theorem sc_pushed : FnScope ["gap", "places", "sheep", "steps", "found", "at"] ["gap", "places", "sheep", "steps"] (defScope s_pushed) := ⟨rfl, rfl, rfl, by decide +kernel, rfl, by decide +kernel, by decide +kernel⟩
abbrev s_ran : Stmt := topS 26
theorem sc_ran : FnScope ["gap", "places", "run", "sheep", "place"] ["gap", "places", "run"] (defScope s_ran) := ⟨rfl, rfl, rfl, by decide +kernel, rfl, by decide +kernel, by decide +kernel⟩
abbrev s_Lane_init_u : Stmt := match topS 28 with
  | .ClassDef _ _ _ b _ _ _ _ _ _ _ => b.getD 1 (.Pass ⟨0, 0, 0, 0⟩)
  | _ => .Pass ⟨0, 0, 0, 0⟩
theorem sc_Lane_init_u : FnScope ["self", "gap", "beginning"] ["self", "gap", "beginning"] (defScope s_Lane_init_u) := ⟨rfl, rfl, rfl, by decide +kernel, rfl, by decide +kernel, by decide +kernel⟩
abbrev s_Lane_gap : Stmt := match topS 28 with
  | .ClassDef _ _ _ b _ _ _ _ _ _ _ => b.getD 2 (.Pass ⟨0, 0, 0, 0⟩)
  | _ => .Pass ⟨0, 0, 0, 0⟩
theorem sc_Lane_gap : FnScope ["self"] ["self"] (defScope s_Lane_gap) := ⟨rfl, rfl, rfl, by decide +kernel, rfl, by decide +kernel, by decide +kernel⟩
abbrev s_Lane_places : Stmt := match topS 28 with
  | .ClassDef _ _ _ b _ _ _ _ _ _ _ => b.getD 3 (.Pass ⟨0, 0, 0, 0⟩)
  | _ => .Pass ⟨0, 0, 0, 0⟩
theorem sc_Lane_places : FnScope ["self"] ["self"] (defScope s_Lane_places) := ⟨rfl, rfl, rfl, by decide +kernel, rfl, by decide +kernel, by decide +kernel⟩
abbrev s_Lane_runs : Stmt := match topS 28 with
  | .ClassDef _ _ _ b _ _ _ _ _ _ _ => b.getD 4 (.Pass ⟨0, 0, 0, 0⟩)
  | _ => .Pass ⟨0, 0, 0, 0⟩
theorem sc_Lane_runs : FnScope ["self"] ["self"] (defScope s_Lane_runs) := ⟨rfl, rfl, rfl, by decide +kernel, rfl, by decide +kernel, by decide +kernel⟩
abbrev s_Lane_noted : Stmt := match topS 28 with
  | .ClassDef _ _ _ b _ _ _ _ _ _ _ => b.getD 5 (.Pass ⟨0, 0, 0, 0⟩)
  | _ => .Pass ⟨0, 0, 0, 0⟩
theorem sc_Lane_noted : FnScope ["self", "state"] ["self", "state"] (defScope s_Lane_noted) := ⟨rfl, rfl, rfl, by decide +kernel, rfl, by decide +kernel, by decide +kernel⟩
abbrev s_Lane_run : Stmt := match topS 28 with
  | .ClassDef _ _ _ b _ _ _ _ _ _ _ => b.getD 6 (.Pass ⟨0, 0, 0, 0⟩)
  | _ => .Pass ⟨0, 0, 0, 0⟩
theorem sc_Lane_run : FnScope ["self", "items", "there", "before", "one", "other"] ["self", "items"] (defScope s_Lane_run) := ⟨rfl, rfl, rfl, by decide +kernel, rfl, by decide +kernel, by decide +kernel⟩
abbrev s_Lane_iadd_u : Stmt := match topS 28 with
  | .ClassDef _ _ _ b _ _ _ _ _ _ _ => b.getD 7 (.Pass ⟨0, 0, 0, 0⟩)
  | _ => .Pass ⟨0, 0, 0, 0⟩
theorem sc_Lane_iadd_u : FnScope ["self", "runs", "there", "run"] ["self", "runs"] (defScope s_Lane_iadd_u) := ⟨rfl, rfl, rfl, by decide +kernel, rfl, by decide +kernel, by decide +kernel⟩
abbrev s_Lane_enter : Stmt := match topS 28 with
  | .ClassDef _ _ _ b _ _ _ _ _ _ _ => b.getD 8 (.Pass ⟨0, 0, 0, 0⟩)
  | _ => .Pass ⟨0, 0, 0, 0⟩
theorem sc_Lane_enter : FnScope ["self", "place", "places", "near", "one", "other"] ["self", "place"] (defScope s_Lane_enter) := ⟨rfl, rfl, rfl, by decide +kernel, rfl, by decide +kernel, by decide +kernel⟩
abbrev s_Lane_undo : Stmt := match topS 28 with
  | .ClassDef _ _ _ b _ _ _ _ _ _ _ => b.getD 9 (.Pass ⟨0, 0, 0, 0⟩)
  | _ => .Pass ⟨0, 0, 0, 0⟩
theorem sc_Lane_undo : FnScope ["self"] ["self"] (defScope s_Lane_undo) := ⟨rfl, rfl, rfl, by decide +kernel, rfl, by decide +kernel, by decide +kernel⟩
abbrev s_Lane_getitem_u : Stmt := match topS 28 with
  | .ClassDef _ _ _ b _ _ _ _ _ _ _ => b.getD 11 (.Pass ⟨0, 0, 0, 0⟩)
  | _ => .Pass ⟨0, 0, 0, 0⟩
theorem sc_Lane_getitem_u : FnScope ["self", "sheep"] ["self", "sheep"] (defScope s_Lane_getitem_u) := ⟨rfl, rfl, rfl, by decide +kernel, rfl, by decide +kernel, by decide +kernel⟩
abbrev s_Lane_contains_u : Stmt := match topS 28 with
  | .ClassDef _ _ _ b _ _ _ _ _ _ _ => b.getD 12 (.Pass ⟨0, 0, 0, 0⟩)
  | _ => .Pass ⟨0, 0, 0, 0⟩
theorem sc_Lane_contains_u : FnScope ["self", "value"] ["self", "value"] (defScope s_Lane_contains_u) := ⟨rfl, rfl, rfl, by decide +kernel, rfl, by decide +kernel, by decide +kernel⟩
abbrev s_Lane_len_u : Stmt := match topS 28 with
  | .ClassDef _ _ _ b _ _ _ _ _ _ _ => b.getD 14 (.Pass ⟨0, 0, 0, 0⟩)
  | _ => .Pass ⟨0, 0, 0, 0⟩
theorem sc_Lane_len_u : FnScope ["self"] ["self"] (defScope s_Lane_len_u) := ⟨rfl, rfl, rfl, by decide +kernel, rfl, by decide +kernel, by decide +kernel⟩
abbrev s_Lane_bool_u : Stmt := match topS 28 with
  | .ClassDef _ _ _ b _ _ _ _ _ _ _ => b.getD 15 (.Pass ⟨0, 0, 0, 0⟩)
  | _ => .Pass ⟨0, 0, 0, 0⟩
theorem sc_Lane_bool_u : FnScope ["self", "places", "one", "other"] ["self"] (defScope s_Lane_bool_u) := ⟨rfl, rfl, rfl, by decide +kernel, rfl, by decide +kernel, by decide +kernel⟩
abbrev s_Lane_lots : Stmt := match topS 28 with
  | .ClassDef _ _ _ b _ _ _ _ _ _ _ => b.getD 16 (.Pass ⟨0, 0, 0, 0⟩)
  | _ => .Pass ⟨0, 0, 0, 0⟩
theorem sc_Lane_lots : GScope ["self", "at", "places", "first"] ["self"] (defScope s_Lane_lots) := ⟨rfl, rfl, rfl, by decide +kernel, rfl, by decide +kernel, by decide +kernel⟩
abbrev s_Lane_eq_u : Stmt := match topS 28 with
  | .ClassDef _ _ _ b _ _ _ _ _ _ _ => b.getD 17 (.Pass ⟨0, 0, 0, 0⟩)
  | _ => .Pass ⟨0, 0, 0, 0⟩
theorem sc_Lane_eq_u : FnScope ["self", "other"] ["self", "other"] (defScope s_Lane_eq_u) := ⟨rfl, rfl, rfl, by decide +kernel, rfl, by decide +kernel, by decide +kernel⟩
abbrev s_l_cart_of : Stmt := topS 30
theorem sc_l_cart_of : FnScope ["_law_script", "_law_k", "_law_cell"] ["_law_script", "_law_k"] (defScope s_l_cart_of) := ⟨rfl, rfl, rfl, by decide +kernel, rfl, by decide +kernel, by decide +kernel⟩
abbrev s_l_take : Stmt := topS 31
theorem sc_l_take : FnScope ["_law_cart", "_law_many", "_law_found", "_law_wide"] ["_law_cart", "_law_many"] (defScope s_l_take) := ⟨rfl, rfl, rfl, by decide +kernel, rfl, by decide +kernel, by decide +kernel⟩
abbrev s_l_any : Stmt := topS 32
theorem sc_l_any : FnScope ["_law_cart", "_law_things"] ["_law_cart", "_law_things"] (defScope s_l_any) := ⟨rfl, rfl, rfl, by decide +kernel, rfl, by decide +kernel, by decide +kernel⟩
abbrev s_l_deed : Stmt := topS 33
theorem sc_l_deed : FnScope ["_law_cart", "_law_wide", "_law_word_here", "_law_most"] ["_law_cart", "_law_wide"] (defScope s_l_deed) := ⟨rfl, rfl, rfl, by decide +kernel, rfl, by decide +kernel, by decide +kernel⟩
abbrev s_l_at : Stmt := topS 34
theorem sc_l_at : FnScope ["_law_gap", "_law_rooms_here", "_law_at_here", "_law_room"] ["_law_gap", "_law_rooms_here"] (defScope s_l_at) := ⟨rfl, rfl, rfl, by decide +kernel, rfl, by decide +kernel, by decide +kernel⟩
abbrev s_l_rooms : Stmt := topS 35
theorem sc_l_rooms : FnScope ["_law_cart", "_law_many", "_law_wide", "_law_turn", "_law_found", "_law_room"] ["_law_cart", "_law_many", "_law_wide"] (defScope s_l_rooms) := ⟨rfl, rfl, rfl, by decide +kernel, rfl, by decide +kernel, by decide +kernel⟩
abbrev s_l_closed : Stmt := topS 36
theorem sc_l_closed : FnScope ["_law_gap", "_law_places", "_law_found", "_law_place"] ["_law_gap", "_law_places"] (defScope s_l_closed) := ⟨rfl, rfl, rfl, by decide +kernel, rfl, by decide +kernel, by decide +kernel⟩
abbrev s_l_ran : Stmt := topS 37
theorem sc_l_ran : FnScope ["_law_gap", "_law_places", "_law_run", "_law_sheep", "_law_there", "_law_place"] ["_law_gap", "_law_places", "_law_run"] (defScope s_l_ran) := ⟨rfl, rfl, rfl, by decide +kernel, rfl, by decide +kernel, by decide +kernel⟩
abbrev s_l_end : Stmt := topS 38
theorem sc_l_end : FnScope ["_law_work", "_law_places", "_law_run"] ["_law_work", "_law_places"] (defScope s_l_end) := ⟨rfl, rfl, rfl, by decide +kernel, rfl, by decide +kernel, by decide +kernel⟩
abbrev s_l_word : Stmt := topS 39
theorem sc_l_word : FnScope ["_law_call_here", "_law_found", "e"] ["_law_call_here"] (defScope s_l_word) := ⟨rfl, rfl, rfl, by decide +kernel, rfl, by decide +kernel, by decide +kernel⟩
abbrev s_l_is_deed : Stmt := topS 40
theorem sc_l_is_deed : FnScope ["_law_value"] ["_law_value"] (defScope s_l_is_deed) := ⟨rfl, rfl, rfl, by decide +kernel, rfl, by decide +kernel, by decide +kernel⟩
abbrev s_l_due : Stmt := topS 41
theorem sc_l_due : FnScope ["_law_gap", "_law_now", "_law_call_here", "_law_place", "_law_found", "_law_places", "_law_runs", "_law_there", "_law_many", "_law_at_here", "_law_one", "_law_run"] ["_law_gap", "_law_now", "_law_call_here"] (defScope s_l_due) := ⟨rfl, rfl, rfl, by decide +kernel, rfl, by decide +kernel, by decide +kernel⟩
abbrev s_l_added : Stmt := topS 42
theorem sc_l_added : FnScope ["_law_lane", "_law_runs"] ["_law_lane", "_law_runs"] (defScope s_l_added) := ⟨rfl, rfl, rfl, by decide +kernel, rfl, by decide +kernel, by decide +kernel⟩
abbrev s_l_call : Stmt := topS 43
theorem sc_l_call : FnScope ["_law_lane", "_law_call_here"] ["_law_lane", "_law_call_here"] (defScope s_l_call) := ⟨rfl, rfl, rfl, by decide +kernel, rfl, by decide +kernel, by decide +kernel⟩
abbrev s_l_called : Stmt := topS 44
theorem sc_l_called : FnScope ["_law_lane", "_law_call_here", "_law_found", "_law_word_here"] ["_law_lane", "_law_call_here"] (defScope s_l_called) := ⟨rfl, rfl, rfl, by decide +kernel, rfl, by decide +kernel, by decide +kernel⟩
abbrev s_l_lots : Stmt := topS 45
theorem sc_l_lots : FnScope ["_law_gap", "_law_places", "_law_at_here", "_law_found", "_law_first"] ["_law_gap", "_law_places"] (defScope s_l_lots) := ⟨rfl, rfl, rfl, by decide +kernel, rfl, by decide +kernel, by decide +kernel⟩
abbrev s_l_shows : Stmt := topS 46
theorem sc_l_shows : FnScope ["_law_lane", "_law_gap", "_law_now", "_law_many", "_law_wide", "_law_odd", "_law_place", "_law_lots_here", "_law_places", "_law_runs", "_law_at_here"] ["_law_lane", "_law_gap", "_law_now", "_law_many"] (defScope s_l_shows) := ⟨rfl, rfl, rfl, by decide +kernel, rfl, by decide +kernel, by decide +kernel⟩
abbrev s_law : Stmt := topS 47
theorem sc_law : FnScope ["_law_script", "_law_k", "_law_lane", "_law_full", "_law_cart", "_law_gap", "_law_first", "_law_turn", "_law_other", "_law_past", "_law_calls", "_law_call_here", "_law_deed_here", "_law_top", "_law_due_here", "_law_now"] ["_law_script"] (defScope s_law) := ⟨rfl, rfl, rfl, by decide +kernel, rfl, by decide +kernel, by decide +kernel⟩
abbrev s_ini_TooMany : Stmt := match topS 12 with
  | .ClassDef _ _ _ b _ _ _ _ _ _ _ => b.getD 0 (.Pass ⟨0, 0, 0, 0⟩)
  | _ => .Pass ⟨0, 0, 0, 0⟩
theorem sc_ini_TooMany : FnScope ["self", "limit"] ["self", "limit"] (defScope s_ini_TooMany) := ⟨rfl, rfl, rfl, by decide +kernel, rfl, by decide +kernel, by decide +kernel⟩
structure Md (K : PySem.W.Frag) (mg : Str → Option Value) where
  C_Lane : Addr
  gc_Lane : mg "Lane" = some (.ref C_Lane)
  I_Lane : ClsI K "Lane" C_Lane
  cr_Lane : ClX.CRead K C_Lane (.type "type")
  na_Lane_now : NoAttr K C_Lane "now"
  na_Lane_past : NoAttr K C_Lane "past"
  na_Lane_space : NoAttr K C_Lane "space"
  u_Lane_MOST : Value
  cv_Lane_MOST : ClX.CVal K C_Lane (.type "type") "MOST" (.int 50) u_Lane_MOST
  ko_Lane_MOST : Con K C_Lane "MOST" (.int 50) u_Lane_MOST
  f_Lane_init_u : Addr
  d_Lane_init_u : FuncData
  F_Lane_init_u : Fun K "__init__" "Lane.__init__" s_Lane_init_u f_Lane_init_u d_Lane_init_u
  b_Lane_init_u : Binds K d_Lane_init_u ["self", "gap", "beginning"] []
  mk_Lane_init_u : Mk K C_Lane f_Lane_init_u
  f_Lane_gap : Addr
  d_Lane_gap : FuncData
  F_Lane_gap : Fun K "gap" "Lane.gap" s_Lane_gap f_Lane_gap d_Lane_gap
  b_Lane_gap : Binds K d_Lane_gap ["self"] []
  pr_Lane_gap : Addr
  p_Lane_gap : PropOf K C_Lane "gap" pr_Lane_gap f_Lane_gap
  f_Lane_places : Addr
  d_Lane_places : FuncData
  F_Lane_places : Fun K "places" "Lane.places" s_Lane_places f_Lane_places d_Lane_places
  b_Lane_places : Binds K d_Lane_places ["self"] []
  pr_Lane_places : Addr
  p_Lane_places : PropOf K C_Lane "places" pr_Lane_places f_Lane_places
  f_Lane_runs : Addr
  d_Lane_runs : FuncData
  F_Lane_runs : Fun K "runs" "Lane.runs" s_Lane_runs f_Lane_runs d_Lane_runs
  b_Lane_runs : Binds K d_Lane_runs ["self"] []
  pr_Lane_runs : Addr
  p_Lane_runs : PropOf K C_Lane "runs" pr_Lane_runs f_Lane_runs
  f_Lane_noted : Addr
  d_Lane_noted : FuncData
  F_Lane_noted : Fun K "noted" "Lane.noted" s_Lane_noted f_Lane_noted d_Lane_noted
  b_Lane_noted : Binds K d_Lane_noted ["self", "state"] []
  at_Lane_noted : PySem.W.findIn K (.ref C_Lane) "noted" = some (some (.ref f_Lane_noted))
  fn_Lane_noted : PySem.W.isFn K (.ref f_Lane_noted) = true
  fi_Lane_noted : PySem.W.fnIn K f_Lane_noted = true
  kp_Lane_noted : PySem.W.keepIn K (.ref f_Lane_noted) = true
  f_Lane_run : Addr
  (o1_Lane_run o2_Lane_run o3_Lane_run o4_Lane_run o5_Lane_run o6_Lane_run : Value)
  (u1_Lane_run u2_Lane_run : Option Addr)
  us_Lane_run : Array (Option Value)
  lk_Lane_run : K.lookup f_Lane_run = some ⟨o1_Lane_run, u1_Lane_run, .func (PySem.W.fnOf "run" "Lane.run" (defArgs s_Lane_run) (defBody s_Lane_run) (defScope s_Lane_run) .none o2_Lane_run o3_Lane_run o4_Lane_run u2_Lane_run o6_Lane_run o5_Lane_run), us_Lane_run⟩
  cd_Lane_run : PySem.W.codeIn K o6_Lane_run "Lane.run" = true
  at_Lane_run : PySem.W.findIn K (.ref C_Lane) "run" = some (some (.ref f_Lane_run))
  fn_Lane_run : PySem.W.isFn K (.ref f_Lane_run) = true
  fi_Lane_run : PySem.W.fnIn K f_Lane_run = true
  kp_Lane_run : PySem.W.keepIn K (.ref f_Lane_run) = true
  f_Lane_iadd_u : Addr
  d_Lane_iadd_u : FuncData
  F_Lane_iadd_u : Fun K "__iadd__" "Lane.__iadd__" s_Lane_iadd_u f_Lane_iadd_u d_Lane_iadd_u
  b_Lane_iadd_u : Binds K d_Lane_iadd_u ["self", "runs"] []
  at_Lane_iadd_u : PySem.W.findIn K (.ref C_Lane) (PySem.dunderI (Operator.info .Add).2) = some (some (.ref f_Lane_iadd_u))
  fn_Lane_iadd_u : PySem.W.isFn K (.ref f_Lane_iadd_u) = true
  fi_Lane_iadd_u : PySem.W.fnIn K f_Lane_iadd_u = true
  kp_Lane_iadd_u : PySem.W.keepIn K (.ref f_Lane_iadd_u) = true
  f_Lane_enter : Addr
  d_Lane_enter : FuncData
  F_Lane_enter : Fun K "enter" "Lane.enter" s_Lane_enter f_Lane_enter d_Lane_enter
  b_Lane_enter : Binds K d_Lane_enter ["self", "place"] []
  at_Lane_enter : PySem.W.findIn K (.ref C_Lane) "enter" = some (some (.ref f_Lane_enter))
  fn_Lane_enter : PySem.W.isFn K (.ref f_Lane_enter) = true
  fi_Lane_enter : PySem.W.fnIn K f_Lane_enter = true
  kp_Lane_enter : PySem.W.keepIn K (.ref f_Lane_enter) = true
  f_Lane_undo : Addr
  d_Lane_undo : FuncData
  F_Lane_undo : Fun K "undo" "Lane.undo" s_Lane_undo f_Lane_undo d_Lane_undo
  b_Lane_undo : Binds K d_Lane_undo ["self"] []
  at_Lane_undo : PySem.W.findIn K (.ref C_Lane) "undo" = some (some (.ref f_Lane_undo))
  fn_Lane_undo : PySem.W.isFn K (.ref f_Lane_undo) = true
  fi_Lane_undo : PySem.W.fnIn K f_Lane_undo = true
  kp_Lane_undo : PySem.W.keepIn K (.ref f_Lane_undo) = true
  f_Lane_getitem_u : Addr
  d_Lane_getitem_u : FuncData
  F_Lane_getitem_u : Fun K "__getitem__" "Lane.__getitem__" s_Lane_getitem_u f_Lane_getitem_u d_Lane_getitem_u
  b_Lane_getitem_u : Binds K d_Lane_getitem_u ["self", "sheep"] []
  at_Lane_getitem_u : PySem.W.findIn K (.ref C_Lane) "__getitem__" = some (some (.ref f_Lane_getitem_u))
  fn_Lane_getitem_u : PySem.W.isFn K (.ref f_Lane_getitem_u) = true
  fi_Lane_getitem_u : PySem.W.fnIn K f_Lane_getitem_u = true
  kp_Lane_getitem_u : PySem.W.keepIn K (.ref f_Lane_getitem_u) = true
  f_Lane_contains_u : Addr
  d_Lane_contains_u : FuncData
  F_Lane_contains_u : Fun K "__contains__" "Lane.__contains__" s_Lane_contains_u f_Lane_contains_u d_Lane_contains_u
  b_Lane_contains_u : Binds K d_Lane_contains_u ["self", "value"] []
  at_Lane_contains_u : PySem.W.findIn K (.ref C_Lane) "__contains__" = some (some (.ref f_Lane_contains_u))
  fn_Lane_contains_u : PySem.W.isFn K (.ref f_Lane_contains_u) = true
  fi_Lane_contains_u : PySem.W.fnIn K f_Lane_contains_u = true
  kp_Lane_contains_u : PySem.W.keepIn K (.ref f_Lane_contains_u) = true
  f_Lane_len_u : Addr
  d_Lane_len_u : FuncData
  F_Lane_len_u : Fun K "__len__" "Lane.__len__" s_Lane_len_u f_Lane_len_u d_Lane_len_u
  b_Lane_len_u : Binds K d_Lane_len_u ["self"] []
  at_Lane_len_u : PySem.W.findIn K (.ref C_Lane) "__len__" = some (some (.ref f_Lane_len_u))
  fn_Lane_len_u : PySem.W.isFn K (.ref f_Lane_len_u) = true
  fi_Lane_len_u : PySem.W.fnIn K f_Lane_len_u = true
  kp_Lane_len_u : PySem.W.keepIn K (.ref f_Lane_len_u) = true
  f_Lane_bool_u : Addr
  d_Lane_bool_u : FuncData
  F_Lane_bool_u : Fun K "__bool__" "Lane.__bool__" s_Lane_bool_u f_Lane_bool_u d_Lane_bool_u
  b_Lane_bool_u : Binds K d_Lane_bool_u ["self"] []
  at_Lane_bool_u : PySem.W.findIn K (.ref C_Lane) "__bool__" = some (some (.ref f_Lane_bool_u))
  fn_Lane_bool_u : PySem.W.isFn K (.ref f_Lane_bool_u) = true
  fi_Lane_bool_u : PySem.W.fnIn K f_Lane_bool_u = true
  kp_Lane_bool_u : PySem.W.keepIn K (.ref f_Lane_bool_u) = true
  f_Lane_lots : Addr
  (o1_Lane_lots o2_Lane_lots o3_Lane_lots o4_Lane_lots o5_Lane_lots o6_Lane_lots : Value)
  (u1_Lane_lots u2_Lane_lots : Option Addr)
  us_Lane_lots : Array (Option Value)
  lk_Lane_lots : K.lookup f_Lane_lots = some ⟨o1_Lane_lots, u1_Lane_lots, .func (PySem.W.fnOf "lots" "Lane.lots" (defArgs s_Lane_lots) (defBody s_Lane_lots) (defScope s_Lane_lots) .none o2_Lane_lots o3_Lane_lots o4_Lane_lots u2_Lane_lots o6_Lane_lots o5_Lane_lots), us_Lane_lots⟩
  cd_Lane_lots : PySem.W.codeIn K o6_Lane_lots "Lane.lots" = true
  mt_Lane_lots : Meth K C_Lane "lots" f_Lane_lots
  b_Lane_lots : Binds K (PySem.W.fnOf "lots" "Lane.lots" (defArgs s_Lane_lots) (defBody s_Lane_lots) (defScope s_Lane_lots) .none o2_Lane_lots o3_Lane_lots o4_Lane_lots u2_Lane_lots o6_Lane_lots o5_Lane_lots) ["self"] []
  f_Lane_eq_u : Addr
  d_Lane_eq_u : FuncData
  F_Lane_eq_u : Fun K "__eq__" "Lane.__eq__" s_Lane_eq_u f_Lane_eq_u d_Lane_eq_u
  b_Lane_eq_u : Binds K d_Lane_eq_u ["self", "other"] []
  at_Lane_eq_u : PySem.W.findIn K (.ref C_Lane) (PySem.cmpInfo .Eq).2.1 = some (some (.ref f_Lane_eq_u))
  fn_Lane_eq_u : PySem.W.isFn K (.ref f_Lane_eq_u) = true
  fi_Lane_eq_u : PySem.W.fnIn K f_Lane_eq_u = true
  kp_Lane_eq_u : PySem.W.keepIn K (.ref f_Lane_eq_u) = true
  f_is_int : Addr
  d_is_int : FuncData
  F_is_int : Fun K "is_int" "is_int" s_is_int f_is_int d_is_int
  g_is_int : mg "is_int" = some (.ref f_is_int)
  n_is_int : PySem.W.nsIn K mainGlobals "is_int" = some (some (.ref f_is_int))
  b_is_int : Binds K d_is_int ["value", "low", "high"] []
  f_is_a_run : Addr
  d_is_a_run : FuncData
  F_is_a_run : Fun K "is_a_run" "is_a_run" s_is_a_run f_is_a_run d_is_a_run
  g_is_a_run : mg "is_a_run" = some (.ref f_is_a_run)
  n_is_a_run : PySem.W.nsIn K mainGlobals "is_a_run" = some (some (.ref f_is_a_run))
  b_is_a_run : Binds K d_is_a_run ["value"] []
  f_begins : Addr
  d_begins : FuncData
  F_begins : Fun K "begins" "begins" s_begins f_begins d_begins
  g_begins : mg "begins" = some (.ref f_begins)
  n_begins : PySem.W.nsIn K mainGlobals "begins" = some (some (.ref f_begins))
  b_begins : Binds K d_begins ["gap", "value"] []
  f_need_beginning : Addr
  d_need_beginning : FuncData
  F_need_beginning : Fun K "need_beginning" "need_beginning" s_need_beginning f_need_beginning d_need_beginning
  g_need_beginning : mg "need_beginning" = some (.ref f_need_beginning)
  n_need_beginning : PySem.W.nsIn K mainGlobals "need_beginning" = some (some (.ref f_need_beginning))
  b_need_beginning : Binds K d_need_beginning ["gap", "value"] []
  f_pushed : Addr
  d_pushed : FuncData
  F_pushed : Fun K "pushed" "pushed" s_pushed f_pushed d_pushed
  g_pushed : mg "pushed" = some (.ref f_pushed)
  n_pushed : PySem.W.nsIn K mainGlobals "pushed" = some (some (.ref f_pushed))
  b_pushed : Binds K d_pushed ["gap", "places", "sheep", "steps"] []
  f_ran : Addr
  d_ran : FuncData
  F_ran : Fun K "ran" "ran" s_ran f_ran d_ran
  g_ran : mg "ran" = some (.ref f_ran)
  n_ran : PySem.W.nsIn K mainGlobals "ran" = some (some (.ref f_ran))
  b_ran : Binds K d_ran ["gap", "places", "run"] []
  f_l_cart_of : Addr
  d_l_cart_of : FuncData
  F_l_cart_of : Fun K "_law_cart_of" "_law_cart_of" s_l_cart_of f_l_cart_of d_l_cart_of
  g_l_cart_of : mg "_law_cart_of" = some (.ref f_l_cart_of)
  n_l_cart_of : PySem.W.nsIn K mainGlobals "_law_cart_of" = some (some (.ref f_l_cart_of))
  b_l_cart_of : Binds K d_l_cart_of ["_law_script", "_law_k"] []
  f_l_take : Addr
  d_l_take : FuncData
  F_l_take : Fun K "_law_take" "_law_take" s_l_take f_l_take d_l_take
  g_l_take : mg "_law_take" = some (.ref f_l_take)
  n_l_take : PySem.W.nsIn K mainGlobals "_law_take" = some (some (.ref f_l_take))
  b_l_take : Binds K d_l_take ["_law_cart", "_law_many"] []
  f_l_any : Addr
  d_l_any : FuncData
  F_l_any : Fun K "_law_any" "_law_any" s_l_any f_l_any d_l_any
  g_l_any : mg "_law_any" = some (.ref f_l_any)
  n_l_any : PySem.W.nsIn K mainGlobals "_law_any" = some (some (.ref f_l_any))
  b_l_any : Binds K d_l_any ["_law_cart", "_law_things"] []
  f_l_deed : Addr
  d_l_deed : FuncData
  F_l_deed : Fun K "_law_deed" "_law_deed" s_l_deed f_l_deed d_l_deed
  g_l_deed : mg "_law_deed" = some (.ref f_l_deed)
  n_l_deed : PySem.W.nsIn K mainGlobals "_law_deed" = some (some (.ref f_l_deed))
  b_l_deed : Binds K d_l_deed ["_law_cart", "_law_wide"] []
  f_l_at : Addr
  d_l_at : FuncData
  F_l_at : Fun K "_law_at" "_law_at" s_l_at f_l_at d_l_at
  g_l_at : mg "_law_at" = some (.ref f_l_at)
  n_l_at : PySem.W.nsIn K mainGlobals "_law_at" = some (some (.ref f_l_at))
  b_l_at : Binds K d_l_at ["_law_gap", "_law_rooms_here"] []
  f_l_rooms : Addr
  d_l_rooms : FuncData
  F_l_rooms : Fun K "_law_rooms" "_law_rooms" s_l_rooms f_l_rooms d_l_rooms
  g_l_rooms : mg "_law_rooms" = some (.ref f_l_rooms)
  n_l_rooms : PySem.W.nsIn K mainGlobals "_law_rooms" = some (some (.ref f_l_rooms))
  b_l_rooms : Binds K d_l_rooms ["_law_cart", "_law_many", "_law_wide"] []
  f_l_closed : Addr
  d_l_closed : FuncData
  F_l_closed : Fun K "_law_closed" "_law_closed" s_l_closed f_l_closed d_l_closed
  g_l_closed : mg "_law_closed" = some (.ref f_l_closed)
  n_l_closed : PySem.W.nsIn K mainGlobals "_law_closed" = some (some (.ref f_l_closed))
  b_l_closed : Binds K d_l_closed ["_law_gap", "_law_places"] []
  f_l_ran : Addr
  d_l_ran : FuncData
  F_l_ran : Fun K "_law_ran" "_law_ran" s_l_ran f_l_ran d_l_ran
  g_l_ran : mg "_law_ran" = some (.ref f_l_ran)
  n_l_ran : PySem.W.nsIn K mainGlobals "_law_ran" = some (some (.ref f_l_ran))
  b_l_ran : Binds K d_l_ran ["_law_gap", "_law_places", "_law_run"] []
  f_l_end : Addr
  d_l_end : FuncData
  F_l_end : Fun K "_law_end" "_law_end" s_l_end f_l_end d_l_end
  g_l_end : mg "_law_end" = some (.ref f_l_end)
  n_l_end : PySem.W.nsIn K mainGlobals "_law_end" = some (some (.ref f_l_end))
  b_l_end : Binds K d_l_end ["_law_work", "_law_places"] []
  f_l_word : Addr
  d_l_word : FuncData
  F_l_word : Fun K "_law_word" "_law_word" s_l_word f_l_word d_l_word
  g_l_word : mg "_law_word" = some (.ref f_l_word)
  n_l_word : PySem.W.nsIn K mainGlobals "_law_word" = some (some (.ref f_l_word))
  b_l_word : Binds K d_l_word ["_law_call_here"] []
  f_l_is_deed : Addr
  d_l_is_deed : FuncData
  F_l_is_deed : Fun K "_law_is_deed" "_law_is_deed" s_l_is_deed f_l_is_deed d_l_is_deed
  g_l_is_deed : mg "_law_is_deed" = some (.ref f_l_is_deed)
  n_l_is_deed : PySem.W.nsIn K mainGlobals "_law_is_deed" = some (some (.ref f_l_is_deed))
  b_l_is_deed : Binds K d_l_is_deed ["_law_value"] []
  f_l_due : Addr
  d_l_due : FuncData
  F_l_due : Fun K "_law_due" "_law_due" s_l_due f_l_due d_l_due
  g_l_due : mg "_law_due" = some (.ref f_l_due)
  n_l_due : PySem.W.nsIn K mainGlobals "_law_due" = some (some (.ref f_l_due))
  b_l_due : Binds K d_l_due ["_law_gap", "_law_now", "_law_call_here"] []
  f_l_added : Addr
  d_l_added : FuncData
  F_l_added : Fun K "_law_added" "_law_added" s_l_added f_l_added d_l_added
  g_l_added : mg "_law_added" = some (.ref f_l_added)
  n_l_added : PySem.W.nsIn K mainGlobals "_law_added" = some (some (.ref f_l_added))
  b_l_added : Binds K d_l_added ["_law_lane", "_law_runs"] []
  f_l_call : Addr
  d_l_call : FuncData
  F_l_call : Fun K "_law_call" "_law_call" s_l_call f_l_call d_l_call
  g_l_call : mg "_law_call" = some (.ref f_l_call)
  n_l_call : PySem.W.nsIn K mainGlobals "_law_call" = some (some (.ref f_l_call))
  b_l_call : Binds K d_l_call ["_law_lane", "_law_call_here"] []
  f_l_called : Addr
  d_l_called : FuncData
  F_l_called : Fun K "_law_called" "_law_called" s_l_called f_l_called d_l_called
  g_l_called : mg "_law_called" = some (.ref f_l_called)
  n_l_called : PySem.W.nsIn K mainGlobals "_law_called" = some (some (.ref f_l_called))
  b_l_called : Binds K d_l_called ["_law_lane", "_law_call_here"] []
  c_l_called : Addr
  P_l_called : Addr
  (o1_l_called o2_l_called o3_l_called o4_l_called o5_l_called : Value)
  (u1_l_called u2_l_called : Option Addr)
  us_l_called : Array (Option Value)
  lk_l_called : K.lookup f_l_called = some ⟨o1_l_called, u1_l_called, .func (PySem.W.fnOf "_law_called" "_law_called" (defArgs s_l_called) (defBody s_l_called) (defScope s_l_called) .none o2_l_called o3_l_called o4_l_called u2_l_called (.ref c_l_called) o5_l_called), us_l_called⟩
  cd_l_called : PySem.W.codeIn K (.ref c_l_called) "_law_called" = true
  db_l_called : d_l_called = PySem.W.fnOf "_law_called" "_law_called" (defArgs s_l_called) (defBody s_l_called) (defScope s_l_called) .none o2_l_called o3_l_called o4_l_called u2_l_called (.ref c_l_called) o5_l_called
  tm_l_called : (P_l_called, (("_law_called" : Str) ++ ".<locals>." ++ "<lambda>")) ∈ tabsOf K
  tu_l_called : ∀ p ∈ tabsOf K, p.1 = P_l_called → p.2 = (("_law_called" : Str) ++ ".<locals>." ++ "<lambda>")
  f_l_lots : Addr
  d_l_lots : FuncData
  F_l_lots : Fun K "_law_lots" "_law_lots" s_l_lots f_l_lots d_l_lots
  g_l_lots : mg "_law_lots" = some (.ref f_l_lots)
  n_l_lots : PySem.W.nsIn K mainGlobals "_law_lots" = some (some (.ref f_l_lots))
  b_l_lots : Binds K d_l_lots ["_law_gap", "_law_places"] []
  f_l_shows : Addr
  d_l_shows : FuncData
  F_l_shows : Fun K "_law_shows" "_law_shows" s_l_shows f_l_shows d_l_shows
  g_l_shows : mg "_law_shows" = some (.ref f_l_shows)
  n_l_shows : PySem.W.nsIn K mainGlobals "_law_shows" = some (some (.ref f_l_shows))
  b_l_shows : Binds K d_l_shows ["_law_lane", "_law_gap", "_law_now", "_law_many"] []
  c_l_shows : Addr
  P_l_shows : Addr
  (o1_l_shows o2_l_shows o3_l_shows o4_l_shows o5_l_shows : Value)
  (u1_l_shows u2_l_shows : Option Addr)
  us_l_shows : Array (Option Value)
  lk_l_shows : K.lookup f_l_shows = some ⟨o1_l_shows, u1_l_shows, .func (PySem.W.fnOf "_law_shows" "_law_shows" (defArgs s_l_shows) (defBody s_l_shows) (defScope s_l_shows) .none o2_l_shows o3_l_shows o4_l_shows u2_l_shows (.ref c_l_shows) o5_l_shows), us_l_shows⟩
  cd_l_shows : PySem.W.codeIn K (.ref c_l_shows) "_law_shows" = true
  db_l_shows : d_l_shows = PySem.W.fnOf "_law_shows" "_law_shows" (defArgs s_l_shows) (defBody s_l_shows) (defScope s_l_shows) .none o2_l_shows o3_l_shows o4_l_shows u2_l_shows (.ref c_l_shows) o5_l_shows
  tm_l_shows : (P_l_shows, (("_law_shows" : Str) ++ ".<locals>." ++ "<lambda>")) ∈ tabsOf K
  tu_l_shows : ∀ p ∈ tabsOf K, p.1 = P_l_shows → p.2 = (("_law_shows" : Str) ++ ".<locals>." ++ "<lambda>")
  f_law : Addr
  d_law : FuncData
  F_law : Fun K "law" "law" s_law f_law d_law
  g_law : mg "law" = some (.ref f_law)
  n_law : PySem.W.nsIn K mainGlobals "law" = some (some (.ref f_law))
  b_law : Binds K d_law ["_law_script"] []
  c_law : Addr
  P_law : Addr
  (o1_law o2_law o3_law o4_law o5_law : Value)
  (u1_law u2_law : Option Addr)
  us_law : Array (Option Value)
  lk_law : K.lookup f_law = some ⟨o1_law, u1_law, .func (PySem.W.fnOf "law" "law" (defArgs s_law) (defBody s_law) (defScope s_law) .none o2_law o3_law o4_law u2_law (.ref c_law) o5_law), us_law⟩
  cd_law : PySem.W.codeIn K (.ref c_law) "law" = true
  tm_law : (P_law, (("law" : Str) ++ ".<locals>." ++ "<lambda>")) ∈ tabsOf K
  tu_law : ∀ p ∈ tabsOf K, p.1 = P_law → p.2 = (("law" : Str) ++ ".<locals>." ++ "<lambda>")
  C_InvalidBeginning : Addr
  e_InvalidBeginning : ExcC K mg "InvalidBeginning" C_InvalidBeginning
  C_InvalidDrill : Addr
  e_InvalidDrill : ExcC K mg "InvalidDrill" C_InvalidDrill
  C_InvalidRun : Addr
  e_InvalidRun : ExcC K mg "InvalidRun" C_InvalidRun
  C_InvalidPlace : Addr
  e_InvalidPlace : ExcC K mg "InvalidPlace" C_InvalidPlace
  C_NothingToUndo : Addr
  e_NothingToUndo : ExcC K mg "NothingToUndo" C_NothingToUndo
  C_InvalidSheep : Addr
  e_InvalidSheep : ExcC K mg "InvalidSheep" C_InvalidSheep
  C_InvalidMany : Addr
  e_InvalidMany : ExcC K mg "InvalidMany" C_InvalidMany
  C_InvalidIndex : Addr
  e_InvalidIndex : ExcC K mg "InvalidIndex" C_InvalidIndex
  C_Unlike : Addr
  e_Unlike : ExcC K mg "Unlike" C_Unlike
  C_DogError : Addr
  e_DogError : ExcC K mg "DogError" C_DogError
  C_TooMany : Addr
  c_TooMany : mg "TooMany" = some (.ref C_TooMany)
  C_InvalidText : Addr
  c_InvalidText : mg "InvalidText" = some (.ref C_InvalidText)
  n_TooMany : PySem.W.nsIn K mainGlobals "TooMany" = some (some (.ref C_TooMany))
  n_InvalidText : PySem.W.nsIn K mainGlobals "InvalidText" = some (some (.ref C_InvalidText))
  T_TooMany : OexC K C_TooMany
  I_TooMany : Addr
  iC_TooMany : PySem.W.findIn K (.ref C_TooMany) "__init__" = some (some (.ref I_TooMany))
  tI_TooMany : PySem.W.typeIn K (.ref I_TooMany) = some (.type "function")
  (oi1_TooMany oi2_TooMany oi3_TooMany oi4_TooMany oi5_TooMany oi6_TooMany : Value)
  (ui1_TooMany ui2_TooMany : Option Addr)
  usi_TooMany : Array (Option Value)
  lkI_TooMany : K.lookup I_TooMany = some ⟨oi1_TooMany, ui1_TooMany, .func (PySem.W.fnOf "__init__" "TooMany.__init__" (defArgs s_ini_TooMany) (defBody s_ini_TooMany) (defScope s_ini_TooMany) .none oi2_TooMany oi3_TooMany oi4_TooMany ui2_TooMany oi5_TooMany oi6_TooMany), usi_TooMany⟩
  cdI_TooMany : PySem.W.codeIn K oi5_TooMany "TooMany.__init__" = true
  no_TooMany : PySem.W.findIn K (.ref C_TooMany) "limit" = some none
  bI_TooMany : Binds K (PySem.W.fnOf "__init__" "TooMany.__init__" (defArgs s_ini_TooMany) (defBody s_ini_TooMany) (defScope s_ini_TooMany) .none oi2_TooMany oi3_TooMany oi4_TooMany ui2_TooMany oi5_TooMany oi6_TooMany) ["self", "limit"] []
  B_DogError : BaseC K mg "DogError" C_DogError
  FA : ∀ q ∈ fldN, ∀ C, PySem.W.nsIn K mainGlobals q.1 = some (some (.ref C)) → XfC K C ∧ PySem.W.findIn K (.ref C) q.2 = some none
  x_InvalidBeginning_InvalidDrill : PySem.W.exmOne K (.ref C_InvalidBeginning) (.ref C_InvalidDrill) = some false
  x_InvalidBeginning_InvalidBeginning : PySem.W.exmOne K (.ref C_InvalidBeginning) (.ref C_InvalidBeginning) = some true
  x_InvalidBeginning_InvalidMany : PySem.W.exmOne K (.ref C_InvalidBeginning) (.ref C_InvalidMany) = some false
  x_InvalidBeginning_InvalidSheep : PySem.W.exmOne K (.ref C_InvalidBeginning) (.ref C_InvalidSheep) = some false
  x_InvalidBeginning_InvalidPlace : PySem.W.exmOne K (.ref C_InvalidBeginning) (.ref C_InvalidPlace) = some false
  x_InvalidBeginning_InvalidRun : PySem.W.exmOne K (.ref C_InvalidBeginning) (.ref C_InvalidRun) = some false
  x_InvalidBeginning_InvalidIndex : PySem.W.exmOne K (.ref C_InvalidBeginning) (.ref C_InvalidIndex) = some false
  x_InvalidBeginning_Unlike : PySem.W.exmOne K (.ref C_InvalidBeginning) (.ref C_Unlike) = some false
  x_InvalidBeginning_NothingToUndo : PySem.W.exmOne K (.ref C_InvalidBeginning) (.ref C_NothingToUndo) = some false
  x_InvalidBeginning_DogError : PySem.W.exmOne K (.ref C_InvalidBeginning) (.ref C_DogError) = some true
  x_InvalidBeginning_TooMany : PySem.W.exmOne K (.ref C_InvalidBeginning) (.ref C_TooMany) = some false
  x_InvalidBeginning_InvalidText : PySem.W.exmOne K (.ref C_InvalidBeginning) (.ref C_InvalidText) = some false
  x_InvalidDrill_InvalidDrill : PySem.W.exmOne K (.ref C_InvalidDrill) (.ref C_InvalidDrill) = some true
  x_InvalidDrill_InvalidBeginning : PySem.W.exmOne K (.ref C_InvalidDrill) (.ref C_InvalidBeginning) = some false
  x_InvalidDrill_InvalidMany : PySem.W.exmOne K (.ref C_InvalidDrill) (.ref C_InvalidMany) = some false
  x_InvalidDrill_InvalidSheep : PySem.W.exmOne K (.ref C_InvalidDrill) (.ref C_InvalidSheep) = some false
  x_InvalidDrill_InvalidPlace : PySem.W.exmOne K (.ref C_InvalidDrill) (.ref C_InvalidPlace) = some false
  x_InvalidDrill_InvalidRun : PySem.W.exmOne K (.ref C_InvalidDrill) (.ref C_InvalidRun) = some false
  x_InvalidDrill_InvalidIndex : PySem.W.exmOne K (.ref C_InvalidDrill) (.ref C_InvalidIndex) = some false
  x_InvalidDrill_Unlike : PySem.W.exmOne K (.ref C_InvalidDrill) (.ref C_Unlike) = some false
  x_InvalidDrill_NothingToUndo : PySem.W.exmOne K (.ref C_InvalidDrill) (.ref C_NothingToUndo) = some false
  x_InvalidDrill_DogError : PySem.W.exmOne K (.ref C_InvalidDrill) (.ref C_DogError) = some true
  x_InvalidDrill_TooMany : PySem.W.exmOne K (.ref C_InvalidDrill) (.ref C_TooMany) = some false
  x_InvalidDrill_InvalidText : PySem.W.exmOne K (.ref C_InvalidDrill) (.ref C_InvalidText) = some false
  x_TooMany_InvalidDrill : PySem.W.exmOne K (.ref C_TooMany) (.ref C_InvalidDrill) = some false
  x_TooMany_InvalidBeginning : PySem.W.exmOne K (.ref C_TooMany) (.ref C_InvalidBeginning) = some false
  x_TooMany_InvalidMany : PySem.W.exmOne K (.ref C_TooMany) (.ref C_InvalidMany) = some false
  x_TooMany_InvalidSheep : PySem.W.exmOne K (.ref C_TooMany) (.ref C_InvalidSheep) = some false
  x_TooMany_InvalidPlace : PySem.W.exmOne K (.ref C_TooMany) (.ref C_InvalidPlace) = some false
  x_TooMany_InvalidRun : PySem.W.exmOne K (.ref C_TooMany) (.ref C_InvalidRun) = some false
  x_TooMany_InvalidIndex : PySem.W.exmOne K (.ref C_TooMany) (.ref C_InvalidIndex) = some false
  x_TooMany_Unlike : PySem.W.exmOne K (.ref C_TooMany) (.ref C_Unlike) = some false
  x_TooMany_NothingToUndo : PySem.W.exmOne K (.ref C_TooMany) (.ref C_NothingToUndo) = some false
  x_TooMany_DogError : PySem.W.exmOne K (.ref C_TooMany) (.ref C_DogError) = some true
  x_TooMany_TooMany : PySem.W.exmOne K (.ref C_TooMany) (.ref C_TooMany) = some true
  x_TooMany_InvalidText : PySem.W.exmOne K (.ref C_TooMany) (.ref C_InvalidText) = some false
  x_InvalidRun_InvalidDrill : PySem.W.exmOne K (.ref C_InvalidRun) (.ref C_InvalidDrill) = some false
  x_InvalidRun_InvalidBeginning : PySem.W.exmOne K (.ref C_InvalidRun) (.ref C_InvalidBeginning) = some false
  x_InvalidRun_InvalidMany : PySem.W.exmOne K (.ref C_InvalidRun) (.ref C_InvalidMany) = some false
  x_InvalidRun_InvalidSheep : PySem.W.exmOne K (.ref C_InvalidRun) (.ref C_InvalidSheep) = some false
  x_InvalidRun_InvalidPlace : PySem.W.exmOne K (.ref C_InvalidRun) (.ref C_InvalidPlace) = some false
  x_InvalidRun_InvalidRun : PySem.W.exmOne K (.ref C_InvalidRun) (.ref C_InvalidRun) = some true
  x_InvalidRun_InvalidIndex : PySem.W.exmOne K (.ref C_InvalidRun) (.ref C_InvalidIndex) = some false
  x_InvalidRun_Unlike : PySem.W.exmOne K (.ref C_InvalidRun) (.ref C_Unlike) = some false
  x_InvalidRun_NothingToUndo : PySem.W.exmOne K (.ref C_InvalidRun) (.ref C_NothingToUndo) = some false
  x_InvalidRun_DogError : PySem.W.exmOne K (.ref C_InvalidRun) (.ref C_DogError) = some true
  x_InvalidRun_TooMany : PySem.W.exmOne K (.ref C_InvalidRun) (.ref C_TooMany) = some false
  x_InvalidRun_InvalidText : PySem.W.exmOne K (.ref C_InvalidRun) (.ref C_InvalidText) = some false
  x_InvalidPlace_InvalidDrill : PySem.W.exmOne K (.ref C_InvalidPlace) (.ref C_InvalidDrill) = some false
  x_InvalidPlace_InvalidBeginning : PySem.W.exmOne K (.ref C_InvalidPlace) (.ref C_InvalidBeginning) = some false
  x_InvalidPlace_InvalidMany : PySem.W.exmOne K (.ref C_InvalidPlace) (.ref C_InvalidMany) = some false
  x_InvalidPlace_InvalidSheep : PySem.W.exmOne K (.ref C_InvalidPlace) (.ref C_InvalidSheep) = some false
  x_InvalidPlace_InvalidPlace : PySem.W.exmOne K (.ref C_InvalidPlace) (.ref C_InvalidPlace) = some true
  x_InvalidPlace_InvalidRun : PySem.W.exmOne K (.ref C_InvalidPlace) (.ref C_InvalidRun) = some false
  x_InvalidPlace_InvalidIndex : PySem.W.exmOne K (.ref C_InvalidPlace) (.ref C_InvalidIndex) = some false
  x_InvalidPlace_Unlike : PySem.W.exmOne K (.ref C_InvalidPlace) (.ref C_Unlike) = some false
  x_InvalidPlace_NothingToUndo : PySem.W.exmOne K (.ref C_InvalidPlace) (.ref C_NothingToUndo) = some false
  x_InvalidPlace_DogError : PySem.W.exmOne K (.ref C_InvalidPlace) (.ref C_DogError) = some true
  x_InvalidPlace_TooMany : PySem.W.exmOne K (.ref C_InvalidPlace) (.ref C_TooMany) = some false
  x_InvalidPlace_InvalidText : PySem.W.exmOne K (.ref C_InvalidPlace) (.ref C_InvalidText) = some false
  x_NothingToUndo_InvalidDrill : PySem.W.exmOne K (.ref C_NothingToUndo) (.ref C_InvalidDrill) = some false
  x_NothingToUndo_InvalidBeginning : PySem.W.exmOne K (.ref C_NothingToUndo) (.ref C_InvalidBeginning) = some false
  x_NothingToUndo_InvalidMany : PySem.W.exmOne K (.ref C_NothingToUndo) (.ref C_InvalidMany) = some false
  x_NothingToUndo_InvalidSheep : PySem.W.exmOne K (.ref C_NothingToUndo) (.ref C_InvalidSheep) = some false
  x_NothingToUndo_InvalidPlace : PySem.W.exmOne K (.ref C_NothingToUndo) (.ref C_InvalidPlace) = some false
  x_NothingToUndo_InvalidRun : PySem.W.exmOne K (.ref C_NothingToUndo) (.ref C_InvalidRun) = some false
  x_NothingToUndo_InvalidIndex : PySem.W.exmOne K (.ref C_NothingToUndo) (.ref C_InvalidIndex) = some false
  x_NothingToUndo_Unlike : PySem.W.exmOne K (.ref C_NothingToUndo) (.ref C_Unlike) = some false
  x_NothingToUndo_NothingToUndo : PySem.W.exmOne K (.ref C_NothingToUndo) (.ref C_NothingToUndo) = some true
  x_NothingToUndo_DogError : PySem.W.exmOne K (.ref C_NothingToUndo) (.ref C_DogError) = some true
  x_NothingToUndo_TooMany : PySem.W.exmOne K (.ref C_NothingToUndo) (.ref C_TooMany) = some false
  x_NothingToUndo_InvalidText : PySem.W.exmOne K (.ref C_NothingToUndo) (.ref C_InvalidText) = some false
  x_InvalidSheep_InvalidDrill : PySem.W.exmOne K (.ref C_InvalidSheep) (.ref C_InvalidDrill) = some false
  x_InvalidSheep_InvalidBeginning : PySem.W.exmOne K (.ref C_InvalidSheep) (.ref C_InvalidBeginning) = some false
  x_InvalidSheep_InvalidMany : PySem.W.exmOne K (.ref C_InvalidSheep) (.ref C_InvalidMany) = some false
  x_InvalidSheep_InvalidSheep : PySem.W.exmOne K (.ref C_InvalidSheep) (.ref C_InvalidSheep) = some true
  x_InvalidSheep_InvalidPlace : PySem.W.exmOne K (.ref C_InvalidSheep) (.ref C_InvalidPlace) = some false
  x_InvalidSheep_InvalidRun : PySem.W.exmOne K (.ref C_InvalidSheep) (.ref C_InvalidRun) = some false
  x_InvalidSheep_InvalidIndex : PySem.W.exmOne K (.ref C_InvalidSheep) (.ref C_InvalidIndex) = some false
  x_InvalidSheep_Unlike : PySem.W.exmOne K (.ref C_InvalidSheep) (.ref C_Unlike) = some false
  x_InvalidSheep_NothingToUndo : PySem.W.exmOne K (.ref C_InvalidSheep) (.ref C_NothingToUndo) = some false
  x_InvalidSheep_DogError : PySem.W.exmOne K (.ref C_InvalidSheep) (.ref C_DogError) = some true
  x_InvalidSheep_TooMany : PySem.W.exmOne K (.ref C_InvalidSheep) (.ref C_TooMany) = some false
  x_InvalidSheep_InvalidText : PySem.W.exmOne K (.ref C_InvalidSheep) (.ref C_InvalidText) = some false
  v_l_word : Value
  w_word : LWord K mg "_law_word" "_law_call_here" s_l_word ["_law_call_here", "_law_found", "e"] f_l_word v_l_word
  t_GREAT : Tok
  g_GREAT : mg "GREAT" = some (.int 1000000000000000000000000000000 t_GREAT)
  t_FAR : Tok
  g_FAR : mg "FAR" = some (.int 1000000000000 t_FAR)
  t_MOST_SHEEP : Tok
  g_MOST_SHEEP : mg "MOST_SHEEP" = some (.int 40 t_MOST_SHEEP)
  t_WIDEST : Tok
  g_WIDEST : mg "WIDEST" = some (.int 9 t_WIDEST)
  t_DEEPEST : Tok
  g_DEEPEST : mg "DEEPEST" = some (.int 3 t_DEEPEST)
  z_abs : mg "abs" = none
  z_bool : mg "bool" = none
  z_enumerate : mg "enumerate" = none
  z_int : mg "int" = none
  z_isinstance : mg "isinstance" = none
  z_len : mg "len" = none
  z_list : mg "list" = none
  z_max : mg "max" = none
  z_min : mg "min" = none
  z_range : mg "range" = none
  z_sorted : mg "sorted" = none
  z_str : mg "str" = none
  z_tuple : mg "tuple" = none
  z_zip : mg "zip" = none
section
variable {P : Program} {w : World} {K : PySem.W.Frag} {mg : Str → Option Value} {base : Heap}
theorem hu65 {A : Around} {k : Nat} (hr : Room k A) : A.units + 65 < cLine := by have := hr.un; omega
theorem ok_ini_TooMany (M : Md K mg) : FnOk P w K mg base (L2.CX P w) 1 M.I_TooMany (PySem.W.fnOf "__init__" "TooMany.__init__" (defArgs s_ini_TooMany) (defBody s_ini_TooMany) (defScope s_ini_TooMany) .none M.oi2_TooMany M.oi3_TooMany M.oi4_TooMany M.ui2_TooMany M.oi5_TooMany M.oi6_TooMany) ["self", "limit"] (spI "limit" M.C_TooMany) :=
  fn_ini M.lkI_TooMany M.cdI_TooMany sc_ini_TooMany rfl M.T_TooMany M.no_TooMany "too many calls" (fun A outer s H E hr => pss_cons (ps_expr (pe_baseinit M.B_DogError (pa_cons (pe_var rfl (by first | exact Or.inl rfl | exact Or.inr (Or.inl rfl))) (pa_cons pe_str pa_nil)))) (pss_one (ps_ost (pe_var rfl (by first | exact Or.inl rfl | exact Or.inr (Or.inl rfl))) (pe_var rfl (by first | exact Or.inl rfl | exact Or.inr (Or.inl rfl))))))
theorem give_word {X : Cx} (M : Md X.K X.mg) (q : Str) (cdg : Value) : LamX.GivesTo X ["_law_call_here", "_law_found", "e"] "_law_word" (defScope s_l_word) M.f_l_word cdg (defBody s_l_word) "_law_call_here" q (TTd X.K (S_l_word ["InvalidBeginning", "InvalidDrill", "TooMany", "InvalidRun", "InvalidPlace", "NothingToUndo", "InvalidSheep"])) :=
  gives_D (n := 3) rfl (fun s H f G0 la0 c act => (dss_cons (ds_set 1 sc_l_word.nd (dl_dat de_str))
  (dss_cons (ds_tryF rfl rfl takes0 (fun W pn xe tk _ => dss_one (ds_expr (act W pn xe _ _ tk))) (.only ⟨rfl, by decide, .inl M.e_InvalidDrill.g⟩ (exq_cons M.e_InvalidBeginning.n M.x_InvalidBeginning_InvalidDrill (by decide) (exq_cons M.e_InvalidDrill.n M.x_InvalidDrill_InvalidDrill (by decide) (exq_cons M.n_TooMany M.x_TooMany_InvalidDrill (by decide) (exq_cons M.e_InvalidRun.n M.x_InvalidRun_InvalidDrill (by decide) (exq_cons M.e_InvalidPlace.n M.x_InvalidPlace_InvalidDrill (by decide) (exq_cons M.e_NothingToUndo.n M.x_NothingToUndo_InvalidDrill (by decide) (exq_cons M.e_InvalidSheep.n M.x_InvalidSheep_InvalidDrill (by decide) exq_nil))))))) (fun _ _ _ => (dss_one (ds_set 1 sc_l_word.nd (dl_dat de_str)))) (.only ⟨rfl, by decide, .inl M.e_InvalidBeginning.g⟩ (exq_cons M.e_InvalidBeginning.n M.x_InvalidBeginning_InvalidBeginning (by decide) (exq_cons M.e_InvalidDrill.n M.x_InvalidDrill_InvalidBeginning (by decide) (exq_cons M.n_TooMany M.x_TooMany_InvalidBeginning (by decide) (exq_cons M.e_InvalidRun.n M.x_InvalidRun_InvalidBeginning (by decide) (exq_cons M.e_InvalidPlace.n M.x_InvalidPlace_InvalidBeginning (by decide) (exq_cons M.e_NothingToUndo.n M.x_NothingToUndo_InvalidBeginning (by decide) (exq_cons M.e_InvalidSheep.n M.x_InvalidSheep_InvalidBeginning (by decide) exq_nil))))))) (fun _ _ _ => (dss_one (ds_set 1 sc_l_word.nd (dl_dat de_str)))) (.only ⟨rfl, by decide, .inl M.e_InvalidMany.g⟩ (exq_cons M.e_InvalidBeginning.n M.x_InvalidBeginning_InvalidMany (by decide) (exq_cons M.e_InvalidDrill.n M.x_InvalidDrill_InvalidMany (by decide) (exq_cons M.n_TooMany M.x_TooMany_InvalidMany (by decide) (exq_cons M.e_InvalidRun.n M.x_InvalidRun_InvalidMany (by decide) (exq_cons M.e_InvalidPlace.n M.x_InvalidPlace_InvalidMany (by decide) (exq_cons M.e_NothingToUndo.n M.x_NothingToUndo_InvalidMany (by decide) (exq_cons M.e_InvalidSheep.n M.x_InvalidSheep_InvalidMany (by decide) exq_nil))))))) (fun _ _ _ => (dss_one (ds_set 1 sc_l_word.nd (dl_dat de_str)))) (.only ⟨rfl, by decide, .inl M.e_InvalidSheep.g⟩ (exq_cons M.e_InvalidBeginning.n M.x_InvalidBeginning_InvalidSheep (by decide) (exq_cons M.e_InvalidDrill.n M.x_InvalidDrill_InvalidSheep (by decide) (exq_cons M.n_TooMany M.x_TooMany_InvalidSheep (by decide) (exq_cons M.e_InvalidRun.n M.x_InvalidRun_InvalidSheep (by decide) (exq_cons M.e_InvalidPlace.n M.x_InvalidPlace_InvalidSheep (by decide) (exq_cons M.e_NothingToUndo.n M.x_NothingToUndo_InvalidSheep (by decide) (exq_cons M.e_InvalidSheep.n M.x_InvalidSheep_InvalidSheep (by decide) exq_nil))))))) (fun _ _ _ => (dss_one (ds_set 1 sc_l_word.nd (dl_dat de_str)))) (.only ⟨rfl, by decide, .inl M.e_InvalidPlace.g⟩ (exq_cons M.e_InvalidBeginning.n M.x_InvalidBeginning_InvalidPlace (by decide) (exq_cons M.e_InvalidDrill.n M.x_InvalidDrill_InvalidPlace (by decide) (exq_cons M.n_TooMany M.x_TooMany_InvalidPlace (by decide) (exq_cons M.e_InvalidRun.n M.x_InvalidRun_InvalidPlace (by decide) (exq_cons M.e_InvalidPlace.n M.x_InvalidPlace_InvalidPlace (by decide) (exq_cons M.e_NothingToUndo.n M.x_NothingToUndo_InvalidPlace (by decide) (exq_cons M.e_InvalidSheep.n M.x_InvalidSheep_InvalidPlace (by decide) exq_nil))))))) (fun _ _ _ => (dss_one (ds_set 1 sc_l_word.nd (dl_dat de_str)))) (.only ⟨rfl, by decide, .inl M.e_InvalidRun.g⟩ (exq_cons M.e_InvalidBeginning.n M.x_InvalidBeginning_InvalidRun (by decide) (exq_cons M.e_InvalidDrill.n M.x_InvalidDrill_InvalidRun (by decide) (exq_cons M.n_TooMany M.x_TooMany_InvalidRun (by decide) (exq_cons M.e_InvalidRun.n M.x_InvalidRun_InvalidRun (by decide) (exq_cons M.e_InvalidPlace.n M.x_InvalidPlace_InvalidRun (by decide) (exq_cons M.e_NothingToUndo.n M.x_NothingToUndo_InvalidRun (by decide) (exq_cons M.e_InvalidSheep.n M.x_InvalidSheep_InvalidRun (by decide) exq_nil))))))) (fun _ _ _ => (dss_one (ds_set 1 sc_l_word.nd (dl_dat de_str)))) (.only ⟨rfl, by decide, .inl M.e_InvalidIndex.g⟩ (exq_cons M.e_InvalidBeginning.n M.x_InvalidBeginning_InvalidIndex (by decide) (exq_cons M.e_InvalidDrill.n M.x_InvalidDrill_InvalidIndex (by decide) (exq_cons M.n_TooMany M.x_TooMany_InvalidIndex (by decide) (exq_cons M.e_InvalidRun.n M.x_InvalidRun_InvalidIndex (by decide) (exq_cons M.e_InvalidPlace.n M.x_InvalidPlace_InvalidIndex (by decide) (exq_cons M.e_NothingToUndo.n M.x_NothingToUndo_InvalidIndex (by decide) (exq_cons M.e_InvalidSheep.n M.x_InvalidSheep_InvalidIndex (by decide) exq_nil))))))) (fun _ _ _ => (dss_one (ds_set 1 sc_l_word.nd (dl_dat de_str)))) (.only ⟨rfl, by decide, .inl M.e_Unlike.g⟩ (exq_cons M.e_InvalidBeginning.n M.x_InvalidBeginning_Unlike (by decide) (exq_cons M.e_InvalidDrill.n M.x_InvalidDrill_Unlike (by decide) (exq_cons M.n_TooMany M.x_TooMany_Unlike (by decide) (exq_cons M.e_InvalidRun.n M.x_InvalidRun_Unlike (by decide) (exq_cons M.e_InvalidPlace.n M.x_InvalidPlace_Unlike (by decide) (exq_cons M.e_NothingToUndo.n M.x_NothingToUndo_Unlike (by decide) (exq_cons M.e_InvalidSheep.n M.x_InvalidSheep_Unlike (by decide) exq_nil))))))) (fun _ _ _ => (dss_one (ds_set 1 sc_l_word.nd (dl_dat de_str)))) (.only ⟨rfl, by decide, .inl M.e_NothingToUndo.g⟩ (exq_cons M.e_InvalidBeginning.n M.x_InvalidBeginning_NothingToUndo (by decide) (exq_cons M.e_InvalidDrill.n M.x_InvalidDrill_NothingToUndo (by decide) (exq_cons M.n_TooMany M.x_TooMany_NothingToUndo (by decide) (exq_cons M.e_InvalidRun.n M.x_InvalidRun_NothingToUndo (by decide) (exq_cons M.e_InvalidPlace.n M.x_InvalidPlace_NothingToUndo (by decide) (exq_cons M.e_NothingToUndo.n M.x_NothingToUndo_NothingToUndo (by decide) (exq_cons M.e_InvalidSheep.n M.x_InvalidSheep_NothingToUndo (by decide) exq_nil))))))) (fun _ _ _ => (dss_one (ds_set 1 sc_l_word.nd (dl_dat de_str)))) (.named (i := 2) (j := 1) (w := "full") (f := "limit") ⟨rfl, by decide, .inl M.c_TooMany⟩ sc_l_word.nd rfl rfl (exq_cons M.e_InvalidBeginning.n M.x_InvalidBeginning_TooMany (by decide) (exq_cons M.e_InvalidDrill.n M.x_InvalidDrill_TooMany (by decide) (exq_cons M.n_TooMany M.x_TooMany_TooMany (by decide) (exq_cons M.e_InvalidRun.n M.x_InvalidRun_TooMany (by decide) (exq_cons M.e_InvalidPlace.n M.x_InvalidPlace_TooMany (by decide) (exq_cons M.e_NothingToUndo.n M.x_NothingToUndo_TooMany (by decide) (exq_cons M.e_InvalidSheep.n M.x_InvalidSheep_TooMany (by decide) exq_nil))))))) M.n_TooMany rfl (fun a o cls d pn z f => pss_one (ps_set sc_l_word.nd rfl (by first | exact Or.inl rfl | exact Or.inr rfl) (pe_op op_add_str pe_str (pe_callTy call_str_int rfl M.z_str bt_str (pa_cons (pe_xf (M.FA ("TooMany", "limit") (by simp [fldN]) _ M.n_TooMany).1 (M.FA ("TooMany", "limit") (by simp [fldN]) _ M.n_TooMany).2 z f (pe_var rfl (by first | exact Or.inl rfl | exact Or.inr (Or.inl rfl) | exact Or.inr (Or.inr rfl)))) pa_nil))))) (.named (i := 2) (j := 1) (w := "text") (f := "line") ⟨rfl, by decide, .inl M.c_InvalidText⟩ sc_l_word.nd rfl rfl (exq_cons M.e_InvalidBeginning.n M.x_InvalidBeginning_InvalidText (by decide) (exq_cons M.e_InvalidDrill.n M.x_InvalidDrill_InvalidText (by decide) (exq_cons M.n_TooMany M.x_TooMany_InvalidText (by decide) (exq_cons M.e_InvalidRun.n M.x_InvalidRun_InvalidText (by decide) (exq_cons M.e_InvalidPlace.n M.x_InvalidPlace_InvalidText (by decide) (exq_cons M.e_NothingToUndo.n M.x_NothingToUndo_InvalidText (by decide) (exq_cons M.e_InvalidSheep.n M.x_InvalidSheep_InvalidText (by decide) exq_nil))))))) M.n_InvalidText rfl (fun a o cls d pn z f => pss_one (ps_set sc_l_word.nd rfl (by first | exact Or.inl rfl | exact Or.inr rfl) (pe_op op_add_str pe_str (pe_callTy call_str_int rfl M.z_str bt_str (pa_cons (pe_xf (M.FA ("InvalidText", "line") (by simp [fldN]) _ M.n_InvalidText).1 (M.FA ("InvalidText", "line") (by simp [fldN]) _ M.n_InvalidText).2 z f (pe_var rfl (by first | exact Or.inl rfl | exact Or.inr (Or.inl rfl) | exact Or.inr (Or.inr rfl)))) pa_nil))))) (.only ⟨rfl, by decide, .inl M.e_DogError.g⟩ (exq_cons M.e_InvalidBeginning.n M.x_InvalidBeginning_DogError (by decide) (exq_cons M.e_InvalidDrill.n M.x_InvalidDrill_DogError (by decide) (exq_cons M.n_TooMany M.x_TooMany_DogError (by decide) (exq_cons M.e_InvalidRun.n M.x_InvalidRun_DogError (by decide) (exq_cons M.e_InvalidPlace.n M.x_InvalidPlace_DogError (by decide) (exq_cons M.e_NothingToUndo.n M.x_NothingToUndo_DogError (by decide) (exq_cons M.e_InvalidSheep.n M.x_InvalidSheep_DogError (by decide) exq_nil))))))) (fun _ _ _ => (dss_one (ds_set 1 sc_l_word.nd (dl_dat de_str)))) .nil)))))))))))))
  (dss_one (ds_ret (dl_dat (de_var 1))))))) (fun f G0 la0 c T Q h => h_l_word _ f G0 la0 c T Q h)
theorem ok_is_int (M : Md K mg) : FnOk P w K mg base (L2.CX P w) 1 M.f_is_int M.d_is_int ["value", "low", "high"] (spD K 3 S_is_int) :=
  fn_D M.F_is_int sc_is_int rfl (fun cdv A outer s H E hr => (dss_one (ds_ret (dl_dat (de_and (de_cb call_isi c_isi M.z_isinstance bt_isinstance (da_cons (dl_dat (de_var 0)) (da_cons (dl_dat (de_ty M.z_int bt_int)) da_nil))) (de_and (de_not (de_cb call_isi c_isi M.z_isinstance bt_isinstance (da_cons (dl_dat (de_var 0)) (da_cons (dl_dat (de_ty M.z_bool bt_bool)) da_nil)))) (de_one (de_chain op_le op_le g_le g_le (de_var 1) (de_var 0) (de_var 2))))))))) h_is_int
theorem ok_pushed (M : Md K mg) : FnOk P w K mg base (L2.CX P w) 1 M.f_pushed M.d_pushed ["gap", "places", "sheep", "steps"] (spD K 4 S_pushed) :=
  fn_D M.F_pushed sc_pushed rfl (fun cdv A outer s H E hr => (dss_cons (ds_set 4 sc_pushed.nd (dl_listN M.z_list (da_cons (dl_dat (de_var 1)) da_nil)))
  (dss_cons (ds_setix 4 (de_bin op_addA g_add (de_ixO 4 (de_var 2)) (de_var 3)) (de_var 2))
  (dss_cons (ds_for (passes_of rfl) rfl (di_range2 M.z_range (da_cons (dl_dat (de_bin op_addA g_add (de_var 2) de_int)) (da_cons (dl_dat (de_lenO 4 M.z_len)) da_nil))) (dg_name 5 sc_pushed.nd) (dss_one (ds_setix 4 (de_cb (call_max2 rfl) c_max2 M.z_max bt_max (da_cons (dl_dat (de_ixO 4 (de_var 5))) (da_cons (dl_dat (de_bin op_addA g_add (de_ixO 4 (de_bin op_sub g_sub (de_var 5) de_int)) (de_var 0))) da_nil))) (de_var 5))))
  (dss_one (ds_ret (dl_dat (de_cty call_tuple_of c_tuple M.z_tuple bt_tuple (da_cons (dl_dat (de_var 4)) da_nil))))))))) h_pushed
theorem ok_Lane_gap (M : Md K mg) : FnOk P w K mg base (L2.CX P w) 1 M.f_Lane_gap M.d_Lane_gap ["self"] (spD K 1 S_Lane_gap) :=
  fn_D M.F_Lane_gap sc_Lane_gap rfl (fun cdv A outer s H E hr => (dss_one (ds_ret (dl_dat (de_fldO M.I_Lane M.na_Lane_space (dl_var 0)))))) h_Lane_gap
theorem ok_Lane_places (M : Md K mg) : FnOk P w K mg base (L2.CX P w) 1 M.f_Lane_places M.d_Lane_places ["self"] (spD K 1 S_Lane_places) :=
  fn_D M.F_Lane_places sc_Lane_places rfl (fun cdv A outer s H E hr => (dss_one (ds_ret (dl_dat (de_ix (de_fldO M.I_Lane M.na_Lane_now (dl_var 0)) de_int))))) h_Lane_places
theorem ok_Lane_runs (M : Md K mg) : FnOk P w K mg base (L2.CX P w) 1 M.f_Lane_runs M.d_Lane_runs ["self"] (spD K 1 S_Lane_runs) :=
  fn_D M.F_Lane_runs sc_Lane_runs rfl (fun cdv A outer s H E hr => (dss_one (ds_ret (dl_dat (de_ix (de_fldO M.I_Lane M.na_Lane_now (dl_var 0)) de_int))))) h_Lane_runs
theorem ok_Lane_undo (M : Md K mg) : FnOk P w K mg base (L2.CX P w) 1 M.f_Lane_undo M.d_Lane_undo ["self"] (spD K 1 S_Lane_undo) :=
  fn_D M.F_Lane_undo sc_Lane_undo rfl (fun cdv A outer s H E hr => (dss_cons (ds_if (dt_cmp (op_eqP hr.units) g_eq (de_fldO M.I_Lane M.na_Lane_past (dl_var 0)) (de_tup da_nil) (nomark _)) (dss_one (ds_raise rfl (takes_of rfl rfl rfl rfl) M.e_NothingToUndo)) dss_nil)
  (dss_cons (ds_fldO M.I_Lane M.na_Lane_now (dl_var 0) (de_ix (de_fldO M.I_Lane M.na_Lane_past (dl_var 0)) (de_neg de_int)))
  (dss_one (ds_fldO M.I_Lane M.na_Lane_past (dl_var 0) (de_sl (de_fldO M.I_Lane M.na_Lane_past (dl_var 0)) do_none (do_some (de_neg de_int)))))))) h_Lane_undo
theorem own_Lane_undo {X : Cx} {K : PySem.W.Frag} {mg : Str → Option Value} (M : Md K mg) (hK : X.K = K := by rfl) (hm : X.mg = mg := by rfl) : OwnF X M.C_Lane "undo" M.f_Lane_undo 1 1 S_Lane_undo := by
  subst hK hm
  exact OwnF.of (ok_Lane_undo M) M.b_Lane_undo M.at_Lane_undo M.fn_Lane_undo M.fi_Lane_undo M.kp_Lane_undo
theorem ok_Lane_contains_u (M : Md K mg) : FnOk P w K mg base (L2.CX P w) 1 M.f_Lane_contains_u M.d_Lane_contains_u ["self", "value"] (spD K 2 S_Lane_contains_u) :=
  fn_D M.F_Lane_contains_u sc_Lane_contains_u rfl (fun cdv A outer s H E hr => (dss_one (ds_ret (dl_dat (de_and (de_cb call_isi c_isi M.z_isinstance bt_isinstance (da_cons (dl_dat (de_var 1)) (da_cons (dl_dat (de_ty M.z_int bt_int)) da_nil))) (de_and (de_not (de_cb call_isi c_isi M.z_isinstance bt_isinstance (da_cons (dl_dat (de_var 1)) (da_cons (dl_dat (de_ty M.z_bool bt_bool)) da_nil)))) (de_one (de_cmp (op_inP hr.units) (g_in false) (de_var 1) (de_ix (de_fldO M.I_Lane M.na_Lane_now (dl_var 0)) de_int) (by with_unfolding_all rfl))))))))) h_Lane_contains_u
theorem own_Lane_contains_u {X : Cx} {K : PySem.W.Frag} {mg : Str → Option Value} (M : Md K mg) (hK : X.K = K := by rfl) (hm : X.mg = mg := by rfl) : OwnF X M.C_Lane "__contains__" M.f_Lane_contains_u 1 2 S_Lane_contains_u := by
  subst hK hm
  exact OwnF.of (ok_Lane_contains_u M) M.b_Lane_contains_u M.at_Lane_contains_u M.fn_Lane_contains_u M.fi_Lane_contains_u M.kp_Lane_contains_u
theorem ok_Lane_len_u (M : Md K mg) : FnOk P w K mg base (L2.CX P w) 1 M.f_Lane_len_u M.d_Lane_len_u ["self"] (spD K 1 S_Lane_len_u) :=
  fn_D M.F_Lane_len_u sc_Lane_len_u rfl (fun cdv A outer s H E hr => (dss_one (ds_ret (dl_dat (de_len M.z_len (da_cons (dl_dat (de_fldO M.I_Lane M.na_Lane_past (dl_var 0))) da_nil)))))) h_Lane_len_u
theorem own_Lane_len_u {X : Cx} {K : PySem.W.Frag} {mg : Str → Option Value} (M : Md K mg) (hK : X.K = K := by rfl) (hm : X.mg = mg := by rfl) : OwnF X M.C_Lane "__len__" M.f_Lane_len_u 1 1 S_Lane_len_u := by
  subst hK hm
  exact OwnF.of (ok_Lane_len_u M) M.b_Lane_len_u M.at_Lane_len_u M.fn_Lane_len_u M.fi_Lane_len_u M.kp_Lane_len_u
theorem ok_Lane_bool_u (M : Md K mg) : FnOk P w K mg base (L2.CX P w) 1 M.f_Lane_bool_u M.d_Lane_bool_u ["self"] (spD K 1 S_Lane_bool_u) :=
  fn_D M.F_Lane_bool_u sc_Lane_bool_u rfl (fun cdv A outer s H E hr => (dss_cons (ds_set 1 sc_Lane_bool_u.nd (dl_dat (de_ix (de_fldO M.I_Lane M.na_Lane_now (dl_var 0)) de_int)))
  (dss_one (ds_ret (dl_dat (de_cty call_bool1 c_bool M.z_bool bt_bool (da_cons (dl_dat (de_cmp (op_eqP hr.units) g_eq (de_comp (own := [("one", 2), ("other", 3)]) rfl sc_Lane_bool_u.nd (di_zip M.z_zip (da_cons (dl_dat (de_var 1)) (da_cons (dl_dat (de_sl (de_var 1) (do_some de_int) do_none)) da_nil))) (by kernel_rfl) (fun _ _ _ _ _ => (dg_tup rfl (dgs_cons (dg_name 2 sc_Lane_bool_u.nd) (dgs_cons (dg_name 3 sc_Lane_bool_u.nd) dgs_nil)))) (fun _ _ _ _ _ => (dts_one (dt_cmp (op_neP hr.units) g_ne (de_bin op_sub g_sub (de_var 3) (de_var 2)) (de_fldO M.I_Lane M.na_Lane_space (dl_var 0)) (nomark _)))) (fun _ _ _ _ _ => de_int)) (de_lst da_nil) (nomark _))) da_nil))))))) h_Lane_bool_u
theorem own_Lane_bool_u {X : Cx} {K : PySem.W.Frag} {mg : Str → Option Value} (M : Md K mg) (hK : X.K = K := by rfl) (hm : X.mg = mg := by rfl) : OwnF X M.C_Lane "__bool__" M.f_Lane_bool_u 1 1 S_Lane_bool_u := by
  subst hK hm
  exact OwnF.of (ok_Lane_bool_u M) M.b_Lane_bool_u M.at_Lane_bool_u M.fn_Lane_bool_u M.fi_Lane_bool_u M.kp_Lane_bool_u
theorem gfn_Lane_lots {X : Cx} {K : PySem.W.Frag} {mg : Str → Option Value} (M : Md K mg) (hK : X.K = K := by rfl) (hm : X.mg = mg := by rfl) : GFn X.prog X.w X.K X.mg X.base 1 M.f_Lane_lots (PySem.W.fnOf "lots" "Lane.lots" (defArgs s_Lane_lots) (defBody s_Lane_lots) (defScope s_Lane_lots) .none M.o2_Lane_lots M.o3_Lane_lots M.o4_Lane_lots M.u2_Lane_lots M.o6_Lane_lots M.o5_Lane_lots) ["self"] (spG X.K 1 S_Lane_lots) := by
  subst hK hm
  exact fn_G M.lk_Lane_lots M.cd_Lane_lots sc_Lane_lots rfl (fun A outer s H E pn hr => (dgn_cons (dg_pl (W := W0) (ds_par2 2 3 rfl sc_Lane_lots.nd (da_cons (dl_dat (de_ix (de_fldO M.I_Lane M.na_Lane_now (dl_var 0)) de_int)) (da_cons (dl_dat de_int) da_nil))))
  (dgn_cons (dg_for (W := W0) owns_gcx rfl (di_range1 M.z_range (da_cons (dl_dat (de_len M.z_len (da_cons (dl_dat (de_var 2)) da_nil))) da_nil)) (dg_name 1 sc_Lane_lots.nd) (dgn_cons (dg_if (W := W0) (dw (dw_or (dt_cmp (op_eqP hr.units) g_eq (de_bin op_addA g_add (de_var 1) de_int) (de_len M.z_len (da_cons (dl_dat (de_var 2)) da_nil)) (nomark _)) (dw_or1 (dt_cmp (op_neP hr.units) g_ne (de_bin op_sub g_sub (de_ix (de_var 2) (de_bin op_addA g_add (de_var 1) de_int)) (de_ix (de_var 2) (de_var 1))) (de_fldO M.I_Lane M.na_Lane_space (dl_var 0)) (nomark _))))) (dgn_cons (dg_yield (W := W0) (de_bin op_addA g_add (de_bin op_addA g_add (de_cty cr_str c_str M.z_str bt_str (da_cons (dl_dat (de_ix (de_var 2) (de_var 3))) da_nil)) de_str) (de_cty cr_str c_str M.z_str bt_str (da_cons (dl_dat (de_bin op_sub g_sub (de_bin op_addA g_add (de_var 1) de_int) (de_var 3))) da_nil))))
  (dgn_cons (dg_pl (W := W0) (ds_set 3 sc_Lane_lots.nd (dl_dat (de_bin op_addA g_add (de_var 1) de_int))))
  dgn_nil)) dgn_nil)
  dgn_nil))
  dgn_nil))) h_Lane_lots
theorem gbn_Lane_lots {X : Cx} {K : PySem.W.Frag} {mg : Str → Option Value} (M : Md K mg) (hK : X.K = K := by rfl) (hm : X.mg = mg := by rfl) : Binds X.K (PySem.W.fnOf "lots" "Lane.lots" (defArgs s_Lane_lots) (defBody s_Lane_lots) (defScope s_Lane_lots) .none M.o2_Lane_lots M.o3_Lane_lots M.o4_Lane_lots M.u2_Lane_lots M.o6_Lane_lots M.o5_Lane_lots) ["self"] [] := by
  subst hK hm
  exact M.b_Lane_lots
theorem ok_Lane_eq_u (M : Md K mg) : FnOk P w K mg base (L2.CX P w) 1 M.f_Lane_eq_u M.d_Lane_eq_u ["self", "other"] (spD K 2 S_Lane_eq_u) :=
  fn_D M.F_Lane_eq_u sc_Lane_eq_u rfl (fun cdv A outer s H E hr => (dss_one (ds_ret (dl_dat (de_and (de_isI M.I_Lane M.z_isinstance M.gc_Lane (dl_var 1)) (de_and (de_cmp (op_eqP hr.units) g_eq (de_fldO M.I_Lane M.na_Lane_space (dl_var 0)) (de_fldO M.I_Lane M.na_Lane_space (dl_var 1)) (nomark _)) (de_one (de_cmp (op_eqP hr.units) g_eq (de_fldO M.I_Lane M.na_Lane_now (dl_var 0)) (de_fldO M.I_Lane M.na_Lane_now (dl_var 1)) (nomark _))))))))) h_Lane_eq_u
theorem own_Lane_eq_u {X : Cx} {K : PySem.W.Frag} {mg : Str → Option Value} (M : Md K mg) (hK : X.K = K := by rfl) (hm : X.mg = mg := by rfl) : OwnF X M.C_Lane (PySem.cmpInfo .Eq).2.1 M.f_Lane_eq_u 1 2 S_Lane_eq_u := by
  subst hK hm
  exact OwnF.of (ok_Lane_eq_u M) M.b_Lane_eq_u M.at_Lane_eq_u M.fn_Lane_eq_u M.fi_Lane_eq_u M.kp_Lane_eq_u
theorem ok_l_cart_of (M : Md K mg) : FnOk P w K mg base (L2.CX P w) 1 M.f_l_cart_of M.d_l_cart_of ["_law_script", "_law_k"] (spD K 2 S_l_cart_of) :=
  fn_D M.F_l_cart_of sc_l_cart_of rfl (fun cdv A outer s H E hr => (dss_cons (ds_set 2 sc_l_cart_of.nd (dl_dat (de_bin op_addA g_add (de_bin op_mulB g_mulB de_int (de_var 1)) de_int)))
  (dss_cons (ds_if (dt_cmp op_lt g_lt (de_var 1) (de_len M.z_len (da_cons (dl_dat (de_var 0)) da_nil)) (nomark _)) (dss_one (ds_set 2 sc_l_cart_of.nd (dl_dat (de_bin op_mod g_mod (de_cb call_abs c_abs M.z_abs bt_abs (da_cons (dl_dat (de_cty call_int1 c_int M.z_int bt_int (da_cons (dl_dat (de_ix (de_var 0) (de_var 1))) da_nil))) da_nil)) (de_bin op_mulB g_mulB (de_bin op_mulB g_mulB (de_bin op_mulB g_mulB (de_bin op_pow g_pow de_int de_int) (de_bin op_pow g_pow de_int de_int)) (de_bin op_pow g_pow de_int de_int)) (de_bin op_pow g_pow de_int de_int)))))) (dss_one (ds_if (dt_cmp op_gt g_gt (de_len M.z_len (da_cons (dl_dat (de_var 0)) da_nil)) de_int (nomark _)) (dss_one (ds_set 2 sc_l_cart_of.nd (dl_dat (de_bin op_addA g_add (de_var 2) (de_bin op_mod g_mod (de_cb call_abs c_abs M.z_abs bt_abs (da_cons (dl_dat (de_cty call_int1 c_int M.z_int bt_int (da_cons (dl_dat (de_ix (de_var 0) de_int)) da_nil))) da_nil)) de_int))))) dss_nil)))
  (dss_one (ds_ret (dl_new (da_cons (dl_dat (de_if (dt_cmp op_ge g_ge (de_var 2) (de_bin op_pow g_pow de_int de_int) (nomark _)) (de_var 2) de_int)) (da_cons (dl_dat (de_bin op_addA g_add (de_bin op_mod g_mod (de_cty call_int1 c_int M.z_int bt_int (da_cons (dl_dat (de_bin op_addA g_add (de_bin op_addA g_add (de_bin op_mulB g_mulB (de_bin op_mod g_mod (de_var 2) de_int) de_int) (de_bin op_mulB g_mulB de_int (de_var 1))) de_int)) da_nil)) de_int) de_int)) da_nil)))))))) h_l_cart_of
theorem ok_l_take (M : Md K mg) : FnOk P w K mg base (L2.CX P w) 1 M.f_l_take M.d_l_take ["_law_cart", "_law_many"] (spD K 2 S_l_take) :=
  fn_D M.F_l_take sc_l_take rfl (fun cdv A outer s H E hr => (dss_cons (ds_if (dt_cmp op_gt g_gt (de_ixO 0 de_int) de_int (nomark _)) (dss_cons (ds_set 2 sc_l_take.nd (dl_dat (de_bin op_mod g_mod (de_cty call_int1 c_int M.z_int bt_int (da_cons (dl_dat (de_ixO 0 de_int)) da_nil)) (de_var 1))))
  (dss_cons (ds_setix 0 (de_bin op_fdivW g_div (de_ixO 0 de_int) (de_var 1)) de_int)
  (dss_one (ds_ret (dl_dat (de_var 2)))))) dss_nil)
  (dss_cons (ds_to (de_tup (da_cons (dl_dat de_int) (da_cons (dl_dat de_int) da_nil))) (dg_tup rfl (dgs_cons (dg_name 2 sc_l_take.nd) (dgs_cons (dg_name 3 sc_l_take.nd) dgs_nil))))
  (dss_cons (ds_while (passes_of rfl) (dw (dw_or (dt_cmp op_lt g_lt (de_var 3) (de_var 1) (nomark _)) (dw_or1 (dt_cmp (op_eqP hr.units) g_eq (de_var 3) de_int (nomark _))))) (dss_cons (ds_setix 0 (de_bin op_mod g_mod (de_cty call_int1 c_int M.z_int bt_int (da_cons (dl_dat (de_bin op_addA g_add (de_bin op_mulB g_mulB (de_ixO 0 de_int) de_int) de_int)) da_nil)) de_int) de_int)
  (dss_cons (ds_set 2 sc_l_take.nd (dl_dat (de_bin op_addA g_add (de_bin op_mulB g_mulB (de_var 2) de_int) (de_bin op_mod g_mod (de_cty call_int1 c_int M.z_int bt_int (da_cons (dl_dat (de_bin op_fdivW g_div (de_ixO 0 de_int) de_int)) da_nil)) de_int))))
  (dss_one (ds_set 3 sc_l_take.nd (dl_dat (de_bin op_mulB g_mulB (de_var 3) de_int)))))))
  (dss_one (ds_ret (dl_dat (de_bin op_mod g_mod (de_cty call_int1 c_int M.z_int bt_int (da_cons (dl_dat (de_var 2)) da_nil)) (de_var 1))))))))) h_l_take
theorem ok_l_at (M : Md K mg) : FnOk P w K mg base (L2.CX P w) 1 M.f_l_at M.d_l_at ["_law_gap", "_law_rooms_here"] (spD K 2 S_l_at) :=
  fn_D M.F_l_at sc_l_at rfl (fun cdv A outer s H E hr => (dss_one (ds_ret (dl_dat (de_cty call_tuple_of c_tuple M.z_tuple bt_tuple (da_cons (dl_dat (de_comp (own := [("_law_at_here", 2), ("_law_room", 3)]) rfl sc_l_at.nd (di_enum M.z_enumerate (da_cons (dl_dat (de_var 1)) da_nil)) (by kernel_rfl) (fun _ _ _ _ _ => (dg_tup rfl (dgs_cons (dg_name 2 sc_l_at.nd) (dgs_cons (dg_name 3 sc_l_at.nd) dgs_nil)))) (fun _ _ _ _ _ => dts_nil) (fun _ _ _ _ _ => (de_bin op_addA g_add (de_var 3) (de_bin op_mulB g_mulB (de_var 2) (de_var 0)))))) da_nil)))))) h_l_at
theorem ok_l_closed (M : Md K mg) : FnOk P w K mg base (L2.CX P w) 1 M.f_l_closed M.d_l_closed ["_law_gap", "_law_places"] (spD K 2 S_l_closed) :=
  fn_D M.F_l_closed sc_l_closed rfl (fun cdv A outer s H E hr => (dss_cons (ds_set 2 sc_l_closed.nd (dl_dat (de_tup da_nil)))
  (dss_cons (ds_for (passes_of rfl) rfl (di_seq (de_var 1)) (dg_name 3 sc_l_closed.nd) (dss_cons (ds_if (dw (dw_and (dt_cmp (op_neP hr.units) g_ne (de_var 2) (de_tup da_nil) (nomark _)) (dw_and1 (dt_cmp op_lt g_lt (de_var 3) (de_bin op_addA g_add (de_ix (de_var 2) (de_neg de_int)) (de_var 0)) (nomark _))))) (dss_one (ds_set 3 sc_l_closed.nd (dl_dat (de_bin op_addA g_add (de_ix (de_var 2) (de_neg de_int)) (de_var 0))))) dss_nil)
  (dss_one (ds_set 2 sc_l_closed.nd (dl_dat (de_bin op_addA g_add (de_var 2) (de_tup (da_cons (dl_dat (de_var 3)) da_nil))))))))
  (dss_one (ds_ret (dl_dat (de_var 2))))))) h_l_closed
theorem ok_l_is_deed (M : Md K mg) : FnOk P w K mg base (L2.CX P w) 1 M.f_l_is_deed M.d_l_is_deed ["_law_value"] (spD K 1 S_l_is_deed) :=
  fn_D M.F_l_is_deed sc_l_is_deed rfl (fun cdv A outer s H E hr => (dss_cons (ds_if (dw (dw_or (dt_not (dt_of (de_cb call_isi c_isi M.z_isinstance bt_isinstance (da_cons (dl_dat (de_var 0)) (da_cons (dl_dat (de_ty M.z_tuple bt_tuple)) da_nil))))) (dw_or (dt_cmp op_lt g_lt (de_len M.z_len (da_cons (dl_dat (de_var 0)) da_nil)) de_int (nomark _)) (dw_or1 (dt_cmp (op_inP hr.units) (g_in false) de_non (de_var 0) (by with_unfolding_all rfl)))))) (dss_one (ds_ret (dl_dat de_bl))) dss_nil)
  (dss_cons (ds_if (dt_cmp (op_ninP hr.units) (g_in true) (de_ix (de_var 0) de_int) (de_lst (da_cons (dl_dat de_str) (da_cons (dl_dat de_str) (da_cons (dl_dat de_str) (da_cons (dl_dat de_str) da_nil))))) (by with_unfolding_all rfl)) (dss_one (ds_ret (dl_dat de_bl))) dss_nil)
  (dss_one (ds_ret (dl_dat (de_and (de_cmp op_ge g_ge (de_ix (de_var 0) (de_neg de_int)) (de_cty call_int1 c_int M.z_int bt_int (da_cons (dl_dat (de_cmp (op_neP hr.units) g_ne (de_ix (de_var 0) de_int) de_str (nomark _))) da_nil)) (nomark _)) (de_one (de_cmp (op_eqP hr.units) g_eq (de_len M.z_len (da_cons (dl_dat (de_var 0)) da_nil)) (de_bin op_addA g_add de_int (de_cty call_int1 c_int M.z_int bt_int (da_cons (dl_dat (de_cmp (op_inP hr.units) (g_in false) (de_ix (de_var 0) de_int) (de_lst (da_cons (dl_dat de_str) (da_cons (dl_dat de_str) da_nil))) (by with_unfolding_all rfl))) da_nil))) (nomark _)))))))))) h_l_is_deed
theorem ok_l_lots (M : Md K mg) : FnOk P w K mg base (L2.CX P w) 1 M.f_l_lots M.d_l_lots ["_law_gap", "_law_places"] (spD K 2 S_l_lots) :=
  fn_D M.F_l_lots sc_l_lots rfl (fun cdv A outer s H E hr => (dss_cons (ds_par2 3 4 rfl sc_l_lots.nd (da_cons (dl_new da_nil) (da_cons (dl_dat de_int) da_nil)))
  (dss_cons (ds_for (passes_of rfl) rfl (di_range2 M.z_range (da_cons (dl_dat de_int) (da_cons (dl_dat (de_bin op_addA g_add (de_len M.z_len (da_cons (dl_dat (de_var 1)) da_nil)) de_int)) da_nil))) (dg_name 2 sc_l_lots.nd) (dss_one (ds_if (dw (dw_or (dt_cmp (op_eqP hr.units) g_eq (de_var 2) (de_len M.z_len (da_cons (dl_dat (de_var 1)) da_nil)) (nomark _)) (dw_or1 (dt_cmp (op_neP hr.units) g_ne (de_ix (de_var 1) (de_var 2)) (de_bin op_addA g_add (de_ix (de_var 1) (de_bin op_sub g_sub (de_var 2) de_int)) (de_var 0)) (nomark _))))) (dss_cons (ds_app 3 (de_bin op_addA g_add (de_bin op_addA g_add (de_cty cr_str c_str M.z_str bt_str (da_cons (dl_dat (de_ix (de_var 1) (de_var 4))) da_nil)) de_str) (de_cty cr_str c_str M.z_str bt_str (da_cons (dl_dat (de_bin op_sub g_sub (de_var 2) (de_var 4))) da_nil))))
  (dss_one (ds_set 4 sc_l_lots.nd (dl_dat (de_var 2))))) dss_nil)))
  (dss_one (ds_ret (dl_dat (de_var 3))))))) h_l_lots
theorem ok_is_a_run (M : Md K mg) : FnOk P w K mg base (L2.CX P w) 2 M.f_is_a_run M.d_is_a_run ["value"] (spD K 1 S_is_a_run) :=
  fn_D M.F_is_a_run sc_is_a_run rfl (fun cdv A outer s H E hr => (dss_cons (ds_if (dw (dw_or (dt_not (dt_of (de_cb call_isi c_isi M.z_isinstance bt_isinstance (da_cons (dl_dat (de_var 0)) (da_cons (dl_dat (de_ty M.z_tuple bt_tuple)) da_nil))))) (dw_or (dt_cmp (op_eqP hr.units) g_eq (de_var 0) (de_tup da_nil) (nomark _)) (dw_or1 (dt_not (dt_of (de_cb call_isi c_isi M.z_isinstance bt_isinstance (da_cons (dl_dat (de_ix (de_var 0) de_int)) (da_cons (dl_dat (de_ty M.z_str bt_str)) da_nil))))))))) (dss_one (ds_ret (dl_dat de_bl))) dss_nil)
  (dss_cons (ds_if (dt_cmp (op_eqP hr.units) g_eq (de_ix (de_var 0) de_int) de_str (nomark _)) (dss_one (ds_ret (dl_dat (de_and (de_cmp (op_eqP hr.units) g_eq (de_len M.z_len (da_cons (dl_dat (de_var 0)) da_nil)) de_int (nomark _)) (de_one (de_val (dl_call (ok_is_int M) (hr.mono (by decide)) M.g_is_int M.F_is_int.kp M.b_is_int (takes_of rfl rfl rfl rfl) (da_cons (dl_dat (de_ix (de_var 0) de_int)) (da_cons (dl_dat de_int) (da_cons (dl_dat (de_gint M.g_FAR)) da_nil)))))))))) dss_nil)
  (dss_cons (ds_if (dt_cmp (op_eqP hr.units) g_eq (de_ix (de_var 0) de_int) de_str (nomark _)) (dss_one (ds_ret (dl_dat (de_and (de_cmp (op_eqP hr.units) g_eq (de_len M.z_len (da_cons (dl_dat (de_var 0)) da_nil)) de_int (nomark _)) (de_one (de_val (dl_call (ok_is_int M) (hr.mono (by decide)) M.g_is_int M.F_is_int.kp M.b_is_int (takes_of rfl rfl rfl rfl) (da_cons (dl_dat (de_ix (de_var 0) de_int)) (da_cons (dl_dat de_int) (da_cons (dl_dat (de_gint M.g_FAR)) da_nil)))))))))) dss_nil)
  (dss_cons (ds_if (dw (dw_or (dt_cmp (op_ninP hr.units) (g_in true) (de_ix (de_var 0) de_int) (de_tup (da_cons (dl_dat de_str) (da_cons (dl_dat de_str) da_nil))) (by with_unfolding_all rfl)) (dw_or1 (dt_cmp (op_neP hr.units) g_ne (de_len M.z_len (da_cons (dl_dat (de_var 0)) da_nil)) de_int (nomark _))))) (dss_one (ds_ret (dl_dat de_bl))) dss_nil)
  (dss_one (ds_ret (dl_dat (de_and (de_val (dl_call (ok_is_int M) (hr.mono (by decide)) M.g_is_int M.F_is_int.kp M.b_is_int (takes_of rfl rfl rfl rfl) (da_cons (dl_dat (de_ix (de_var 0) de_int)) (da_cons (dl_dat de_int) (da_cons (dl_dat (de_gint M.g_DEEPEST)) da_nil))))) (de_one (de_val (dl_call (ok_is_int M) (hr.mono (by decide)) M.g_is_int M.F_is_int.kp M.b_is_int (takes_of rfl rfl rfl rfl) (da_cons (dl_dat (de_ix (de_var 0) de_int)) (da_cons (dl_dat de_int) (da_cons (dl_dat (de_gint M.g_FAR)) da_nil))))))))))))))) h_is_a_run
theorem ok_begins (M : Md K mg) : FnOk P w K mg base (L2.CX P w) 2 M.f_begins M.d_begins ["gap", "value"] (spD K 2 S_begins) :=
  fn_D M.F_begins sc_begins rfl (fun cdv A outer s H E hr => (dss_cons (ds_if (dw (dw_or (dt_not (dt_of (de_cb call_isi c_isi M.z_isinstance bt_isinstance (da_cons (dl_dat (de_var 1)) (da_cons (dl_dat (de_ty M.z_tuple bt_tuple)) da_nil))))) (dw_or1 (dt_not (dt_chain op_le op_le g_le g_le de_int (de_len M.z_len (da_cons (dl_dat (de_var 1)) da_nil)) (de_gint M.g_MOST_SHEEP)))))) (dss_one (ds_ret (dl_dat de_bl))) dss_nil)
  (dss_cons (ds_if (dt_cmp (op_neP hr.units) g_ne (de_comp (own := [("place", 2)]) rfl sc_begins.nd (di_seq (de_var 1)) (by kernel_rfl) (fun _ _ _ _ _ => (dg_name 2 sc_begins.nd)) (fun _ _ _ _ _ => (dts_one (dt_not (dt_of (de_val (dl_call (ok_is_int M) (hr.mono (by decide)) M.g_is_int M.F_is_int.kp M.b_is_int takes0' (da_cons (dl_dat (de_var 2)) (da_cons (dl_dat de_int) (da_cons (dl_dat (de_gint M.g_GREAT)) da_nil))))))))) (fun _ _ _ _ _ => (de_var 2))) (de_lst da_nil) (nomark _)) (dss_one (ds_ret (dl_dat de_bl))) dss_nil)
  (dss_one (ds_ret (dl_dat (de_cmp (op_eqP hr.units) g_eq (de_comp (own := [("one", 3), ("other", 4)]) rfl sc_begins.nd (di_zip M.z_zip (da_cons (dl_dat (de_var 1)) (da_cons (dl_dat (de_sl (de_var 1) (do_some de_int) do_none)) da_nil))) (by kernel_rfl) (fun _ _ _ _ _ => (dg_tup rfl (dgs_cons (dg_name 3 sc_begins.nd) (dgs_cons (dg_name 4 sc_begins.nd) dgs_nil)))) (fun _ _ _ _ _ => (dts_one (dt_cmp op_lt g_lt (de_bin op_sub g_sub (de_var 4) (de_var 3)) (de_var 0) (nomark _)))) (fun _ _ _ _ _ => de_int)) (de_lst da_nil) (nomark _)))))))) h_begins
theorem ok_ran (M : Md K mg) : FnOk P w K mg base (L2.CX P w) 2 M.f_ran M.d_ran ["gap", "places", "run"] (spD K 3 S_ran) :=
  fn_D M.F_ran sc_ran rfl (fun cdv A outer s H E hr => (dss_cons (ds_if (dt_cmp (op_eqP hr.units) g_eq (de_ix (de_var 2) de_int) de_str (nomark _)) (dss_one (ds_ret (dl_dat (de_val (dl_call (ok_pushed M) (hr.mono (by decide)) M.g_pushed M.F_pushed.kp M.b_pushed (takes_of rfl rfl rfl rfl) (da_cons (dl_dat (de_var 0)) (da_cons (dl_dat (de_var 1)) (da_cons (dl_dat de_int) (da_cons (dl_dat (de_cb (call_max2 rfl) c_max2 M.z_max bt_max (da_cons (dl_dat de_int) (da_cons (dl_dat (de_bin op_sub g_sub (de_ix (de_var 2) de_int) (de_ix (de_var 1) de_int))) da_nil)))) da_nil))))))))) dss_nil)
  (dss_cons (ds_if (dt_cmp (op_eqP hr.units) g_eq (de_ix (de_var 2) de_int) de_str (nomark _)) (dss_one (ds_ret (dl_dat (de_cty call_tuple_of c_tuple M.z_tuple bt_tuple (da_cons (dl_dat (de_comp (own := [("place", 4)]) rfl sc_ran.nd (di_seq (de_var 1)) (by kernel_rfl) (fun _ _ _ _ _ => (dg_name 4 sc_ran.nd)) (fun _ _ _ _ _ => dts_nil) (fun _ _ _ _ _ => (de_bin op_addA g_add (de_var 4) (de_ix (de_var 2) de_int))))) da_nil))))) dss_nil)
  (dss_cons (ds_set 3 sc_ran.nd (dl_dat (de_if (dt_cmp (op_eqP hr.units) g_eq (de_ix (de_var 2) de_int) de_str (nomark _)) (de_ix (de_var 2) de_int) (de_bin op_sub g_sub (de_bin op_sub g_sub (de_len M.z_len (da_cons (dl_dat (de_var 1)) da_nil)) de_int) (de_ix (de_var 2) de_int)))))
  (dss_cons (ds_if (dt_not (dt_chain op_le op_lt g_le g_lt de_int (de_var 3) (de_len M.z_len (da_cons (dl_dat (de_var 1)) da_nil)))) (dss_one (ds_ret (dl_dat (de_var 1)))) dss_nil)
  (dss_one (ds_ret (dl_dat (de_val (dl_call (ok_pushed M) (hr.mono (by decide)) M.g_pushed M.F_pushed.kp M.b_pushed (takes_of rfl rfl rfl rfl) (da_cons (dl_dat (de_var 0)) (da_cons (dl_dat (de_var 1)) (da_cons (dl_dat (de_var 3)) (da_cons (dl_dat (de_ix (de_var 2) de_int)) da_nil)))))))))))))) h_ran
theorem ok_Lane_getitem_u (M : Md K mg) : FnOk P w K mg base (L2.CX P w) 2 M.f_Lane_getitem_u M.d_Lane_getitem_u ["self", "sheep"] (spD K 2 S_Lane_getitem_u) :=
  fn_D M.F_Lane_getitem_u sc_Lane_getitem_u rfl (fun cdv A outer s H E hr => (dss_cons (ds_if (dt_not (dt_of (de_val (dl_call (ok_is_int M) (hr.mono (by decide)) M.g_is_int M.F_is_int.kp M.b_is_int (takes_of rfl rfl rfl rfl) (da_cons (dl_dat (de_var 1)) (da_cons (dl_dat (de_bin op_sub g_sub de_int (de_len M.z_len (da_cons (dl_dat (de_ix (de_fldO M.I_Lane M.na_Lane_now (dl_var 0)) de_int)) da_nil)))) (da_cons (dl_dat (de_bin op_sub g_sub (de_len M.z_len (da_cons (dl_dat (de_ix (de_fldO M.I_Lane M.na_Lane_now (dl_var 0)) de_int)) da_nil)) de_int)) da_nil))))))) (dss_one (ds_raise rfl (takes_of rfl rfl rfl rfl) M.e_InvalidSheep)) dss_nil)
  (dss_one (ds_ret (dl_dat (de_ix (de_ix (de_fldO M.I_Lane M.na_Lane_now (dl_var 0)) de_int) (de_var 1))))))) h_Lane_getitem_u
theorem own_Lane_getitem_u {X : Cx} {K : PySem.W.Frag} {mg : Str → Option Value} (M : Md K mg) (hK : X.K = K := by rfl) (hm : X.mg = mg := by rfl) : OwnF X M.C_Lane "__getitem__" M.f_Lane_getitem_u 2 2 S_Lane_getitem_u := by
  subst hK hm
  exact OwnF.of (ok_Lane_getitem_u M) M.b_Lane_getitem_u M.at_Lane_getitem_u M.fn_Lane_getitem_u M.fi_Lane_getitem_u M.kp_Lane_getitem_u
theorem ok_l_any (M : Md K mg) : FnOk P w K mg base (L2.CX P w) 2 M.f_l_any M.d_l_any ["_law_cart", "_law_things"] (spD K 2 S_l_any) :=
  fn_D M.F_l_any sc_l_any rfl (fun cdv A outer s H E hr => (dss_one (ds_ret (dl_dat (de_ix (de_var 1) (de_val (dl_call (ok_l_take M) (hr.mono (by decide)) M.g_l_take M.F_l_take.kp M.b_l_take (takes_of rfl rfl rfl rfl) (da_cons (dl_var 0) (da_cons (dl_dat (de_len M.z_len (da_cons (dl_dat (de_var 1)) da_nil))) da_nil))))))))) h_l_any
theorem ok_l_ran (M : Md K mg) : FnOk P w K mg base (L2.CX P w) 2 M.f_l_ran M.d_l_ran ["_law_gap", "_law_places", "_law_run"] (spD K 3 S_l_ran) :=
  fn_D M.F_l_ran sc_l_ran rfl (fun cdv A outer s H E hr => (dss_cons (ds_if (dt_cmp (op_eqP hr.units) g_eq (de_ix (de_var 2) de_int) de_str (nomark _)) (dss_one (ds_ret (dl_dat (de_cty call_tuple_of c_tuple M.z_tuple bt_tuple (da_cons (dl_dat (de_comp (own := [("_law_place", 5)]) rfl sc_l_ran.nd (di_seq (de_var 1)) (by kernel_rfl) (fun _ _ _ _ _ => (dg_name 5 sc_l_ran.nd)) (fun _ _ _ _ _ => dts_nil) (fun _ _ _ _ _ => (de_bin op_addA g_add (de_var 5) (de_ix (de_var 2) de_int))))) da_nil))))) dss_nil)
  (dss_cons (ds_par2 3 4 rfl sc_l_ran.nd (da_cons (dl_dat de_int) (da_cons (dl_dat (de_ix (de_var 2) de_int)) da_nil)))
  (dss_cons (ds_if (dt_cmp (op_neP hr.units) g_ne (de_ix (de_var 2) de_int) de_str (nomark _)) (dss_cons (ds_set 3 sc_l_ran.nd (dl_dat (de_if (dt_cmp (op_eqP hr.units) g_eq (de_ix (de_var 2) de_int) de_str (nomark _)) (de_ix (de_var 2) de_int) (de_bin op_sub g_sub (de_bin op_sub g_sub (de_len M.z_len (da_cons (dl_dat (de_var 1)) da_nil)) de_int) (de_ix (de_var 2) de_int)))))
  (dss_one (ds_set 4 sc_l_ran.nd (dl_dat (de_if (dt_chain op_le op_lt g_le g_lt de_int (de_var 3) (de_len M.z_len (da_cons (dl_dat (de_var 1)) da_nil))) (de_bin op_addA g_add (de_ix (de_var 1) (de_var 3)) (de_ix (de_var 2) de_int)) de_int))))) dss_nil)
  (dss_cons (ds_if (dw (dw_or (dt_not (dt_chain op_le op_lt g_le g_lt de_int (de_var 3) (de_len M.z_len (da_cons (dl_dat (de_var 1)) da_nil)))) (dw_or1 (dt_cmp op_le g_le (de_var 4) (de_ix (de_var 1) (de_var 3)) (nomark _))))) (dss_one (ds_ret (dl_dat (de_var 1)))) dss_nil)
  (dss_one (ds_ret (dl_dat (de_val (dl_call (ok_l_closed M) (hr.mono (by decide)) M.g_l_closed M.F_l_closed.kp M.b_l_closed (takes_of rfl rfl rfl rfl) (da_cons (dl_dat (de_var 0)) (da_cons (dl_dat (de_bin op_addA g_add (de_bin op_addA g_add (de_sl (de_var 1) do_none (do_some (de_var 3))) (de_tup (da_cons (dl_dat (de_var 4)) da_nil))) (de_sl (de_var 1) (do_some (de_bin op_addA g_add (de_var 3) de_int)) do_none))) da_nil)))))))))))) h_l_ran
theorem ok_need_beginning (M : Md K mg) : FnOk P w K mg base (L2.CX P w) 3 M.f_need_beginning M.d_need_beginning ["gap", "value"] (spD K 2 S_need_beginning) :=
  fn_D M.F_need_beginning sc_need_beginning rfl (fun cdv A outer s H E hr => (dss_one (ds_if (dt_not (dt_of (de_val (dl_call (ok_begins M) (hr.mono (by decide)) M.g_begins M.F_begins.kp M.b_begins (takes_of rfl rfl rfl rfl) (da_cons (dl_dat (de_var 0)) (da_cons (dl_dat (de_var 1)) da_nil)))))) (dss_one (ds_raise rfl (takes_of rfl rfl rfl rfl) M.e_InvalidBeginning)) dss_nil))) h_need_beginning
theorem ok_Lane_noted (M : Md K mg) : FnOk P w K mg base (L2.CX P w) 3 M.f_Lane_noted M.d_Lane_noted ["self", "state"] (spD K 2 S_Lane_noted) :=
  fn_D M.F_Lane_noted sc_Lane_noted rfl (fun cdv A outer s H E hr => (dss_cons (ds_if (dt_cmp op_ge g_ge (de_len M.z_len (da_cons (dl_dat (de_fldO M.I_Lane M.na_Lane_past (dl_var 0))) da_nil)) (de_conO M.I_Lane M.ko_Lane_MOST (dl_var 0)) (nomark _)) (dss_one (ds_raiseF rfl (takes_of rfl rfl rfl rfl) M.T_TooMany M.iC_TooMany M.tI_TooMany (ok_ini_TooMany M) (hr.mono (by decide)) M.bI_TooMany M.c_TooMany M.n_TooMany (de_conO M.I_Lane M.ko_Lane_MOST (dl_var 0)))) dss_nil)
  (dss_cons (ds_fldO M.I_Lane M.na_Lane_past (dl_var 0) (de_bin op_addA g_add (de_fldO M.I_Lane M.na_Lane_past (dl_var 0)) (de_tup (da_cons (dl_dat (de_fldO M.I_Lane M.na_Lane_now (dl_var 0))) da_nil))))
  (dss_one (ds_fldO M.I_Lane M.na_Lane_now (dl_var 0) (de_var 1)))))) h_Lane_noted
theorem own_Lane_noted {X : Cx} {K : PySem.W.Frag} {mg : Str → Option Value} (M : Md K mg) (hK : X.K = K := by rfl) (hm : X.mg = mg := by rfl) : OwnF X M.C_Lane "noted" M.f_Lane_noted 3 2 S_Lane_noted := by
  subst hK hm
  exact OwnF.of (ok_Lane_noted M) M.b_Lane_noted M.at_Lane_noted M.fn_Lane_noted M.fi_Lane_noted M.kp_Lane_noted
theorem ok_l_deed (M : Md K mg) : FnOk P w K mg base (L2.CX P w) 3 M.f_l_deed M.d_l_deed ["_law_cart", "_law_wide"] (spD K 2 S_l_deed) :=
  fn_D M.F_l_deed sc_l_deed rfl (fun cdv A outer s H E hr => (dss_cons (ds_par2 2 3 rfl sc_l_deed.nd (da_cons (dl_dat (de_val (dl_call (ok_l_any M) (hr.mono (by decide)) M.g_l_any M.F_l_any.kp M.b_l_any (takes_of rfl rfl rfl rfl) (da_cons (dl_var 0) (da_cons (dl_dat (de_lst (da_cons (dl_dat de_str) (da_cons (dl_dat de_str) (da_cons (dl_dat de_str) (da_cons (dl_dat de_str) (da_cons (dl_dat de_str) (da_cons (dl_dat de_str) da_nil)))))))) da_nil))))) (da_cons (dl_dat (de_val (dl_call (ok_l_any M) (hr.mono (by decide)) M.g_l_any M.F_l_any.kp M.b_l_any (takes_of rfl rfl rfl rfl) (da_cons (dl_var 0) (da_cons (dl_dat (de_lst (da_cons (dl_dat de_int) (da_cons (dl_dat de_int) (da_cons (dl_dat (de_var 1)) da_nil))))) da_nil))))) da_nil)))
  (dss_cons (ds_if (dt_cmp (op_eqP hr.units) g_eq (de_var 2) de_str (nomark _)) (dss_one (ds_ret (dl_dat (de_tup (da_cons (dl_dat (de_var 2)) (da_cons (dl_dat (de_val (dl_call (ok_l_take M) (hr.mono (by decide)) M.g_l_take M.F_l_take.kp M.b_l_take (takes_of rfl rfl rfl rfl) (da_cons (dl_var 0) (da_cons (dl_dat (de_bin op_addA g_add (de_var 3) de_int)) da_nil))))) da_nil)))))) dss_nil)
  (dss_cons (ds_if (dt_cmp (op_eqP hr.units) g_eq (de_var 2) de_str (nomark _)) (dss_one (ds_ret (dl_dat (de_tup (da_cons (dl_dat (de_var 2)) (da_cons (dl_dat (de_bin op_addA g_add de_int (de_val (dl_call (ok_l_take M) (hr.mono (by decide)) M.g_l_take M.F_l_take.kp M.b_l_take (takes_of rfl rfl rfl rfl) (da_cons (dl_var 0) (da_cons (dl_dat (de_var 3)) da_nil)))))) da_nil)))))) dss_nil)
  (dss_one (ds_ret (dl_dat (de_tup (da_cons (dl_dat (de_var 2)) (da_cons (dl_dat (de_val (dl_call (ok_l_any M) (hr.mono (by decide)) M.g_l_any M.F_l_any.kp M.b_l_any (takes_of rfl rfl rfl rfl) (da_cons (dl_var 0) (da_cons (dl_dat (de_lst (da_cons (dl_dat de_int) (da_cons (dl_dat de_int) (da_cons (dl_dat de_int) (da_cons (dl_dat de_int) (da_cons (dl_dat de_int) (da_cons (dl_dat de_int) da_nil)))))))) da_nil))))) (da_cons (dl_dat (de_bin op_addA g_add de_int (de_val (dl_call (ok_l_take M) (hr.mono (by decide)) M.g_l_take M.F_l_take.kp M.b_l_take (takes_of rfl rfl rfl rfl) (da_cons (dl_var 0) (da_cons (dl_dat (de_var 3)) da_nil)))))) da_nil))))))))))) h_l_deed
theorem ok_l_rooms (M : Md K mg) : FnOk P w K mg base (L2.CX P w) 3 M.f_l_rooms M.d_l_rooms ["_law_cart", "_law_many", "_law_wide"] (spD K 3 S_l_rooms) :=
  fn_D M.F_l_rooms sc_l_rooms rfl (fun cdv A outer s H E hr => (dss_cons (ds_par2 4 5 rfl sc_l_rooms.nd (da_cons (dl_dat (de_tup da_nil)) (da_cons (dl_dat (de_val (dl_call (ok_l_take M) (hr.mono (by decide)) M.g_l_take M.F_l_take.kp M.b_l_take (takes_of rfl rfl rfl rfl) (da_cons (dl_var 0) (da_cons (dl_dat (de_bin op_addA g_add (de_var 2) de_int)) da_nil))))) da_nil)))
  (dss_cons (ds_for (passes_of rfl) rfl (di_range1 M.z_range (da_cons (dl_dat (de_var 1)) da_nil)) (dg_name 3 sc_l_rooms.nd) (dss_cons (ds_set 4 sc_l_rooms.nd (dl_dat (de_bin op_addA g_add (de_var 4) (de_tup (da_cons (dl_dat (de_var 5)) da_nil)))))
  (dss_one (ds_set 5 sc_l_rooms.nd (dl_dat (de_bin op_addA g_add (de_var 5) (de_val (dl_call (ok_l_any M) (hr.mono (by decide)) M.g_l_any M.F_l_any.kp M.b_l_any (takes_of rfl rfl rfl rfl) (da_cons (dl_var 0) (da_cons (dl_dat (de_lst (da_cons (dl_dat de_int) (da_cons (dl_dat de_int) (da_cons (dl_dat (de_val (dl_call (ok_l_take M) (hr.mono (by decide)) M.g_l_take M.F_l_take.kp M.b_l_take (takes_of rfl rfl rfl rfl) (da_cons (dl_var 0) (da_cons (dl_dat (de_bin op_addA g_add (de_var 2) de_int)) da_nil))))) da_nil))))) da_nil))))))))))
  (dss_one (ds_ret (dl_dat (de_var 4))))))) h_l_rooms
theorem ok_l_end (M : Md K mg) : FnOk P w K mg base (L2.CX P w) 3 M.f_l_end M.d_l_end ["_law_work", "_law_places"] (spD K 2 S_l_end) :=
  fn_D M.F_l_end sc_l_end rfl (fun cdv A outer s H E hr => (dss_cons (ds_for (passes_of rfl) rfl (di_seq (de_ix (de_var 0) de_int)) (dg_name 2 sc_l_end.nd) (dss_one (ds_set 1 sc_l_end.nd (dl_dat (de_val (dl_call (ok_l_ran M) (hr.mono (by decide)) M.g_l_ran M.F_l_ran.kp M.b_l_ran (takes_of rfl rfl rfl rfl) (da_cons (dl_dat (de_ix (de_var 0) de_int)) (da_cons (dl_dat (de_var 1)) (da_cons (dl_dat (de_var 2)) da_nil)))))))))
  (dss_one (ds_ret (dl_dat (de_var 1)))))) h_l_end
theorem ok_Lane_init_u (M : Md K mg) : FnOk P w K mg base (L2.CX P w) 4 M.f_Lane_init_u M.d_Lane_init_u ["self", "gap", "beginning"] (spD K 3 S_Lane_init_u) :=
  fn_D M.F_Lane_init_u sc_Lane_init_u rfl (fun cdv A outer s H E hr => (dss_cons (ds_if (dt_not (dt_of (de_val (dl_call (ok_is_int M) (hr.mono (by decide)) M.g_is_int M.F_is_int.kp M.b_is_int (takes_of rfl rfl rfl rfl) (da_cons (dl_dat (de_var 1)) (da_cons (dl_dat de_int) (da_cons (dl_dat (de_gint M.g_WIDEST)) da_nil))))))) (dss_one (ds_raise rfl (takes_of rfl rfl rfl rfl) M.e_InvalidDrill)) dss_nil)
  (dss_cons (ds_expr (dl_call (ok_need_beginning M) (hr.mono (by decide)) M.g_need_beginning M.F_need_beginning.kp M.b_need_beginning (takes_of rfl rfl rfl rfl) (da_cons (dl_dat (de_var 1)) (da_cons (dl_dat (de_var 2)) da_nil))))
  (dss_cons (ds_fldO M.I_Lane M.na_Lane_space (dl_var 0) (de_var 1))
  (dss_cons (ds_fldO M.I_Lane M.na_Lane_now (dl_var 0) (de_tup (da_cons (dl_dat (de_var 2)) (da_cons (dl_dat (de_tup da_nil)) da_nil))))
  (dss_one (ds_fldO M.I_Lane M.na_Lane_past (dl_var 0) (de_tup da_nil)))))))) h_Lane_init_u
theorem ini_Lane {X : Cx} {K : PySem.W.Frag} {mg : Str → Option Value} (M : Md K mg) (hK : X.K = K := by rfl) (hm : X.mg = mg := by rfl) : IniF X M.C_Lane M.f_Lane_init_u 4 (fixF 3 S_Lane_init_u) := by
  subst hK hm
  exact IniF.of M.mk_Lane_init_u (ok_Lane_init_u M) M.b_Lane_init_u
theorem ok_l_due (M : Md K mg) : FnOk P w K mg base (L2.CX P w) 4 M.f_l_due M.d_l_due ["_law_gap", "_law_now", "_law_call_here"] (spD K 3 S_l_due) :=
  fn_D M.F_l_due sc_l_due rfl (fun cdv A outer s H E hr => (dss_cons (ds_to (de_var 1) (dg_tup rfl (dgs_cons (dg_name 5 sc_l_due.nd) (dgs_cons (dg_name 6 sc_l_due.nd) dgs_nil))))
  (dss_cons (ds_if (dt_cmp (op_eqP hr.units) g_eq (de_ix (de_var 2) de_int) de_str (nomark _)) (dss_cons (ds_if (dt_not (dt_of (de_val (dl_call (ok_l_is_deed M) (hr.mono (by decide)) M.g_l_is_deed M.F_l_is_deed.kp M.b_l_is_deed (takes_of rfl rfl rfl rfl) (da_cons (dl_dat (de_ix (de_var 2) de_int)) da_nil))))) (dss_one (ds_ret (dl_dat (de_tup (da_cons (dl_dat de_str) (da_cons (dl_dat de_non) da_nil)))))) dss_nil)
  (dss_cons (ds_set 7 sc_l_due.nd (dl_dat (de_val (dl_call (ok_l_ran M) (hr.mono (by decide)) M.g_l_ran M.F_l_ran.kp M.b_l_ran (takes_of rfl rfl rfl rfl) (da_cons (dl_dat (de_var 0)) (da_cons (dl_dat (de_var 5)) (da_cons (dl_dat (de_ix (de_var 2) de_int)) da_nil)))))))
  (dss_cons (ds_set 8 sc_l_due.nd (dl_dat (de_len M.z_len (da_cons (dl_dat (de_comp (own := [("_law_at_here", 9)]) rfl sc_l_due.nd (di_range1 M.z_range (da_cons (dl_dat (de_len M.z_len (da_cons (dl_dat (de_var 5)) da_nil))) da_nil)) (by kernel_rfl) (fun _ _ _ _ _ => (dg_name 9 sc_l_due.nd)) (fun _ _ _ _ _ => (dts_one (dt_cmp (op_neP hr.units) g_ne (de_ix (de_var 7) (de_var 9)) (de_ix (de_var 5) (de_var 9)) (nomark _)))) (fun _ _ _ _ _ => (de_var 9)))) da_nil))))
  (dss_one (ds_ret (dl_dat (de_tup (da_cons (dl_dat (de_var 8)) (da_cons (dl_dat (de_tup (da_cons (dl_dat (de_var 7)) (da_cons (dl_dat (de_bin op_addA g_add (de_var 6) (de_tup (da_cons (dl_dat (de_ix (de_var 2) de_int)) da_nil)))) da_nil)))) da_nil))))))))) dss_nil)
  (dss_cons (ds_if (dt_cmp (op_eqP hr.units) g_eq (de_ix (de_var 2) de_int) de_str (nomark _)) (dss_cons (ds_if (dw (dw_or (dt_not (dt_of (de_cb call_isi c_isi M.z_isinstance bt_isinstance (da_cons (dl_dat (de_ix (de_var 2) de_int)) (da_cons (dl_dat (de_ty M.z_tuple bt_tuple)) da_nil))))) (dw_or1 (dt_cmp (op_neP hr.units) g_ne (de_comp (own := [("_law_run", 11)]) rfl sc_l_due.nd (di_seq (de_ix (de_var 2) de_int)) (by kernel_rfl) (fun _ _ _ _ _ => (dg_name 11 sc_l_due.nd)) (fun _ _ _ _ _ => (dts_one (dt_not (dt_of (de_val (dl_call (ok_l_is_deed M) (hr.mono (by decide)) M.g_l_is_deed M.F_l_is_deed.kp M.b_l_is_deed takes0' (da_cons (dl_dat (de_var 11)) da_nil))))))) (fun _ _ _ _ _ => (de_var 11))) (de_lst da_nil) (nomark _))))) (dss_one (ds_ret (dl_dat (de_tup (da_cons (dl_dat de_str) (da_cons (dl_dat de_non) da_nil)))))) dss_nil)
  (dss_one (ds_ret (dl_dat (de_tup (da_cons (dl_dat de_non) (da_cons (dl_dat (de_tup (da_cons (dl_dat (de_val (dl_call (ok_l_end M) (hr.mono (by decide)) M.g_l_end M.F_l_end.kp M.b_l_end (takes_of rfl rfl rfl rfl) (da_cons (dl_dat (de_tup (da_cons (dl_dat (de_var 0)) (da_cons (dl_dat (de_ix (de_var 2) de_int)) da_nil)))) (da_cons (dl_dat (de_var 5)) da_nil))))) (da_cons (dl_dat (de_bin op_addA g_add (de_var 6) (de_ix (de_var 2) de_int))) da_nil)))) da_nil))))))) dss_nil)
  (dss_cons (ds_set 3 sc_l_due.nd (dl_dat (de_ix (de_var 2) de_int)))
  (dss_cons (ds_if (dw (dw_or (dt_cmp op_isN g_isN (de_var 3) de_non (nomark _)) (dw_or (dt_cmp op_lt g_lt (de_var 3) de_int (nomark _)) (dw_or1 (dt_cmp (op_neP hr.units) g_ne (de_comp (own := [("_law_one", 10)]) rfl sc_l_due.nd (di_seq (de_var 5)) (by kernel_rfl) (fun _ _ _ _ _ => (dg_name 10 sc_l_due.nd)) (fun _ _ _ _ _ => (dts_one (dt_cmp op_lt g_lt (de_cb call_abs c_abs M.z_abs bt_abs (da_cons (dl_dat (de_bin op_sub g_sub (de_var 10) (de_var 3))) da_nil)) (de_var 0) (nomark _)))) (fun _ _ _ _ _ => (de_var 10))) (de_lst da_nil) (nomark _)))))) (dss_one (ds_ret (dl_dat (de_tup (da_cons (dl_dat de_str) (da_cons (dl_dat de_non) da_nil)))))) dss_nil)
  (dss_cons (ds_set 4 sc_l_due.nd (dl_tupF M.z_tuple (de_cb cr_sortedIT c_sortedI M.z_sorted bt_sorted (da_cons (dl_dat (de_bin op_addA g_add (de_var 5) (de_tup (da_cons (dl_dat (de_var 3)) da_nil)))) da_nil))))
  (dss_one (ds_ret (dl_dat (de_tup (da_cons (dl_dat (de_tidx 4 (de_var 3))) (da_cons (dl_dat (de_tup (da_cons (dl_dat (de_varT 4)) (da_cons (dl_dat (de_var 6)) da_nil)))) da_nil))))))))))))) h_l_due
theorem own_Lane_run {X : Cx} {K : PySem.W.Frag} {mg : Str → Option Value} {n : Nat} (M : Md K mg) (hK : X.K = K := by rfl) (hm : X.mg = mg := by rfl) : OwnF X M.C_Lane "run" M.f_Lane_run 6 n (starF1 S_Lane_run) := by
  subst hK hm
  exact ⟨M.at_Lane_run, M.fn_Lane_run, M.fi_Lane_run, M.kp_Lane_run, fn_star1 M.lk_Lane_run M.cd_Lane_run sc_Lane_run (fun a => rfl) (fun a r rs => rfl) (fun A outer s H E hr => (dss_cons (ds_if (dt_not (dt_of (de_val (dl_call (ok_is_a_run M) (hr.mono (by decide)) M.g_is_a_run M.F_is_a_run.kp M.b_is_a_run (takes_of rfl rfl rfl rfl) (da_cons (dl_dat (de_var 1)) da_nil))))) (dss_one (ds_raise rfl (takes_of rfl rfl rfl rfl) M.e_InvalidRun)) dss_nil)
  (dss_cons (ds_set 2 sc_Lane_run.nd (dl_dat (de_val (dl_call (ok_ran M) (hr.mono (by decide)) M.g_ran M.F_ran.kp M.b_ran (takes_of rfl rfl rfl rfl) (da_cons (dl_dat (de_fldO M.I_Lane M.na_Lane_space (dl_var 0))) (da_cons (dl_dat (de_ix (de_fldO M.I_Lane M.na_Lane_now (dl_var 0)) de_int)) (da_cons (dl_dat (de_var 1)) da_nil)))))))
  (dss_cons (ds_set 3 sc_Lane_run.nd (dl_dat (de_ix (de_fldO M.I_Lane M.na_Lane_now (dl_var 0)) de_int)))
  (dss_cons (ds_expr (dl_meth M.I_Lane (own_Lane_noted M) (hr.mono (by decide)) (takes_of rfl rfl rfl rfl) (dl_var 0) (da_cons (dl_dat (de_tup (da_cons (dl_dat (de_var 2)) (da_cons (dl_dat (de_bin op_addA g_add (de_ix (de_fldO M.I_Lane M.na_Lane_now (dl_var 0)) de_int) (de_tup (da_cons (dl_dat (de_var 1)) da_nil)))) da_nil)))) da_nil)))
  (dss_one (ds_ret (dl_dat (de_len M.z_len (da_cons (dl_dat (de_comp (own := [("one", 4), ("other", 5)]) rfl sc_Lane_run.nd (di_zip M.z_zip (da_cons (dl_dat (de_var 3)) (da_cons (dl_dat (de_var 2)) da_nil))) (by kernel_rfl) (fun _ _ _ _ _ => (dg_tup rfl (dgs_cons (dg_name 4 sc_Lane_run.nd) (dgs_cons (dg_name 5 sc_Lane_run.nd) dgs_nil)))) (fun _ _ _ _ _ => (dts_one (dt_cmp (op_neP hr.units) g_ne (de_var 4) (de_var 5) (nomark _)))) (fun _ _ _ _ _ => de_int))) da_nil)))))))))) h_Lane_run n⟩
theorem ok_Lane_iadd_u (M : Md K mg) : FnOk P w K mg base (L2.CX P w) 6 M.f_Lane_iadd_u M.d_Lane_iadd_u ["self", "runs"] (spD K 2 S_Lane_iadd_u) :=
  fn_D M.F_Lane_iadd_u sc_Lane_iadd_u rfl (fun cdv A outer s H E hr => (dss_cons (ds_if (dw (dw_or (dt_not (dt_of (de_cb call_isi c_isi M.z_isinstance bt_isinstance (da_cons (dl_dat (de_var 1)) (da_cons (dl_dat (de_ty M.z_tuple bt_tuple)) da_nil))))) (dw_or (dt_cmp op_gt g_gt (de_len M.z_len (da_cons (dl_dat (de_var 1)) da_nil)) de_int (nomark _)) (dw_or1 (dt_cmp (op_neP hr.units) g_ne (de_comp (own := [("run", 3)]) rfl sc_Lane_iadd_u.nd (di_seq (de_var 1)) (by kernel_rfl) (fun _ _ _ _ _ => (dg_name 3 sc_Lane_iadd_u.nd)) (fun _ _ _ _ _ => (dts_one (dt_not (dt_of (de_val (dl_call (ok_is_a_run M) (hr.mono (by decide)) M.g_is_a_run M.F_is_a_run.kp M.b_is_a_run takes0' (da_cons (dl_dat (de_var 3)) da_nil))))))) (fun _ _ _ _ _ => (de_var 3))) (de_lst da_nil) (nomark _)))))) (dss_one (ds_raise rfl (takes_of rfl rfl rfl rfl) M.e_InvalidRun)) dss_nil)
  (dss_cons (ds_set 2 sc_Lane_iadd_u.nd (dl_dat (de_ix (de_fldO M.I_Lane M.na_Lane_now (dl_var 0)) de_int)))
  (dss_cons (ds_for (passes_of rfl) rfl (di_seq (de_var 1)) (dg_name 3 sc_Lane_iadd_u.nd) (dss_one (ds_set 2 sc_Lane_iadd_u.nd (dl_dat (de_val (dl_call (ok_ran M) (hr.mono (by decide)) M.g_ran M.F_ran.kp M.b_ran (takes_of rfl rfl rfl rfl) (da_cons (dl_dat (de_fldO M.I_Lane M.na_Lane_space (dl_var 0))) (da_cons (dl_dat (de_var 2)) (da_cons (dl_dat (de_var 3)) da_nil)))))))))
  (dss_cons (ds_expr (dl_meth M.I_Lane (own_Lane_noted M) (hr.mono (by decide)) (takes_of rfl rfl rfl rfl) (dl_var 0) (da_cons (dl_dat (de_tup (da_cons (dl_dat (de_var 2)) (da_cons (dl_dat (de_bin op_addA g_add (de_ix (de_fldO M.I_Lane M.na_Lane_now (dl_var 0)) de_int) (de_var 1))) da_nil)))) da_nil)))
  (dss_one (ds_ret (dl_var 0)))))))) h_Lane_iadd_u
theorem own_Lane_iadd_u {X : Cx} {K : PySem.W.Frag} {mg : Str → Option Value} (M : Md K mg) (hK : X.K = K := by rfl) (hm : X.mg = mg := by rfl) : OwnF X M.C_Lane (PySem.dunderI (Operator.info .Add).2) M.f_Lane_iadd_u 6 2 S_Lane_iadd_u := by
  subst hK hm
  exact OwnF.of (ok_Lane_iadd_u M) M.b_Lane_iadd_u M.at_Lane_iadd_u M.fn_Lane_iadd_u M.fi_Lane_iadd_u M.kp_Lane_iadd_u
theorem ok_Lane_enter (M : Md K mg) : FnOk P w K mg base (L2.CX P w) 6 M.f_Lane_enter M.d_Lane_enter ["self", "place"] (spD K 2 S_Lane_enter) :=
  fn_D M.F_Lane_enter sc_Lane_enter rfl (fun cdv A outer s H E hr => (dss_cons (ds_if (dt_not (dt_of (de_val (dl_call (ok_is_int M) (hr.mono (by decide)) M.g_is_int M.F_is_int.kp M.b_is_int (takes_of rfl rfl rfl rfl) (da_cons (dl_dat (de_var 1)) (da_cons (dl_dat de_int) (da_cons (dl_dat (de_gint M.g_GREAT)) da_nil))))))) (dss_one (ds_raise rfl (takes_of rfl rfl rfl rfl) M.e_InvalidPlace)) dss_nil)
  (dss_cons (ds_set 2 sc_Lane_enter.nd (dl_tupF M.z_tuple (de_cb cr_sortedIT c_sortedI M.z_sorted bt_sorted (da_cons (dl_dat (de_bin op_addA g_add (de_ix (de_fldO M.I_Lane M.na_Lane_now (dl_var 0)) de_int) (de_tup (da_cons (dl_dat (de_var 1)) da_nil)))) da_nil))))
  (dss_cons (ds_setC (own := [("one", 4), ("other", 5)]) 3 rfl sc_Lane_enter.nd (di_zip M.z_zip (da_cons (dl_dat (de_varT 2)) (da_cons (dl_dat (de_sl (de_varT 2) (do_some de_int) do_none)) da_nil))) (by kernel_rfl) (fun _ _ _ _ _ => (dg_tup rfl (dgs_cons (dg_name 4 sc_Lane_enter.nd) (dgs_cons (dg_name 5 sc_Lane_enter.nd) dgs_nil)))) (fun _ _ _ _ _ => (dts_one (dt_cmp op_lt g_lt (de_bin op_sub g_sub (de_var 5) (de_var 4)) (de_fldO M.I_Lane M.na_Lane_space (dl_var 0)) (nomark _)))) (fun _ _ _ _ _ => de_int))
  (dss_cons (ds_if (dw (dw_or (dt_cmp (op_neP hr.units) g_ne (de_var 3) (de_lst da_nil) (nomark _)) (dw_or1 (dt_cmp op_gt g_gt (de_len M.z_len (da_cons (dl_dat (de_varT 2)) da_nil)) (de_gint M.g_MOST_SHEEP) (nomark _))))) (dss_one (ds_raise rfl (takes_of rfl rfl rfl rfl) M.e_InvalidPlace)) dss_nil)
  (dss_cons (ds_expr (dl_meth M.I_Lane (own_Lane_noted M) (hr.mono (by decide)) (takes_of rfl rfl rfl rfl) (dl_var 0) (da_cons (dl_dat (de_tup (da_cons (dl_dat (de_varT 2)) (da_cons (dl_dat (de_ix (de_fldO M.I_Lane M.na_Lane_now (dl_var 0)) de_int)) da_nil)))) da_nil)))
  (dss_one (ds_ret (dl_dat (de_tidx 2 (de_var 1))))))))))) h_Lane_enter
theorem own_Lane_enter {X : Cx} {K : PySem.W.Frag} {mg : Str → Option Value} (M : Md K mg) (hK : X.K = K := by rfl) (hm : X.mg = mg := by rfl) : OwnF X M.C_Lane "enter" M.f_Lane_enter 6 2 S_Lane_enter := by
  subst hK hm
  exact OwnF.of (ok_Lane_enter M) M.b_Lane_enter M.at_Lane_enter M.fn_Lane_enter M.fi_Lane_enter M.kp_Lane_enter
theorem ok_l_shows (M : Md K mg) (TB_l_shows : LamX.TabB base mg M.c_l_shows M.P_l_shows) : FnOk P w K mg base (L2.CX P w) 7 M.f_l_shows M.d_l_shows ["_law_lane", "_law_gap", "_law_now", "_law_many"] (spD K 4 (S_l_shows ["InvalidBeginning", "InvalidDrill", "TooMany", "InvalidRun", "InvalidPlace", "NothingToUndo", "InvalidSheep"])) := by
  rw [M.db_l_shows]
  exact fn_DC M.lk_l_shows M.cd_l_shows sc_l_shows rfl (fun A outer s H E hr => (dss_cons (ds_to (de_var 2) (dg_tup rfl (dgs_cons (dg_name 8 sc_l_shows.nd) (dgs_cons (dg_name 9 sc_l_shows.nd) dgs_nil))))
  (dss_cons (ds_if (dw (dw_or (dt_cmp (op_neP hr.units) g_ne (de_tup (da_cons (dl_dat (de_val (dl_prop M.I_Lane M.p_Lane_gap (ok_Lane_gap M) (hr.mono (by decide)) M.b_Lane_gap (dl_var 0)))) (da_cons (dl_dat (de_val (dl_prop M.I_Lane M.p_Lane_places (ok_Lane_places M) (hr.mono (by decide)) M.b_Lane_places (dl_var 0)))) (da_cons (dl_dat (de_val (dl_prop M.I_Lane M.p_Lane_runs (ok_Lane_runs M) (hr.mono (by decide)) M.b_Lane_runs (dl_var 0)))) da_nil)))) (de_tup (da_cons (dl_dat (de_var 1)) (da_cons (dl_dat (de_var 8)) (da_cons (dl_dat (de_var 9)) da_nil)))) (nomark _)) (dw_or1 (dt_cmp (op_neP hr.units) g_ne (de_lenI M.I_Lane (own_Lane_len_u M) (hr.mono (by decide)) (takes_of rfl rfl rfl rfl) M.z_len (dl_var 0)) (de_var 3) (nomark _))))) (dss_one (ds_ret (dl_dat de_bl))) dss_nil)
  (dss_cons (ds_set 4 sc_l_shows.nd (dl_dat (de_len M.z_len (da_cons (dl_dat (de_var 8)) da_nil))))
  (dss_cons (ds_if (dt_cmp (op_neP hr.units) g_ne (de_comp (own := [("_law_at_here", 10)]) rfl sc_l_shows.nd (di_range2 M.z_range (da_cons (dl_dat (de_bin op_sub g_sub de_int (de_var 4))) (da_cons (dl_dat (de_var 4)) da_nil))) (by kernel_rfl) (fun _ _ _ _ _ => (dg_name 10 sc_l_shows.nd)) (fun _ _ _ _ _ => dts_nil) (fun _ _ _ _ _ => (de_val (dl_ownIx M.I_Lane (own_Lane_getitem_u M) (hr.mono (by decide)) takes0' (dl_var 0) (dl_var 10))))) (de_bin op_mulB g_mulB (de_cty call_list_of c_list M.z_list bt_list (da_cons (dl_dat (de_var 8)) da_nil)) de_int) (nomark _)) (dss_one (ds_ret (dl_dat de_bl))) dss_nil)
  (dss_cons (ds_for (passes_of rfl) rfl (di_seq (de_lst (da_cons (dl_dat (de_var 4)) (da_cons (dl_dat (de_bin op_sub g_sub (de_bin op_sub g_sub de_int (de_var 4)) de_int)) (da_cons (dl_dat de_non) (da_cons (dl_dat de_bl) (da_cons (dl_dat de_str) da_nil))))))) (dg_name 5 sc_l_shows.nd) (dss_one (ds_if (dt_cmp (op_neP hr.units) g_ne (de_val (dl_lam (k := 4) M.w_word (by apply give_word) TB_l_shows rfl M.tm_l_shows M.tu_l_shows (hr.mono (by decide)) (LamX.lamS_by (sc := defScope s_l_shows) (by decide +kernel)) (fun A outer s H E f c hr => (dl_ownIx M.I_Lane (own_Lane_getitem_u M) (hr.mono (by decide)) (takes_of rfl rfl rfl rfl) (dl_var 0) (dl_var 5))))) de_str (nomark _)) (dss_one (ds_ret (dl_dat de_bl))) dss_nil)))
  (dss_cons (ds_for (passes_of rfl) rfl (di_seq (de_lst (da_cons (dl_dat de_int) (da_cons (dl_dat de_int) (da_cons (dl_dat (de_ix (de_var 8) de_int)) (da_cons (dl_dat (de_ix (de_var 8) (de_neg de_int))) (da_cons (dl_dat (de_bin op_addA g_add (de_ix (de_var 8) de_int) de_int)) da_nil))))))) (dg_name 6 sc_l_shows.nd) (dss_one (ds_if (dt_cmp (op_neP hr.units) g_ne (de_inI M.I_Lane (own_Lane_contains_u M) (hr.mono (by decide)) (takes_of rfl rfl rfl rfl) (dl_var 6) (dl_var 0) (by with_unfolding_all rfl)) (de_cmp (op_inP hr.units) (g_in false) (de_var 6) (de_var 8) (by with_unfolding_all rfl)) (nomark _)) (dss_one (ds_ret (dl_dat de_bl))) dss_nil)))
  (dss_cons (ds_set 7 sc_l_shows.nd (dl_dat (de_val (dl_call (ok_l_lots M) (hr.mono (by decide)) M.g_l_lots M.F_l_lots.kp M.b_l_lots (takes_of rfl rfl rfl rfl) (da_cons (dl_dat (de_var 1)) (da_cons (dl_dat (de_var 8)) da_nil))))))
  (dss_cons (ds_if (dw (dw_or (dt_inI M.I_Lane (own_Lane_contains_u M) (hr.mono (by decide)) (takes_of rfl rfl rfl rfl) (dl_dat de_non) (dl_var 0) (by with_unfolding_all rfl)) (dw_or (dt_inI M.I_Lane (own_Lane_contains_u M) (hr.mono (by decide)) (takes_of rfl rfl rfl rfl) (dl_dat de_str) (dl_var 0) (by with_unfolding_all rfl)) (dw_or1 (dt_cmp (op_neP hr.units) g_ne (de_boolI M.I_Lane (own_Lane_bool_u M) (hr.mono (by decide)) (takes_of rfl rfl rfl rfl) M.z_bool (dl_var 0)) (de_cmp (op_eqP hr.units) g_eq (de_len M.z_len (da_cons (dl_dat (de_var 7)) da_nil)) de_int (nomark _)) (nomark _)))))) (dss_one (ds_ret (dl_dat de_bl))) dss_nil)
  (dss_one (ds_ret (dl_dat (de_cmp (op_eqP hr.units) g_eq (de_listG M.I_Lane M.mt_Lane_lots (gfn_Lane_lots M) (hr.mono (by decide)) (gbn_Lane_lots M) passEz (dl_var 0) rfl M.z_list bt_list) (de_var 7) (nomark _)))))))))))))) (h_l_shows ["InvalidBeginning", "InvalidDrill", "TooMany", "InvalidRun", "InvalidPlace", "NothingToUndo", "InvalidSheep"])
theorem ok_l_added (M : Md K mg) : FnOk P w K mg base (L2.CX P w) 9 M.f_l_added M.d_l_added ["_law_lane", "_law_runs"] (spD K 2 S_l_added) :=
  fn_D M.F_l_added sc_l_added rfl (fun cdv A outer s H E hr => (dss_one (ds_augI 0 M.I_Lane (own_Lane_iadd_u M) (hr.mono (by decide)) (takes_of rfl rfl rfl rfl) sc_l_added.nd (dl_var 1)))) h_l_added
theorem ok_l_call (M : Md K mg) : FnOk P w K mg base (L2.CX P w) 10 M.f_l_call M.d_l_call ["_law_lane", "_law_call_here"] (spD K 2 S_l_call) :=
  fn_D M.F_l_call sc_l_call rfl (fun cdv A outer s H E hr => (dss_cons (ds_if (dt_cmp (op_eqP hr.units) g_eq (de_ix (de_var 1) de_int) de_str (nomark _)) (dss_one (ds_ret (dl_dat (de_val (dl_call (ok_l_added M) (hr.mono (by decide)) M.g_l_added M.F_l_added.kp M.b_l_added (takes_of rfl rfl rfl rfl) (da_cons (dl_var 0) (da_cons (dl_dat (de_ix (de_var 1) de_int)) da_nil))))))) dss_nil)
  (dss_cons (ds_if (dt_cmp (op_eqP hr.units) g_eq (de_ix (de_var 1) de_int) de_str (nomark _)) (dss_one (ds_ret (dl_dat (de_val (dl_meth M.I_Lane (own_Lane_enter M) (hr.mono (by decide)) (takes_of rfl rfl rfl rfl) (dl_var 0) (da_cons (dl_dat (de_ix (de_var 1) de_int)) da_nil)))))) dss_nil)
  (dss_cons (ds_if (dt_cmp (op_eqP hr.units) g_eq (de_ix (de_var 1) de_int) de_str (nomark _)) (dss_one (ds_ret (dl_dat (de_val (dl_meth0 M.I_Lane (own_Lane_undo M) (hr.mono (by decide)) (takes_of rfl rfl rfl rfl) (dl_var 0)))))) dss_nil)
  (dss_cons (ds_if (dt_cmp op_isN g_isN (de_ix (de_var 1) de_int) de_non (nomark _)) (dss_one (ds_ret (dl_dat (de_val (dl_meth M.I_Lane (own_Lane_run M) (hr.mono (by decide)) (takes_of rfl rfl rfl rfl) (dl_var 0) (da_cons (dl_dat de_non) da_nil)))))) dss_nil)
  (dss_cons (ds_if (dt_cmp (op_eqP hr.units) g_eq (de_len M.z_len (da_cons (dl_dat (de_ix (de_var 1) de_int)) da_nil)) de_int (nomark _)) (dss_one (ds_ret (dl_dat (de_val (dl_meth M.I_Lane (own_Lane_run M) (hr.mono (by decide)) (takes_of rfl rfl rfl rfl) (dl_var 0) (da_cons (dl_dat (de_ix (de_ix (de_var 1) de_int) de_int)) (da_cons (dl_dat (de_ix (de_ix (de_var 1) de_int) de_int)) da_nil))))))) dss_nil)
  (dss_one (ds_ret (dl_dat (de_val (dl_meth M.I_Lane (own_Lane_run M) (hr.mono (by decide)) (takes_of rfl rfl rfl rfl) (dl_var 0) (da_cons (dl_dat (de_ix (de_ix (de_var 1) de_int) de_int)) (da_cons (dl_dat (de_ix (de_ix (de_var 1) de_int) de_int)) (da_cons (dl_dat (de_ix (de_ix (de_var 1) de_int) de_int)) da_nil)))))))))))))) h_l_call
theorem ok_l_called (M : Md K mg) (TB_l_called : LamX.TabB base mg M.c_l_called M.P_l_called) : FnOk P w K mg base (L2.CX P w) 13 M.f_l_called M.d_l_called ["_law_lane", "_law_call_here"] (spD K 2 (S_l_called ["InvalidBeginning", "InvalidDrill", "TooMany", "InvalidRun", "InvalidPlace", "NothingToUndo", "InvalidSheep"])) := by
  rw [M.db_l_called]
  exact fn_DC M.lk_l_called M.cd_l_called sc_l_called rfl (fun A outer s H E hr => (dss_cons (ds_set 2 sc_l_called.nd (dl_new da_nil))
  (dss_cons (ds_set 3 sc_l_called.nd (dl_dat (de_val (dl_lam (k := 10) M.w_word (by apply give_word) TB_l_called rfl M.tm_l_called M.tu_l_called (hr.mono (by decide)) (LamX.lamS_by (sc := defScope s_l_called) (by decide +kernel)) (fun A outer s H E f c hr => (dl_appE 2 (de_val (dl_call (ok_l_call M) (hr.mono (by decide)) M.g_l_call M.F_l_call.kp M.b_l_call (takes_of rfl rfl rfl rfl) (da_cons (dl_var 0) (da_cons (dl_dat (de_var 1)) da_nil))))))))))
  (dss_one (ds_ret (dl_dat (de_if (dt_cmp (op_eqP hr.units) g_eq (de_var 3) de_str (nomark _)) (de_ixO 2 de_int) (de_var 3)))))))) (h_l_called ["InvalidBeginning", "InvalidDrill", "TooMany", "InvalidRun", "InvalidPlace", "NothingToUndo", "InvalidSheep"])
theorem ok_law (M : Md K mg) (TB_l_called : LamX.TabB base mg M.c_l_called M.P_l_called) (TB_l_shows : LamX.TabB base mg M.c_l_shows M.P_l_shows) (TB_law : LamX.TabB base mg M.c_law M.P_law) : FnOk P w K mg base (L2.CX P w) 14 M.f_law (PySem.W.fnOf "law" "law" (defArgs s_law) (defBody s_law) (defScope s_law) .none M.o2_law M.o3_law M.o4_law M.u2_law (.ref M.c_law) M.o5_law) ["_law_script"] (spD K 1 (S_law ["InvalidBeginning", "InvalidDrill", "TooMany", "InvalidRun", "InvalidPlace", "NothingToUndo", "InvalidSheep"])) :=
  fn_DC M.lk_law M.cd_law sc_law rfl (fun A outer s H E hr => (dss_cons (ds_for (passes_of rfl) rfl (di_range1 M.z_range (da_cons (dl_dat (de_bin op_addA g_add de_int (de_cb (call_min2 rfl) c_min2 M.z_min bt_min (da_cons (dl_dat (de_len M.z_len (da_cons (dl_dat (de_var 0)) da_nil))) (da_cons (dl_dat de_int) da_nil))))) da_nil)) (dg_name 1 sc_law.nd) (dss_cons (ds_set 4 sc_law.nd (dl_call (ok_l_cart_of M) (hr.mono (by decide)) M.g_l_cart_of M.F_l_cart_of.kp M.b_l_cart_of (takes_of rfl rfl rfl rfl) (da_cons (dl_dat (de_var 0)) (da_cons (dl_dat (de_var 1)) da_nil))))
  (dss_cons (ds_set 5 sc_law.nd (dl_dat (de_bin op_addA g_add de_int (de_val (dl_call (ok_l_take M) (hr.mono (by decide)) M.g_l_take M.F_l_take.kp M.b_l_take (takes_of rfl rfl rfl rfl) (da_cons (dl_var 4) (da_cons (dl_dat de_int) da_nil)))))))
  (dss_cons (ds_set 6 sc_law.nd (dl_dat (de_val (dl_call (ok_l_at M) (hr.mono (by decide)) M.g_l_at M.F_l_at.kp M.b_l_at (takes_of rfl rfl rfl rfl) (da_cons (dl_dat (de_var 5)) (da_cons (dl_dat (de_val (dl_call (ok_l_rooms M) (hr.mono (by decide)) M.g_l_rooms M.F_l_rooms.kp M.b_l_rooms (takes_of rfl rfl rfl rfl) (da_cons (dl_var 4) (da_cons (dl_dat (de_bin op_addA g_add de_int (de_val (dl_call (ok_l_take M) (hr.mono (by decide)) M.g_l_take M.F_l_take.kp M.b_l_take (takes_of rfl rfl rfl rfl) (da_cons (dl_var 4) (da_cons (dl_dat de_int) da_nil)))))) (da_cons (dl_dat (de_val (dl_call (ok_l_any M) (hr.mono (by decide)) M.g_l_any M.F_l_any.kp M.b_l_any (takes_of rfl rfl rfl rfl) (da_cons (dl_var 4) (da_cons (dl_dat (de_lst (da_cons (dl_dat de_int) (da_cons (dl_dat de_int) (da_cons (dl_dat (de_bin op_pow g_pow de_int de_int)) da_nil))))) da_nil))))) da_nil)))))) da_nil))))))
  (dss_cons (ds_par2 2 9 rfl sc_law.nd (da_cons (dl_make M.I_Lane (ini_Lane M) (hr.mono (by decide)) (takes_of rfl rfl rfl rfl) M.gc_Lane (da_cons (dl_dat (de_var 5)) (da_cons (dl_dat (de_var 6)) da_nil))) (da_cons (dl_dat (de_lst (da_cons (dl_dat (de_tup (da_cons (dl_dat (de_var 6)) (da_cons (dl_dat (de_tup da_nil)) da_nil)))) da_nil))) da_nil)))
  (dss_cons (ds_for (passes_of rfl) rfl (di_range1 M.z_range (da_cons (dl_dat de_int) da_nil)) (dg_name 7 sc_law.nd) (dss_cons (ds_par2 12 13 rfl sc_law.nd (da_cons (dl_dat (de_val (dl_call (ok_l_deed M) (hr.mono (by decide)) M.g_l_deed M.F_l_deed.kp M.b_l_deed (takes_of rfl rfl rfl rfl) (da_cons (dl_var 4) (da_cons (dl_dat de_int) da_nil))))) (da_cons (dl_dat (de_ix (de_ix (de_ix (de_var 9) (de_neg de_int)) de_int) (de_neg de_int))) da_nil)))
  (dss_cons (ds_set 10 sc_law.nd (dl_dat (de_lst (da_cons (dl_dat (de_tup (da_cons (dl_dat de_str) (da_cons (dl_dat (de_var 12)) da_nil)))) (da_cons (dl_dat (de_tup (da_cons (dl_dat de_str) (da_cons (dl_dat (de_var 12)) da_nil)))) (da_cons (dl_dat (de_tup (da_cons (dl_dat de_str) (da_cons (dl_dat de_non) da_nil)))) (da_cons (dl_dat (de_tup (da_cons (dl_dat de_str) (da_cons (dl_dat (de_tup (da_cons (dl_dat de_str) (da_cons (dl_dat de_int) da_nil)))) da_nil)))) (da_cons (dl_dat (de_tup (da_cons (dl_dat de_str) (da_cons (dl_dat (de_tup (da_cons (dl_dat de_str) (da_cons (dl_dat de_int) da_nil)))) da_nil)))) da_nil))))))))
  (dss_cons (ds_set 10 sc_law.nd (dl_dat (de_bin op_addA g_add (de_var 10) (de_lst (da_cons (dl_dat (de_tup (da_cons (dl_dat de_str) (da_cons (dl_dat (de_tup (da_cons (dl_dat (de_var 12)) (da_cons (dl_dat (de_tup (da_cons (dl_dat de_str) (da_cons (dl_dat de_int) da_nil)))) da_nil)))) da_nil)))) (da_cons (dl_dat (de_tup (da_cons (dl_dat de_str) (da_cons (dl_dat (de_tup da_nil)) da_nil)))) (da_cons (dl_dat (de_tup (da_cons (dl_dat de_str) (da_cons (dl_dat (de_lst (da_cons (dl_dat (de_var 12)) da_nil))) da_nil)))) (da_cons (dl_dat (de_tup (da_cons (dl_dat de_str) (da_cons (dl_dat (de_tup (da_cons (dl_dat (de_var 12)) (da_cons (dl_dat de_non) da_nil)))) da_nil)))) da_nil))))))))
  (dss_cons (ds_set 10 sc_law.nd (dl_dat (de_bin op_addA g_add (de_var 10) (de_lst (da_cons (dl_dat (de_tup (da_cons (dl_dat de_str) (da_cons (dl_dat (de_bin op_addA g_add (de_var 13) (de_var 5))) da_nil)))) (da_cons (dl_dat (de_tup (da_cons (dl_dat de_str) (da_cons (dl_dat (de_bin op_sub g_sub (de_bin op_addA g_add (de_var 13) (de_var 5)) de_int)) da_nil)))) (da_cons (dl_dat (de_tup (da_cons (dl_dat de_str) (da_cons (dl_dat (de_neg de_int)) da_nil)))) da_nil)))))))
  (dss_cons (ds_set 10 sc_law.nd (dl_dat (de_bin op_addA g_add (de_var 10) (de_lst (da_cons (dl_dat (de_tup (da_cons (dl_dat de_str) (da_cons (dl_dat (de_val (dl_call (ok_l_take M) (hr.mono (by decide)) M.g_l_take M.F_l_take.kp M.b_l_take (takes_of rfl rfl rfl rfl) (da_cons (dl_var 4) (da_cons (dl_dat de_int) da_nil))))) da_nil)))) (da_cons (dl_dat (de_tup (da_cons (dl_dat de_str) (da_cons (dl_dat de_non) da_nil)))) da_nil))))))
  (dss_cons (ds_set 11 sc_law.nd (dl_dat (de_val (dl_call (ok_l_any M) (hr.mono (by decide)) M.g_l_any M.F_l_any.kp M.b_l_any (takes_of rfl rfl rfl rfl) (da_cons (dl_var 4) (da_cons (dl_dat (de_bin op_addA g_add (de_var 10) (de_lst (da_cons (dl_dat (de_tup (da_cons (dl_dat de_str) da_nil))) (da_cons (dl_dat (de_tup (da_cons (dl_dat de_str) da_nil))) da_nil))))) da_nil))))))
  (dss_cons (ds_if (dt_cmp (op_eqP hr.units) g_eq (de_var 11) (de_tup (da_cons (dl_dat de_str) da_nil)) (nomark _)) (dss_cons (ds_set 14 sc_law.nd (dl_dat (de_if (dt_cmp (op_eqP hr.units) g_eq (de_len M.z_len (da_cons (dl_dat (de_var 9)) da_nil)) de_int (nomark _)) de_str de_non)))
  (dss_one (ds_set 9 sc_law.nd (dl_dat (de_if (dt_cmp (op_eqP hr.units) g_eq (de_len M.z_len (da_cons (dl_dat (de_var 9)) da_nil)) de_int (nomark _)) (de_sl (de_var 9) do_none (do_some de_int)) (de_sl (de_var 9) do_none (do_some (de_neg de_int)))))))) (dss_cons (ds_to (de_val (dl_call (ok_l_due M) (hr.mono (by decide)) M.g_l_due M.F_l_due.kp M.b_l_due (takes_of rfl rfl rfl rfl) (da_cons (dl_dat (de_var 5)) (da_cons (dl_dat (de_ix (de_var 9) (de_neg de_int))) (da_cons (dl_dat (de_var 11)) da_nil))))) (dg_tup rfl (dgs_cons (dg_name 14 sc_law.nd) (dgs_cons (dg_name 15 sc_law.nd) dgs_nil))))
  (dss_one (ds_set 9 sc_law.nd (dl_dat (de_if (dt_cmp op_isN g_isN (de_var 15) de_non (nomark _)) (de_var 9) (de_bin op_addA g_add (de_var 9) (de_lst (da_cons (dl_dat (de_var 15)) da_nil)))))))))
  (dss_cons (ds_if (dt_cmp (op_neP hr.units) g_ne (de_val (dl_call (ok_l_called M TB_l_called) (hr.mono (by decide)) M.g_l_called M.F_l_called.kp M.b_l_called (takes_of rfl rfl rfl rfl) (da_cons (dl_var 2) (da_cons (dl_dat (de_var 11)) da_nil)))) (de_var 14) (nomark _)) (dss_one (ds_ret (dl_dat de_bl))) dss_nil)
  (dss_one (ds_if (dt_not (dt_of (de_val (dl_call (ok_l_shows M TB_l_shows) (hr.mono (by decide)) M.g_l_shows M.F_l_shows.kp M.b_l_shows (takes_of rfl rfl rfl rfl) (da_cons (dl_var 2) (da_cons (dl_dat (de_var 5)) (da_cons (dl_dat (de_ix (de_var 9) (de_neg de_int))) (da_cons (dl_dat (de_bin op_sub g_sub (de_len M.z_len (da_cons (dl_dat (de_var 9)) da_nil)) de_int)) da_nil)))))))) (dss_one (ds_ret (dl_dat de_bl))) dss_nil)))))))))))
  (dss_cons (ds_set 8 sc_law.nd (dl_make M.I_Lane (ini_Lane M) (hr.mono (by decide)) (takes_of rfl rfl rfl rfl) M.gc_Lane (da_cons (dl_dat (de_var 5)) (da_cons (dl_dat (de_ix (de_ix (de_var 9) (de_neg de_int)) de_int)) da_nil))))
  (dss_one (ds_if (dw (dw_or (dt_ownC (fun _ _ => rfl) M.I_Lane (own_Lane_eq_u M) (hr.mono (by decide)) (takes_of rfl rfl rfl rfl) (dl_var 2) (dl_var 6) (nomark _)) (dw_or1 (dt_cmp (op_neP hr.units) g_ne (de_val (dl_ownC (fun _ _ => rfl) M.I_Lane (own_Lane_eq_u M) (hr.mono (by decide)) (takes_of rfl rfl rfl rfl) (dl_var 2) (dl_var 8) (nomark _))) (de_cmp (op_eqP hr.units) g_eq (de_ix (de_ix (de_var 9) (de_neg de_int)) de_int) (de_tup da_nil) (nomark _)) (nomark _))))) (dss_one (ds_ret (dl_dat de_bl))) dss_nil)))))))))
  (dss_cons (ds_set 2 sc_law.nd (dl_make M.I_Lane (ini_Lane M) (hr.mono (by decide)) (takes_of rfl rfl rfl rfl) M.gc_Lane (da_cons (dl_dat de_int) (da_cons (dl_dat (de_tup (da_cons (dl_dat de_int) (da_cons (dl_dat de_int) (da_cons (dl_dat de_int) da_nil))))) da_nil))))
  (dss_cons (ds_if (dt_cmp (op_neP hr.units) g_ne (de_lst (da_cons (dl_dat (de_val (dl_meth M.I_Lane (own_Lane_run M) (hr.mono (by decide)) (takes_of rfl rfl rfl rfl) (dl_var 2) (da_cons (dl_dat de_str) (da_cons (dl_dat de_int) da_nil))))) (da_cons (dl_dat (de_val (dl_meth M.I_Lane (own_Lane_run M) (hr.mono (by decide)) (takes_of rfl rfl rfl rfl) (dl_var 2) (da_cons (dl_dat de_str) (da_cons (dl_dat de_int) (da_cons (dl_dat de_int) da_nil)))))) (da_cons (dl_dat (de_val (dl_meth M.I_Lane (own_Lane_enter M) (hr.mono (by decide)) (takes_of rfl rfl rfl rfl) (dl_var 2) (da_cons (dl_dat de_int) da_nil)))) (da_cons (dl_dat (de_val (dl_ownIx M.I_Lane (own_Lane_getitem_u M) (hr.mono (by decide)) (takes_of rfl rfl rfl rfl) (dl_var 2) (dl_dat (de_neg de_int))))) da_nil))))) (de_lst (da_cons (dl_dat de_int) (da_cons (dl_dat de_int) (da_cons (dl_dat de_int) (da_cons (dl_dat de_int) da_nil))))) (nomark _)) (dss_one (ds_ret (dl_dat de_bl))) dss_nil)
  (dss_cons (ds_if (dw (dw_or (dt_cmp (op_neP hr.units) g_ne (de_listG M.I_Lane M.mt_Lane_lots (gfn_Lane_lots M) (hr.mono (by decide)) (gbn_Lane_lots M) passEz (dl_var 2) rfl M.z_list bt_list) (de_lst (da_cons (dl_dat de_str) (da_cons (dl_dat de_str) (da_cons (dl_dat de_str) da_nil)))) (nomark _)) (dw_or (dt_cmp (op_neP hr.units) g_ne (de_ccon M.gc_Lane M.cr_Lane M.cv_Lane_MOST) de_int (nomark _)) (dw_or1 (dt_of (de_boolI M.I_Lane (own_Lane_bool_u M) (hr.mono (by decide)) (takes_of rfl rfl rfl rfl) M.z_bool (dl_var 2))))))) (dss_one (ds_ret (dl_dat de_bl))) dss_nil)
  (dss_cons (ds_set 3 sc_law.nd (dl_make M.I_Lane (ini_Lane M) (hr.mono (by decide)) (takes_of rfl rfl rfl rfl) M.gc_Lane (da_cons (dl_dat de_int) (da_cons (dl_dat (de_val (dl_call (ok_l_at M) (hr.mono (by decide)) M.g_l_at M.F_l_at.kp M.b_l_at (takes_of rfl rfl rfl rfl) (da_cons (dl_dat de_int) (da_cons (dl_dat (de_bin op_mulB g_mulB (de_tup (da_cons (dl_dat de_int) da_nil)) de_int)) da_nil))))) da_nil))))
  (dss_one (ds_ret (dl_dat (de_and (de_boolI M.I_Lane (own_Lane_bool_u M) (hr.mono (by decide)) (takes_of rfl rfl rfl rfl) M.z_bool (dl_var 3)) (de_and (de_cmp (op_eqP hr.units) g_eq (de_val (dl_lam (k := 8) M.w_word (by apply give_word) TB_law rfl M.tm_law M.tu_law (hr.mono (by decide)) (LamX.lamS_by (sc := defScope s_law) (by decide +kernel)) (fun A outer s H E f c hr => (dl_meth M.I_Lane (own_Lane_enter M) (hr.mono (by decide)) (takes_of rfl rfl rfl rfl) (dl_var 3) (da_cons (dl_dat de_int) da_nil))))) de_str (nomark _)) (de_one (de_cmp (op_eqP hr.units) g_eq (de_val (dl_meth M.I_Lane (own_Lane_run M) (hr.mono (by decide)) (takes_of rfl rfl rfl rfl) (dl_var 3) (da_cons (dl_dat de_str) (da_cons (dl_dat de_int) da_nil)))) de_int (nomark _)))))))))))))) (h_law ["InvalidBeginning", "InvalidDrill", "TooMany", "InvalidRun", "InvalidPlace", "NothingToUndo", "InvalidSheep"])
end
theorem law_in (ns : List Int) (T : List Ob) (Q : Sl → List Ob → Prop) (QX : Xn → List Ob → Prop) (h : ns.length ≤ 63) (q : ∀ T', Q (.dat (.bl true)) T') : (S_law ["InvalidBeginning", "InvalidDrill", "TooMany", "InvalidRun", "InvalidPlace", "NothingToUndo", "InvalidSheep"]) [.dat (.scr ns)] T Q QX := by
  refine ⟨ns, rfl, h, ?_⟩
  first | exact q | exact ⟨by decide, q⟩ | exact ⟨by decide, by decide, q⟩ | exact ⟨by decide, by decide, by decide, q⟩ | exact ⟨by decide, by decide, by decide, by decide, q⟩
set_option maxHeartbeats 0 in
theorem all_mk {l : PySem.W.OpenLaw} {w : World} {K : PySem.W.Frag} {h : Heap} {mg mb : Str → Option Value} {q : Program} {lo : List Str} {mean : ExcName → Option Value} {fa f0 f1 f2 f3 f4 f5 f6 f7 f8 f9 f10 f11 f12 f13 f14 f15 f16 f17 f18 f19 f20 f21 f22 f23 f24 f25 f26 f27 f28 f29 f30 f31 f32 f33 f34 f35 f36 f37 f38 cc38 cc36 cc35 cc37 pp38 pp36 pp35 pp37 C_InvalidBeginning C_InvalidDrill C_InvalidRun C_InvalidPlace C_NothingToUndo C_InvalidSheep C_InvalidMany C_InvalidIndex C_Unlike C_DogError C_TooMany C_InvalidText I_TooMany C_Lane pr7 pr8 pr9 : Addr} (X : K.In h) (T : Top q lo mean mg mb h) (hfa : mg "law" = some (.ref fa))
    {oi1_TooMany oi2_TooMany oi3_TooMany oi4_TooMany oi5_TooMany oi6_TooMany : Value} {ui1_TooMany ui2_TooMany : Option Addr} {usi_TooMany : Array (Option Value)} {nm_TooMany qn_TooMany : Str} {N_TooMany : Addr} {bs_TooMany bm_TooMany : List Value} {sn_TooMany : List Str} {sub_TooMany : List Value} {ab_TooMany : Bool} {col_TooMany : Option Bool} {dd_TooMany : Option Addr} {k0_TooMany k1_TooMany k2_TooMany k3_TooMany k5_TooMany : Option Value}
    {od0 od1 od2 od3 od4 od5 od6 od7 od8 od9 od10 od11 od12 od13 od14 od15 od16 od17 od18 od19 od20 od21 od22 od23 od24 od25 od26 od27 od28 od29 od30 od31 od32 od33 od34 od35 od36 od37 od38 an0 an1 an2 an3 an4 an5 an6 an7 an8 an9 an10 an11 an12 an13 an14 an15 an16 an17 an18 an19 an20 an21 an22 an23 an24 an25 an26 an27 an28 an29 an30 an31 an32 an33 an34 an35 an36 an37 an38 yd38 yd36 yd35 yd37 : Option Addr} {sl0 sl1 sl2 sl3 sl4 sl5 sl6 sl7 sl8 sl9 sl10 sl11 sl12 sl13 sl14 sl15 sl16 sl17 sl18 sl19 sl20 sl21 sl22 sl23 sl24 sl25 sl26 sl27 sl28 sl29 sl30 sl31 sl32 sl33 sl34 sl35 sl36 sl37 sl38 ys38 ys36 ys35 ys37 : Array (Option Value)} {yv38 yv36 yv35 yv37 : Array Value} {oc0 oc1 oc2 oc3 oc4 oc5 oc6 oc7 oc8 oc9 oc10 oc11 oc12 oc13 oc14 oc15 oc16 oc17 oc18 oc19 oc20 oc21 oc22 oc23 oc24 oc25 oc26 oc27 oc28 oc29 oc30 oc31 oc32 oc33 oc34 oc35 oc36 oc37 oc38 kV0 kV1 kV2 kV3 kV4 kV5 kV6 kV7 kV8 kV9 kV10 kV11 kV12 kV13 kV14 kV15 kV16 kV17 kV18 kV19 kV20 kV21 kV22 kV23 kV24 kV25 kV26 kV27 kV28 kV29 kV30 kV31 kV32 kV33 kV34 kV35 kV36 kV37 kV38 dc0 dc1 dc2 dc3 dc4 dc5 dc6 dc7 dc8 dc9 dc10 dc11 dc12 dc13 dc14 dc15 dc16 dc17 dc18 dc19 dc20 dc21 dc22 dc23 dc24 dc25 dc26 dc27 dc28 dc29 dc30 dc31 dc32 dc33 dc34 dc35 dc36 dc37 dc38 pm0 pm1 pm2 pm3 pm4 pm5 pm6 pm7 pm8 pm9 pm10 pm11 pm12 pm13 pm14 pm15 pm16 pm17 pm18 pm19 pm20 pm21 pm22 pm23 pm24 pm25 pm26 pm27 pm28 pm29 pm30 pm31 pm32 pm33 pm34 pm35 pm36 pm37 pm38 cd0 cd1 cd2 cd3 cd4 cd5 cd6 cd7 cd8 cd9 cd10 cd11 cd12 cd13 cd14 cd15 cd16 cd17 cd18 cd19 cd20 cd21 cd22 cd23 cd24 cd25 cd26 cd27 cd28 cd29 cd30 cd31 cd32 cd33 cd34 ct0 ct1 ct2 ct3 ct4 ct5 ct6 ct7 ct8 ct9 ct10 ct11 ct12 ct13 ct14 ct15 ct16 ct17 ct18 ct19 ct20 ct21 ct22 ct23 ct24 ct25 ct26 ct27 ct28 ct29 ct30 ct31 ct32 ct33 ct34 ct35 ct36 ct37 ct38 yc38 yc36 yc35 yc37 : Value} {qd38 qd36 qd35 qd37 : DefRec} {t_GREAT t_FAR t_MOST_SHEEP t_WIDEST t_DEEPEST t_Lane_MOST : Tok} {rs7 rs8 rs9 : List Value}
    (eg_Lane : PySem.W.nsIn K mainGlobals "Lane" = some (some (.ref C_Lane)))
    (eg_InvalidBeginning : PySem.W.nsIn K mainGlobals "InvalidBeginning" = some (some (.ref C_InvalidBeginning)))
    (eg_InvalidDrill : PySem.W.nsIn K mainGlobals "InvalidDrill" = some (some (.ref C_InvalidDrill)))
    (eg_InvalidRun : PySem.W.nsIn K mainGlobals "InvalidRun" = some (some (.ref C_InvalidRun)))
    (eg_InvalidPlace : PySem.W.nsIn K mainGlobals "InvalidPlace" = some (some (.ref C_InvalidPlace)))
    (eg_NothingToUndo : PySem.W.nsIn K mainGlobals "NothingToUndo" = some (some (.ref C_NothingToUndo)))
    (eg_InvalidSheep : PySem.W.nsIn K mainGlobals "InvalidSheep" = some (some (.ref C_InvalidSheep)))
    (eg_InvalidMany : PySem.W.nsIn K mainGlobals "InvalidMany" = some (some (.ref C_InvalidMany)))
    (eg_InvalidIndex : PySem.W.nsIn K mainGlobals "InvalidIndex" = some (some (.ref C_InvalidIndex)))
    (eg_Unlike : PySem.W.nsIn K mainGlobals "Unlike" = some (some (.ref C_Unlike)))
    (eg_DogError : PySem.W.nsIn K mainGlobals "DogError" = some (some (.ref C_DogError)))
    (eg_TooMany : PySem.W.nsIn K mainGlobals "TooMany" = some (some (.ref C_TooMany)))
    (eg_InvalidText : PySem.W.nsIn K mainGlobals "InvalidText" = some (some (.ref C_InvalidText)))
    (a0 : PySem.W.nsIn K mainGlobals "is_int" = some (some (.ref f0)))
    (l0 : K.lookup f0 = some ⟨oc0, od0, .func (PySem.W.fnOf "is_int" "is_int" (defArgs s_is_int) (defBody s_is_int) (defScope s_is_int) .none kV0 dc0 pm0 an0 cd0 ct0), sl0⟩)
    (c0 : PySem.W.codeIn K cd0 "is_int" = true)
    (k0 : PySem.W.keepIn K (.ref f0) = true)
    (a1 : PySem.W.nsIn K mainGlobals "is_a_run" = some (some (.ref f1)))
    (l1 : K.lookup f1 = some ⟨oc1, od1, .func (PySem.W.fnOf "is_a_run" "is_a_run" (defArgs s_is_a_run) (defBody s_is_a_run) (defScope s_is_a_run) .none kV1 dc1 pm1 an1 cd1 ct1), sl1⟩)
    (c1 : PySem.W.codeIn K cd1 "is_a_run" = true)
    (k1 : PySem.W.keepIn K (.ref f1) = true)
    (a2 : PySem.W.nsIn K mainGlobals "begins" = some (some (.ref f2)))
    (l2 : K.lookup f2 = some ⟨oc2, od2, .func (PySem.W.fnOf "begins" "begins" (defArgs s_begins) (defBody s_begins) (defScope s_begins) .none kV2 dc2 pm2 an2 cd2 ct2), sl2⟩)
    (c2 : PySem.W.codeIn K cd2 "begins" = true)
    (k2 : PySem.W.keepIn K (.ref f2) = true)
    (a3 : PySem.W.nsIn K mainGlobals "need_beginning" = some (some (.ref f3)))
    (l3 : K.lookup f3 = some ⟨oc3, od3, .func (PySem.W.fnOf "need_beginning" "need_beginning" (defArgs s_need_beginning) (defBody s_need_beginning) (defScope s_need_beginning) .none kV3 dc3 pm3 an3 cd3 ct3), sl3⟩)
    (c3 : PySem.W.codeIn K cd3 "need_beginning" = true)
    (k3 : PySem.W.keepIn K (.ref f3) = true)
    (a4 : PySem.W.nsIn K mainGlobals "pushed" = some (some (.ref f4)))
    (l4 : K.lookup f4 = some ⟨oc4, od4, .func (PySem.W.fnOf "pushed" "pushed" (defArgs s_pushed) (defBody s_pushed) (defScope s_pushed) .none kV4 dc4 pm4 an4 cd4 ct4), sl4⟩)
    (c4 : PySem.W.codeIn K cd4 "pushed" = true)
    (k4 : PySem.W.keepIn K (.ref f4) = true)
    (a5 : PySem.W.nsIn K mainGlobals "ran" = some (some (.ref f5)))
    (l5 : K.lookup f5 = some ⟨oc5, od5, .func (PySem.W.fnOf "ran" "ran" (defArgs s_ran) (defBody s_ran) (defScope s_ran) .none kV5 dc5 pm5 an5 cd5 ct5), sl5⟩)
    (c5 : PySem.W.codeIn K cd5 "ran" = true)
    (k5 : PySem.W.keepIn K (.ref f5) = true)
    (ma6 : PySem.W.findIn K (.ref C_Lane) "__init__" = some (some (.ref f6)))
    (mf6 : PySem.W.isFn K (.ref f6) = true)
    (mi6 : PySem.W.fnIn K f6 = true)
    (l6 : K.lookup f6 = some ⟨oc6, od6, .func (PySem.W.fnOf "__init__" "Lane.__init__" (defArgs s_Lane_init_u) (defBody s_Lane_init_u) (defScope s_Lane_init_u) .none kV6 dc6 pm6 an6 cd6 ct6), sl6⟩)
    (c6 : PySem.W.codeIn K cd6 "Lane.__init__" = true)
    (k6 : PySem.W.keepIn K (.ref f6) = true)
    (ma7 : PySem.W.findIn K (.ref C_Lane) "gap" = some (some (.ref pr7)))
    (mr7 : PySem.W.recIn K pr7 "property" = some (.ref f7 :: rs7))
    (mg7 : PySem.W.specialIn K (.ref pr7) "__get__" = some (some (.builtin "property.__get__")))
    (mt7 : PySem.W.takesIn K (.ref pr7) = some true)
    (mi7 : PySem.W.fnIn K f7 = true)
    (l7 : K.lookup f7 = some ⟨oc7, od7, .func (PySem.W.fnOf "gap" "Lane.gap" (defArgs s_Lane_gap) (defBody s_Lane_gap) (defScope s_Lane_gap) .none kV7 dc7 pm7 an7 cd7 ct7), sl7⟩)
    (c7 : PySem.W.codeIn K cd7 "Lane.gap" = true)
    (k7 : PySem.W.keepIn K (.ref f7) = true)
    (ma8 : PySem.W.findIn K (.ref C_Lane) "places" = some (some (.ref pr8)))
    (mr8 : PySem.W.recIn K pr8 "property" = some (.ref f8 :: rs8))
    (mg8 : PySem.W.specialIn K (.ref pr8) "__get__" = some (some (.builtin "property.__get__")))
    (mt8 : PySem.W.takesIn K (.ref pr8) = some true)
    (mi8 : PySem.W.fnIn K f8 = true)
    (l8 : K.lookup f8 = some ⟨oc8, od8, .func (PySem.W.fnOf "places" "Lane.places" (defArgs s_Lane_places) (defBody s_Lane_places) (defScope s_Lane_places) .none kV8 dc8 pm8 an8 cd8 ct8), sl8⟩)
    (c8 : PySem.W.codeIn K cd8 "Lane.places" = true)
    (k8 : PySem.W.keepIn K (.ref f8) = true)
    (ma9 : PySem.W.findIn K (.ref C_Lane) "runs" = some (some (.ref pr9)))
    (mr9 : PySem.W.recIn K pr9 "property" = some (.ref f9 :: rs9))
    (mg9 : PySem.W.specialIn K (.ref pr9) "__get__" = some (some (.builtin "property.__get__")))
    (mt9 : PySem.W.takesIn K (.ref pr9) = some true)
    (mi9 : PySem.W.fnIn K f9 = true)
    (l9 : K.lookup f9 = some ⟨oc9, od9, .func (PySem.W.fnOf "runs" "Lane.runs" (defArgs s_Lane_runs) (defBody s_Lane_runs) (defScope s_Lane_runs) .none kV9 dc9 pm9 an9 cd9 ct9), sl9⟩)
    (c9 : PySem.W.codeIn K cd9 "Lane.runs" = true)
    (k9 : PySem.W.keepIn K (.ref f9) = true)
    (ma10 : PySem.W.findIn K (.ref C_Lane) "noted" = some (some (.ref f10)))
    (mf10 : PySem.W.isFn K (.ref f10) = true)
    (mi10 : PySem.W.fnIn K f10 = true)
    (l10 : K.lookup f10 = some ⟨oc10, od10, .func (PySem.W.fnOf "noted" "Lane.noted" (defArgs s_Lane_noted) (defBody s_Lane_noted) (defScope s_Lane_noted) .none kV10 dc10 pm10 an10 cd10 ct10), sl10⟩)
    (c10 : PySem.W.codeIn K cd10 "Lane.noted" = true)
    (k10 : PySem.W.keepIn K (.ref f10) = true)
    (ma11 : PySem.W.findIn K (.ref C_Lane) "run" = some (some (.ref f11)))
    (mf11 : PySem.W.isFn K (.ref f11) = true)
    (mi11 : PySem.W.fnIn K f11 = true)
    (l11 : K.lookup f11 = some ⟨oc11, od11, .func (PySem.W.fnOf "run" "Lane.run" (defArgs s_Lane_run) (defBody s_Lane_run) (defScope s_Lane_run) .none kV11 dc11 pm11 an11 cd11 ct11), sl11⟩)
    (c11 : PySem.W.codeIn K cd11 "Lane.run" = true)
    (k11 : PySem.W.keepIn K (.ref f11) = true)
    (ma12 : PySem.W.findIn K (.ref C_Lane) "__iadd__" = some (some (.ref f12)))
    (mf12 : PySem.W.isFn K (.ref f12) = true)
    (mi12 : PySem.W.fnIn K f12 = true)
    (l12 : K.lookup f12 = some ⟨oc12, od12, .func (PySem.W.fnOf "__iadd__" "Lane.__iadd__" (defArgs s_Lane_iadd_u) (defBody s_Lane_iadd_u) (defScope s_Lane_iadd_u) .none kV12 dc12 pm12 an12 cd12 ct12), sl12⟩)
    (c12 : PySem.W.codeIn K cd12 "Lane.__iadd__" = true)
    (k12 : PySem.W.keepIn K (.ref f12) = true)
    (ma13 : PySem.W.findIn K (.ref C_Lane) "enter" = some (some (.ref f13)))
    (mf13 : PySem.W.isFn K (.ref f13) = true)
    (mi13 : PySem.W.fnIn K f13 = true)
    (l13 : K.lookup f13 = some ⟨oc13, od13, .func (PySem.W.fnOf "enter" "Lane.enter" (defArgs s_Lane_enter) (defBody s_Lane_enter) (defScope s_Lane_enter) .none kV13 dc13 pm13 an13 cd13 ct13), sl13⟩)
    (c13 : PySem.W.codeIn K cd13 "Lane.enter" = true)
    (k13 : PySem.W.keepIn K (.ref f13) = true)
    (ma14 : PySem.W.findIn K (.ref C_Lane) "undo" = some (some (.ref f14)))
    (mf14 : PySem.W.isFn K (.ref f14) = true)
    (mi14 : PySem.W.fnIn K f14 = true)
    (l14 : K.lookup f14 = some ⟨oc14, od14, .func (PySem.W.fnOf "undo" "Lane.undo" (defArgs s_Lane_undo) (defBody s_Lane_undo) (defScope s_Lane_undo) .none kV14 dc14 pm14 an14 cd14 ct14), sl14⟩)
    (c14 : PySem.W.codeIn K cd14 "Lane.undo" = true)
    (k14 : PySem.W.keepIn K (.ref f14) = true)
    (ma15 : PySem.W.findIn K (.ref C_Lane) "__getitem__" = some (some (.ref f15)))
    (mf15 : PySem.W.isFn K (.ref f15) = true)
    (mi15 : PySem.W.fnIn K f15 = true)
    (l15 : K.lookup f15 = some ⟨oc15, od15, .func (PySem.W.fnOf "__getitem__" "Lane.__getitem__" (defArgs s_Lane_getitem_u) (defBody s_Lane_getitem_u) (defScope s_Lane_getitem_u) .none kV15 dc15 pm15 an15 cd15 ct15), sl15⟩)
    (c15 : PySem.W.codeIn K cd15 "Lane.__getitem__" = true)
    (k15 : PySem.W.keepIn K (.ref f15) = true)
    (ma16 : PySem.W.findIn K (.ref C_Lane) "__contains__" = some (some (.ref f16)))
    (mf16 : PySem.W.isFn K (.ref f16) = true)
    (mi16 : PySem.W.fnIn K f16 = true)
    (l16 : K.lookup f16 = some ⟨oc16, od16, .func (PySem.W.fnOf "__contains__" "Lane.__contains__" (defArgs s_Lane_contains_u) (defBody s_Lane_contains_u) (defScope s_Lane_contains_u) .none kV16 dc16 pm16 an16 cd16 ct16), sl16⟩)
    (c16 : PySem.W.codeIn K cd16 "Lane.__contains__" = true)
    (k16 : PySem.W.keepIn K (.ref f16) = true)
    (ma17 : PySem.W.findIn K (.ref C_Lane) "__len__" = some (some (.ref f17)))
    (mf17 : PySem.W.isFn K (.ref f17) = true)
    (mi17 : PySem.W.fnIn K f17 = true)
    (l17 : K.lookup f17 = some ⟨oc17, od17, .func (PySem.W.fnOf "__len__" "Lane.__len__" (defArgs s_Lane_len_u) (defBody s_Lane_len_u) (defScope s_Lane_len_u) .none kV17 dc17 pm17 an17 cd17 ct17), sl17⟩)
    (c17 : PySem.W.codeIn K cd17 "Lane.__len__" = true)
    (k17 : PySem.W.keepIn K (.ref f17) = true)
    (ma18 : PySem.W.findIn K (.ref C_Lane) "__bool__" = some (some (.ref f18)))
    (mf18 : PySem.W.isFn K (.ref f18) = true)
    (mi18 : PySem.W.fnIn K f18 = true)
    (l18 : K.lookup f18 = some ⟨oc18, od18, .func (PySem.W.fnOf "__bool__" "Lane.__bool__" (defArgs s_Lane_bool_u) (defBody s_Lane_bool_u) (defScope s_Lane_bool_u) .none kV18 dc18 pm18 an18 cd18 ct18), sl18⟩)
    (c18 : PySem.W.codeIn K cd18 "Lane.__bool__" = true)
    (k18 : PySem.W.keepIn K (.ref f18) = true)
    (ma19 : PySem.W.findIn K (.ref C_Lane) "lots" = some (some (.ref f19)))
    (mf19 : PySem.W.isFn K (.ref f19) = true)
    (mi19 : PySem.W.fnIn K f19 = true)
    (l19 : K.lookup f19 = some ⟨oc19, od19, .func (PySem.W.fnOf "lots" "Lane.lots" (defArgs s_Lane_lots) (defBody s_Lane_lots) (defScope s_Lane_lots) .none kV19 dc19 pm19 an19 cd19 ct19), sl19⟩)
    (c19 : PySem.W.codeIn K cd19 "Lane.lots" = true)
    (k19 : PySem.W.keepIn K (.ref f19) = true)
    (ma20 : PySem.W.findIn K (.ref C_Lane) "__eq__" = some (some (.ref f20)))
    (mf20 : PySem.W.isFn K (.ref f20) = true)
    (mi20 : PySem.W.fnIn K f20 = true)
    (l20 : K.lookup f20 = some ⟨oc20, od20, .func (PySem.W.fnOf "__eq__" "Lane.__eq__" (defArgs s_Lane_eq_u) (defBody s_Lane_eq_u) (defScope s_Lane_eq_u) .none kV20 dc20 pm20 an20 cd20 ct20), sl20⟩)
    (c20 : PySem.W.codeIn K cd20 "Lane.__eq__" = true)
    (k20 : PySem.W.keepIn K (.ref f20) = true)
    (a21 : PySem.W.nsIn K mainGlobals "_law_cart_of" = some (some (.ref f21)))
    (l21 : K.lookup f21 = some ⟨oc21, od21, .func (PySem.W.fnOf "_law_cart_of" "_law_cart_of" (defArgs s_l_cart_of) (defBody s_l_cart_of) (defScope s_l_cart_of) .none kV21 dc21 pm21 an21 cd21 ct21), sl21⟩)
    (c21 : PySem.W.codeIn K cd21 "_law_cart_of" = true)
    (k21 : PySem.W.keepIn K (.ref f21) = true)
    (a22 : PySem.W.nsIn K mainGlobals "_law_take" = some (some (.ref f22)))
    (l22 : K.lookup f22 = some ⟨oc22, od22, .func (PySem.W.fnOf "_law_take" "_law_take" (defArgs s_l_take) (defBody s_l_take) (defScope s_l_take) .none kV22 dc22 pm22 an22 cd22 ct22), sl22⟩)
    (c22 : PySem.W.codeIn K cd22 "_law_take" = true)
    (k22 : PySem.W.keepIn K (.ref f22) = true)
    (a23 : PySem.W.nsIn K mainGlobals "_law_any" = some (some (.ref f23)))
    (l23 : K.lookup f23 = some ⟨oc23, od23, .func (PySem.W.fnOf "_law_any" "_law_any" (defArgs s_l_any) (defBody s_l_any) (defScope s_l_any) .none kV23 dc23 pm23 an23 cd23 ct23), sl23⟩)
    (c23 : PySem.W.codeIn K cd23 "_law_any" = true)
    (k23 : PySem.W.keepIn K (.ref f23) = true)
    (a24 : PySem.W.nsIn K mainGlobals "_law_deed" = some (some (.ref f24)))
    (l24 : K.lookup f24 = some ⟨oc24, od24, .func (PySem.W.fnOf "_law_deed" "_law_deed" (defArgs s_l_deed) (defBody s_l_deed) (defScope s_l_deed) .none kV24 dc24 pm24 an24 cd24 ct24), sl24⟩)
    (c24 : PySem.W.codeIn K cd24 "_law_deed" = true)
    (k24 : PySem.W.keepIn K (.ref f24) = true)
    (a25 : PySem.W.nsIn K mainGlobals "_law_at" = some (some (.ref f25)))
    (l25 : K.lookup f25 = some ⟨oc25, od25, .func (PySem.W.fnOf "_law_at" "_law_at" (defArgs s_l_at) (defBody s_l_at) (defScope s_l_at) .none kV25 dc25 pm25 an25 cd25 ct25), sl25⟩)
    (c25 : PySem.W.codeIn K cd25 "_law_at" = true)
    (k25 : PySem.W.keepIn K (.ref f25) = true)
    (a26 : PySem.W.nsIn K mainGlobals "_law_rooms" = some (some (.ref f26)))
    (l26 : K.lookup f26 = some ⟨oc26, od26, .func (PySem.W.fnOf "_law_rooms" "_law_rooms" (defArgs s_l_rooms) (defBody s_l_rooms) (defScope s_l_rooms) .none kV26 dc26 pm26 an26 cd26 ct26), sl26⟩)
    (c26 : PySem.W.codeIn K cd26 "_law_rooms" = true)
    (k26 : PySem.W.keepIn K (.ref f26) = true)
    (a27 : PySem.W.nsIn K mainGlobals "_law_closed" = some (some (.ref f27)))
    (l27 : K.lookup f27 = some ⟨oc27, od27, .func (PySem.W.fnOf "_law_closed" "_law_closed" (defArgs s_l_closed) (defBody s_l_closed) (defScope s_l_closed) .none kV27 dc27 pm27 an27 cd27 ct27), sl27⟩)
    (c27 : PySem.W.codeIn K cd27 "_law_closed" = true)
    (k27 : PySem.W.keepIn K (.ref f27) = true)
    (a28 : PySem.W.nsIn K mainGlobals "_law_ran" = some (some (.ref f28)))
    (l28 : K.lookup f28 = some ⟨oc28, od28, .func (PySem.W.fnOf "_law_ran" "_law_ran" (defArgs s_l_ran) (defBody s_l_ran) (defScope s_l_ran) .none kV28 dc28 pm28 an28 cd28 ct28), sl28⟩)
    (c28 : PySem.W.codeIn K cd28 "_law_ran" = true)
    (k28 : PySem.W.keepIn K (.ref f28) = true)
    (a29 : PySem.W.nsIn K mainGlobals "_law_end" = some (some (.ref f29)))
    (l29 : K.lookup f29 = some ⟨oc29, od29, .func (PySem.W.fnOf "_law_end" "_law_end" (defArgs s_l_end) (defBody s_l_end) (defScope s_l_end) .none kV29 dc29 pm29 an29 cd29 ct29), sl29⟩)
    (c29 : PySem.W.codeIn K cd29 "_law_end" = true)
    (k29 : PySem.W.keepIn K (.ref f29) = true)
    (a30 : PySem.W.nsIn K mainGlobals "_law_word" = some (some (.ref f30)))
    (l30 : K.lookup f30 = some ⟨oc30, od30, .func (PySem.W.fnOf "_law_word" "_law_word" (defArgs s_l_word) (defBody s_l_word) (defScope s_l_word) .none kV30 dc30 pm30 an30 cd30 ct30), sl30⟩)
    (c30 : PySem.W.codeIn K cd30 "_law_word" = true)
    (k30 : PySem.W.keepIn K (.ref f30) = true)
    (a31 : PySem.W.nsIn K mainGlobals "_law_is_deed" = some (some (.ref f31)))
    (l31 : K.lookup f31 = some ⟨oc31, od31, .func (PySem.W.fnOf "_law_is_deed" "_law_is_deed" (defArgs s_l_is_deed) (defBody s_l_is_deed) (defScope s_l_is_deed) .none kV31 dc31 pm31 an31 cd31 ct31), sl31⟩)
    (c31 : PySem.W.codeIn K cd31 "_law_is_deed" = true)
    (k31 : PySem.W.keepIn K (.ref f31) = true)
    (a32 : PySem.W.nsIn K mainGlobals "_law_due" = some (some (.ref f32)))
    (l32 : K.lookup f32 = some ⟨oc32, od32, .func (PySem.W.fnOf "_law_due" "_law_due" (defArgs s_l_due) (defBody s_l_due) (defScope s_l_due) .none kV32 dc32 pm32 an32 cd32 ct32), sl32⟩)
    (c32 : PySem.W.codeIn K cd32 "_law_due" = true)
    (k32 : PySem.W.keepIn K (.ref f32) = true)
    (a33 : PySem.W.nsIn K mainGlobals "_law_added" = some (some (.ref f33)))
    (l33 : K.lookup f33 = some ⟨oc33, od33, .func (PySem.W.fnOf "_law_added" "_law_added" (defArgs s_l_added) (defBody s_l_added) (defScope s_l_added) .none kV33 dc33 pm33 an33 cd33 ct33), sl33⟩)
    (c33 : PySem.W.codeIn K cd33 "_law_added" = true)
    (k33 : PySem.W.keepIn K (.ref f33) = true)
    (a34 : PySem.W.nsIn K mainGlobals "_law_call" = some (some (.ref f34)))
    (l34 : K.lookup f34 = some ⟨oc34, od34, .func (PySem.W.fnOf "_law_call" "_law_call" (defArgs s_l_call) (defBody s_l_call) (defScope s_l_call) .none kV34 dc34 pm34 an34 cd34 ct34), sl34⟩)
    (c34 : PySem.W.codeIn K cd34 "_law_call" = true)
    (k34 : PySem.W.keepIn K (.ref f34) = true)
    (a35 : PySem.W.nsIn K mainGlobals "_law_called" = some (some (.ref f35)))
    (l35 : K.lookup f35 = some ⟨oc35, od35, .func (PySem.W.fnOf "_law_called" "_law_called" (defArgs s_l_called) (defBody s_l_called) (defScope s_l_called) .none kV35 dc35 pm35 an35 (.ref cc35) ct35), sl35⟩)
    (c35 : PySem.W.codeIn K (.ref cc35) "_law_called" = true)
    (k35 : PySem.W.keepIn K (.ref f35) = true)
    (y35 : K.lookup cc35 = some ⟨yc35, yd35, .fields yv35, ys35⟩)
    (p35 : yv35[11]? = some (.ref pp35))
    (r35 : K.lookup pp35 = none)
    (q35 : (recsOf q).find? (fun e => e.name == ("_law_called" : Str)) = some qd35)
    (a36 : PySem.W.nsIn K mainGlobals "_law_lots" = some (some (.ref f36)))
    (l36 : K.lookup f36 = some ⟨oc36, od36, .func (PySem.W.fnOf "_law_lots" "_law_lots" (defArgs s_l_lots) (defBody s_l_lots) (defScope s_l_lots) .none kV36 dc36 pm36 an36 (.ref cc36) ct36), sl36⟩)
    (c36 : PySem.W.codeIn K (.ref cc36) "_law_lots" = true)
    (k36 : PySem.W.keepIn K (.ref f36) = true)
    (y36 : K.lookup cc36 = some ⟨yc36, yd36, .fields yv36, ys36⟩)
    (p36 : yv36[11]? = some (.ref pp36))
    (r36 : K.lookup pp36 = none)
    (q36 : (recsOf q).find? (fun e => e.name == ("_law_lots" : Str)) = some qd36)
    (a37 : PySem.W.nsIn K mainGlobals "_law_shows" = some (some (.ref f37)))
    (l37 : K.lookup f37 = some ⟨oc37, od37, .func (PySem.W.fnOf "_law_shows" "_law_shows" (defArgs s_l_shows) (defBody s_l_shows) (defScope s_l_shows) .none kV37 dc37 pm37 an37 (.ref cc37) ct37), sl37⟩)
    (c37 : PySem.W.codeIn K (.ref cc37) "_law_shows" = true)
    (k37 : PySem.W.keepIn K (.ref f37) = true)
    (y37 : K.lookup cc37 = some ⟨yc37, yd37, .fields yv37, ys37⟩)
    (p37 : yv37[11]? = some (.ref pp37))
    (r37 : K.lookup pp37 = none)
    (q37 : (recsOf q).find? (fun e => e.name == ("_law_shows" : Str)) = some qd37)
    (a38 : PySem.W.nsIn K mainGlobals "law" = some (some (.ref f38)))
    (l38 : K.lookup f38 = some ⟨oc38, od38, .func (PySem.W.fnOf "law" "law" (defArgs s_law) (defBody s_law) (defScope s_law) .none kV38 dc38 pm38 an38 (.ref cc38) ct38), sl38⟩)
    (c38 : PySem.W.codeIn K (.ref cc38) "law" = true)
    (k38 : PySem.W.keepIn K (.ref f38) = true)
    (y38 : K.lookup cc38 = some ⟨yc38, yd38, .fields yv38, ys38⟩)
    (p38 : yv38[11]? = some (.ref pp38))
    (r38 : K.lookup pp38 = none)
    (q38 : (recsOf q).find? (fun e => e.name == ("law" : Str)) = some qd38)
    (j38_36 : pp38 ≠ pp36)
    (j38_35 : pp38 ≠ pp35)
    (j38_37 : pp38 ≠ pp37)
    (j36_35 : pp36 ≠ pp35)
    (j36_37 : pp36 ≠ pp37)
    (j35_37 : pp35 ≠ pp37)
    (kpg_Lane : PySem.W.plainGet K C_Lane Str.empty = true)
    (khd_Lane : PySem.W.hasDictIn K C_Lane = true)
    (kpo_Lane : PySem.W.plainOver K C_Lane = true)
    (ksa_Lane : PySem.W.findIn K (.ref C_Lane) "__setattr__" = some (some (.builtin "object.__setattr__")))
    (ksf_Lane : PySem.W.selfFirst K C_Lane = true)
    (kmo_Lane : PySem.W.mroIn K C_Lane (.type "object") = some true)
    (kca_Lane : PySem.W.findIn K (.ref C_Lane) "__class__" = some (some (.builtin "object.__class__")))
    (kic_Lane : PySem.W.isClsIn K C_Lane = true)
    (kty_Lane : PySem.W.typeIn K (.ref C_Lane) = some (.type "type"))
    (ksNoneType_Lane : PySem.W.subIn K (.type "NoneType") (.ref C_Lane) = some false)
    (ksbool_Lane : PySem.W.subIn K (.type "bool") (.ref C_Lane) = some false)
    (ksint_Lane : PySem.W.subIn K (.type "int") (.ref C_Lane) = some false)
    (ksstr_Lane : PySem.W.subIn K (.type "str") (.ref C_Lane) = some false)
    (kstuple_Lane : PySem.W.subIn K (.type "tuple") (.ref C_Lane) = some false)
    (kslist_Lane : PySem.W.subIn K (.type "list") (.ref C_Lane) = some false)
    (kn_now_Lane : PySem.W.findIn K (.ref C_Lane) "now" = some none)
    (kn_past_Lane : PySem.W.findIn K (.ref C_Lane) "past" = some none)
    (kn_space_Lane : PySem.W.findIn K (.ref C_Lane) "space" = some none)
    (kmk_Lane : PySem.W.makesIn K C_Lane = true)
    (kkp_Lane : PySem.W.keepIn K (.ref C_Lane) = true)
    (krd_Lane : PySem.W.readsIn K C_Lane (.type "type") = true)
    (kga_Lane : PySem.W.specialIn K (.ref C_Lane) "__getattribute__" = some (some (.builtin "type.__getattribute__")))
    (kf_MOST_Lane : PySem.W.findIn K (.ref C_Lane) "MOST" = some (some (.int 50 t_Lane_MOST)))
    (kw_MOST_Lane : PySem.W.specialIn K (.int 50 t_Lane_MOST) "__get__" = some none)
    (kv_MOST_Lane : PySem.W.findCls K (.ref C_Lane) (.type "type") "MOST" = some (.val (.int 50 t_Lane_MOST)))
    (u__law_tried : PySem.W.nsIn K mainGlobals "_law_tried" = some none)
    (u__law_signs_right : PySem.W.nsIn K mainGlobals "_law_signs_right" = some none)
    (u__law_refused : PySem.W.nsIn K mainGlobals "_law_refused" = some none)
    (u__law_nested : PySem.W.nsIn K mainGlobals "_law_nested" = some none)
    (u__law_ended : PySem.W.nsIn K mainGlobals "_law_ended" = some none)
    (u__law_back : PySem.W.nsIn K mainGlobals "_law_back" = some none)
    (u__law_full_right : PySem.W.nsIn K mainGlobals "_law_full_right" = some none)
    (u__law_first_calls : PySem.W.nsIn K mainGlobals "_law_first_calls" = some none)
    (u__law_pair_calls : PySem.W.nsIn K mainGlobals "_law_pair_calls" = some none)
    (u__law_place_calls : PySem.W.nsIn K mainGlobals "_law_place_calls" = some none)
    (u__law_many_calls : PySem.W.nsIn K mainGlobals "_law_many_calls" = some none)
    (ex_InvalidBeginning : PySem.W.excIn K C_InvalidBeginning [.type "ValueError", .type "Exception", .type "BaseException", .type "object"] "ValueError.__new__" = true)
    (ek_InvalidBeginning : PySem.W.keepIn K (.ref C_InvalidBeginning) = true)
    (eb_InvalidBeginning : PySem.W.subIn K (.ref C_InvalidBeginning) (.type "BaseException") = some true)
    (et_InvalidBeginning : PySem.W.typeIn K (.ref C_InvalidBeginning) = some (.type "type"))
    (ex_InvalidDrill : PySem.W.excIn K C_InvalidDrill [.type "ValueError", .type "Exception", .type "BaseException", .type "object"] "ValueError.__new__" = true)
    (ek_InvalidDrill : PySem.W.keepIn K (.ref C_InvalidDrill) = true)
    (eb_InvalidDrill : PySem.W.subIn K (.ref C_InvalidDrill) (.type "BaseException") = some true)
    (et_InvalidDrill : PySem.W.typeIn K (.ref C_InvalidDrill) = some (.type "type"))
    (ex_InvalidRun : PySem.W.excIn K C_InvalidRun [.type "ValueError", .type "Exception", .type "BaseException", .type "object"] "ValueError.__new__" = true)
    (ek_InvalidRun : PySem.W.keepIn K (.ref C_InvalidRun) = true)
    (eb_InvalidRun : PySem.W.subIn K (.ref C_InvalidRun) (.type "BaseException") = some true)
    (et_InvalidRun : PySem.W.typeIn K (.ref C_InvalidRun) = some (.type "type"))
    (ex_InvalidPlace : PySem.W.excIn K C_InvalidPlace [.type "ValueError", .type "Exception", .type "BaseException", .type "object"] "ValueError.__new__" = true)
    (ek_InvalidPlace : PySem.W.keepIn K (.ref C_InvalidPlace) = true)
    (eb_InvalidPlace : PySem.W.subIn K (.ref C_InvalidPlace) (.type "BaseException") = some true)
    (et_InvalidPlace : PySem.W.typeIn K (.ref C_InvalidPlace) = some (.type "type"))
    (ex_NothingToUndo : PySem.W.excIn K C_NothingToUndo [.type "ValueError", .type "Exception", .type "BaseException", .type "object"] "ValueError.__new__" = true)
    (ek_NothingToUndo : PySem.W.keepIn K (.ref C_NothingToUndo) = true)
    (eb_NothingToUndo : PySem.W.subIn K (.ref C_NothingToUndo) (.type "BaseException") = some true)
    (et_NothingToUndo : PySem.W.typeIn K (.ref C_NothingToUndo) = some (.type "type"))
    (ex_InvalidSheep : PySem.W.excIn K C_InvalidSheep [.type "ValueError", .type "Exception", .type "BaseException", .type "object"] "ValueError.__new__" = true)
    (ek_InvalidSheep : PySem.W.keepIn K (.ref C_InvalidSheep) = true)
    (eb_InvalidSheep : PySem.W.subIn K (.ref C_InvalidSheep) (.type "BaseException") = some true)
    (et_InvalidSheep : PySem.W.typeIn K (.ref C_InvalidSheep) = some (.type "type"))
    (ex_InvalidMany : PySem.W.excIn K C_InvalidMany [.type "ValueError", .type "Exception", .type "BaseException", .type "object"] "ValueError.__new__" = true)
    (ek_InvalidMany : PySem.W.keepIn K (.ref C_InvalidMany) = true)
    (eb_InvalidMany : PySem.W.subIn K (.ref C_InvalidMany) (.type "BaseException") = some true)
    (et_InvalidMany : PySem.W.typeIn K (.ref C_InvalidMany) = some (.type "type"))
    (ex_InvalidIndex : PySem.W.excIn K C_InvalidIndex [.type "ValueError", .type "Exception", .type "BaseException", .type "object"] "ValueError.__new__" = true)
    (ek_InvalidIndex : PySem.W.keepIn K (.ref C_InvalidIndex) = true)
    (eb_InvalidIndex : PySem.W.subIn K (.ref C_InvalidIndex) (.type "BaseException") = some true)
    (et_InvalidIndex : PySem.W.typeIn K (.ref C_InvalidIndex) = some (.type "type"))
    (ex_Unlike : PySem.W.excIn K C_Unlike [.type "ValueError", .type "Exception", .type "BaseException", .type "object"] "ValueError.__new__" = true)
    (ek_Unlike : PySem.W.keepIn K (.ref C_Unlike) = true)
    (eb_Unlike : PySem.W.subIn K (.ref C_Unlike) (.type "BaseException") = some true)
    (et_Unlike : PySem.W.typeIn K (.ref C_Unlike) = some (.type "type"))
    (ex_DogError : PySem.W.excIn K C_DogError [.type "ValueError", .type "Exception", .type "BaseException", .type "object"] "ValueError.__new__" = true)
    (ek_DogError : PySem.W.keepIn K (.ref C_DogError) = true)
    (eb_DogError : PySem.W.subIn K (.ref C_DogError) (.type "BaseException") = some true)
    (et_DogError : PySem.W.typeIn K (.ref C_DogError) = some (.type "type"))
    (ik_TooMany : PySem.W.keepIn K (.ref C_TooMany) = true)
    (il_TooMany : K.lookup C_TooMany = some (excClassObj nm_TooMany qn_TooMany C_TooMany N_TooMany bs_TooMany bm_TooMany true sn_TooMany sub_TooMany ab_TooMany col_TooMany dd_TooMany k0_TooMany k1_TooMany k2_TooMany k3_TooMany k5_TooMany "ValueError.__new__"))
    (im_TooMany : PySem.HandSPX.refsVE bm_TooMany = true)
    (ia_TooMany : PySem.W.findIn K (.ref C_TooMany) "__setattr__" = some (some (.builtin "object.__setattr__")))
    (ii_TooMany : PySem.W.findIn K (.ref C_TooMany) "__init__" = some (some (.ref I_TooMany)))
    (it_TooMany : PySem.W.typeIn K (.ref I_TooMany) = some (.type "function"))
    (ip_TooMany : K.lookup I_TooMany = some ⟨oi1_TooMany, ui1_TooMany, .func (PySem.W.fnOf "__init__" "TooMany.__init__" (defArgs s_ini_TooMany) (defBody s_ini_TooMany) (defScope s_ini_TooMany) .none oi2_TooMany oi3_TooMany oi4_TooMany ui2_TooMany oi5_TooMany oi6_TooMany), usi_TooMany⟩)
    (ic_TooMany : PySem.W.codeIn K oi5_TooMany "TooMany.__init__" = true)
    (in_TooMany : PySem.W.findIn K (.ref C_TooMany) "limit" = some none)
    (bk_DogError : PySem.W.keepIn K (.ref C_DogError) = true)
    (br_DogError : PySem.W.readsIn K C_DogError (.type "type") = true)
    (ba_DogError : PySem.W.specialIn K (.ref C_DogError) "__getattribute__" = some (some (.builtin "type.__getattribute__")))
    (bi_DogError : PySem.W.findCls K (.ref C_DogError) (.type "type") "__init__" = some (.val (.builtin "ValueError.__init__")))
    (gn : PySem.W.specialIn K (.builtin "object.__class__") "__get__" = some (some (.builtin "getset_descriptor.__get__")))
    (gt : PySem.W.takesIn K (.builtin "object.__class__") = some true)
    (ea_DogError : PySem.W.isClsIn K C_DogError = true)
    (ec_DogError : PySem.W.findIn K (.ref C_DogError) "__getattribute__" = some (some (.builtin "BaseException.__getattribute__")))
    (ed_DogError : PySem.W.findIn K (.ref C_DogError) "__getattr__" = some none)
    (ee_DogError : PySem.W.subIn K (.ref C_DogError) (.type "BaseException") = some true)
    (ef_DogError : PySem.W.findIn K (.ref C_DogError) "__class__" = some (some (.builtin "object.__class__")))
    (eh_DogError : PySem.W.mroIn K C_DogError (.type "object") = some true)
    (ea_InvalidDrill : PySem.W.isClsIn K C_InvalidDrill = true)
    (ec_InvalidDrill : PySem.W.findIn K (.ref C_InvalidDrill) "__getattribute__" = some (some (.builtin "BaseException.__getattribute__")))
    (ed_InvalidDrill : PySem.W.findIn K (.ref C_InvalidDrill) "__getattr__" = some none)
    (ee_InvalidDrill : PySem.W.subIn K (.ref C_InvalidDrill) (.type "BaseException") = some true)
    (ef_InvalidDrill : PySem.W.findIn K (.ref C_InvalidDrill) "__class__" = some (some (.builtin "object.__class__")))
    (eh_InvalidDrill : PySem.W.mroIn K C_InvalidDrill (.type "object") = some true)
    (ea_InvalidBeginning : PySem.W.isClsIn K C_InvalidBeginning = true)
    (ec_InvalidBeginning : PySem.W.findIn K (.ref C_InvalidBeginning) "__getattribute__" = some (some (.builtin "BaseException.__getattribute__")))
    (ed_InvalidBeginning : PySem.W.findIn K (.ref C_InvalidBeginning) "__getattr__" = some none)
    (ee_InvalidBeginning : PySem.W.subIn K (.ref C_InvalidBeginning) (.type "BaseException") = some true)
    (ef_InvalidBeginning : PySem.W.findIn K (.ref C_InvalidBeginning) "__class__" = some (some (.builtin "object.__class__")))
    (eh_InvalidBeginning : PySem.W.mroIn K C_InvalidBeginning (.type "object") = some true)
    (ea_InvalidMany : PySem.W.isClsIn K C_InvalidMany = true)
    (ec_InvalidMany : PySem.W.findIn K (.ref C_InvalidMany) "__getattribute__" = some (some (.builtin "BaseException.__getattribute__")))
    (ed_InvalidMany : PySem.W.findIn K (.ref C_InvalidMany) "__getattr__" = some none)
    (ee_InvalidMany : PySem.W.subIn K (.ref C_InvalidMany) (.type "BaseException") = some true)
    (ef_InvalidMany : PySem.W.findIn K (.ref C_InvalidMany) "__class__" = some (some (.builtin "object.__class__")))
    (eh_InvalidMany : PySem.W.mroIn K C_InvalidMany (.type "object") = some true)
    (ea_InvalidSheep : PySem.W.isClsIn K C_InvalidSheep = true)
    (ec_InvalidSheep : PySem.W.findIn K (.ref C_InvalidSheep) "__getattribute__" = some (some (.builtin "BaseException.__getattribute__")))
    (ed_InvalidSheep : PySem.W.findIn K (.ref C_InvalidSheep) "__getattr__" = some none)
    (ee_InvalidSheep : PySem.W.subIn K (.ref C_InvalidSheep) (.type "BaseException") = some true)
    (ef_InvalidSheep : PySem.W.findIn K (.ref C_InvalidSheep) "__class__" = some (some (.builtin "object.__class__")))
    (eh_InvalidSheep : PySem.W.mroIn K C_InvalidSheep (.type "object") = some true)
    (ea_InvalidPlace : PySem.W.isClsIn K C_InvalidPlace = true)
    (ec_InvalidPlace : PySem.W.findIn K (.ref C_InvalidPlace) "__getattribute__" = some (some (.builtin "BaseException.__getattribute__")))
    (ed_InvalidPlace : PySem.W.findIn K (.ref C_InvalidPlace) "__getattr__" = some none)
    (ee_InvalidPlace : PySem.W.subIn K (.ref C_InvalidPlace) (.type "BaseException") = some true)
    (ef_InvalidPlace : PySem.W.findIn K (.ref C_InvalidPlace) "__class__" = some (some (.builtin "object.__class__")))
    (eh_InvalidPlace : PySem.W.mroIn K C_InvalidPlace (.type "object") = some true)
    (ea_InvalidRun : PySem.W.isClsIn K C_InvalidRun = true)
    (ec_InvalidRun : PySem.W.findIn K (.ref C_InvalidRun) "__getattribute__" = some (some (.builtin "BaseException.__getattribute__")))
    (ed_InvalidRun : PySem.W.findIn K (.ref C_InvalidRun) "__getattr__" = some none)
    (ee_InvalidRun : PySem.W.subIn K (.ref C_InvalidRun) (.type "BaseException") = some true)
    (ef_InvalidRun : PySem.W.findIn K (.ref C_InvalidRun) "__class__" = some (some (.builtin "object.__class__")))
    (eh_InvalidRun : PySem.W.mroIn K C_InvalidRun (.type "object") = some true)
    (ea_InvalidIndex : PySem.W.isClsIn K C_InvalidIndex = true)
    (ec_InvalidIndex : PySem.W.findIn K (.ref C_InvalidIndex) "__getattribute__" = some (some (.builtin "BaseException.__getattribute__")))
    (ed_InvalidIndex : PySem.W.findIn K (.ref C_InvalidIndex) "__getattr__" = some none)
    (ee_InvalidIndex : PySem.W.subIn K (.ref C_InvalidIndex) (.type "BaseException") = some true)
    (ef_InvalidIndex : PySem.W.findIn K (.ref C_InvalidIndex) "__class__" = some (some (.builtin "object.__class__")))
    (eh_InvalidIndex : PySem.W.mroIn K C_InvalidIndex (.type "object") = some true)
    (ea_Unlike : PySem.W.isClsIn K C_Unlike = true)
    (ec_Unlike : PySem.W.findIn K (.ref C_Unlike) "__getattribute__" = some (some (.builtin "BaseException.__getattribute__")))
    (ed_Unlike : PySem.W.findIn K (.ref C_Unlike) "__getattr__" = some none)
    (ee_Unlike : PySem.W.subIn K (.ref C_Unlike) (.type "BaseException") = some true)
    (ef_Unlike : PySem.W.findIn K (.ref C_Unlike) "__class__" = some (some (.builtin "object.__class__")))
    (eh_Unlike : PySem.W.mroIn K C_Unlike (.type "object") = some true)
    (ea_NothingToUndo : PySem.W.isClsIn K C_NothingToUndo = true)
    (ec_NothingToUndo : PySem.W.findIn K (.ref C_NothingToUndo) "__getattribute__" = some (some (.builtin "BaseException.__getattribute__")))
    (ed_NothingToUndo : PySem.W.findIn K (.ref C_NothingToUndo) "__getattr__" = some none)
    (ee_NothingToUndo : PySem.W.subIn K (.ref C_NothingToUndo) (.type "BaseException") = some true)
    (ef_NothingToUndo : PySem.W.findIn K (.ref C_NothingToUndo) "__class__" = some (some (.builtin "object.__class__")))
    (eh_NothingToUndo : PySem.W.mroIn K C_NothingToUndo (.type "object") = some true)
    (ea_TooMany : PySem.W.isClsIn K C_TooMany = true)
    (ec_TooMany : PySem.W.findIn K (.ref C_TooMany) "__getattribute__" = some (some (.builtin "BaseException.__getattribute__")))
    (ed_TooMany : PySem.W.findIn K (.ref C_TooMany) "__getattr__" = some none)
    (ee_TooMany : PySem.W.subIn K (.ref C_TooMany) (.type "BaseException") = some true)
    (ef_TooMany : PySem.W.findIn K (.ref C_TooMany) "__class__" = some (some (.builtin "object.__class__")))
    (eh_TooMany : PySem.W.mroIn K C_TooMany (.type "object") = some true)
    (ea_InvalidText : PySem.W.isClsIn K C_InvalidText = true)
    (ec_InvalidText : PySem.W.findIn K (.ref C_InvalidText) "__getattribute__" = some (some (.builtin "BaseException.__getattribute__")))
    (ed_InvalidText : PySem.W.findIn K (.ref C_InvalidText) "__getattr__" = some none)
    (ee_InvalidText : PySem.W.subIn K (.ref C_InvalidText) (.type "BaseException") = some true)
    (ef_InvalidText : PySem.W.findIn K (.ref C_InvalidText) "__class__" = some (some (.builtin "object.__class__")))
    (eh_InvalidText : PySem.W.mroIn K C_InvalidText (.type "object") = some true)
    (hd_TooMany : PySem.W.hasDictIn K C_TooMany = true)
    (hf_TooMany : PySem.W.findIn K (.ref C_TooMany) "limit" = some none)
    (hd_InvalidText : PySem.W.hasDictIn K C_InvalidText = true)
    (hf_InvalidText : PySem.W.findIn K (.ref C_InvalidText) "line" = some none)
    (eb_TooMany : PySem.W.subIn K (.ref C_TooMany) (.type "BaseException") = some true)
    (et_TooMany : PySem.W.typeIn K (.ref C_TooMany) = some (.type "type"))
    (eb_InvalidText : PySem.W.subIn K (.ref C_InvalidText) (.type "BaseException") = some true)
    (et_InvalidText : PySem.W.typeIn K (.ref C_InvalidText) = some (.type "type"))
    (ei_InvalidDrill : PySem.W.isClsIn K C_InvalidDrill = true)
    (es_InvalidBeginning_InvalidDrill : PySem.W.subIn K (.ref C_InvalidBeginning) (.ref C_InvalidDrill) = some false)
    (es_InvalidDrill_InvalidDrill : PySem.W.subIn K (.ref C_InvalidDrill) (.ref C_InvalidDrill) = some true)
    (es_TooMany_InvalidDrill : PySem.W.subIn K (.ref C_TooMany) (.ref C_InvalidDrill) = some false)
    (es_InvalidRun_InvalidDrill : PySem.W.subIn K (.ref C_InvalidRun) (.ref C_InvalidDrill) = some false)
    (es_InvalidPlace_InvalidDrill : PySem.W.subIn K (.ref C_InvalidPlace) (.ref C_InvalidDrill) = some false)
    (es_NothingToUndo_InvalidDrill : PySem.W.subIn K (.ref C_NothingToUndo) (.ref C_InvalidDrill) = some false)
    (es_InvalidSheep_InvalidDrill : PySem.W.subIn K (.ref C_InvalidSheep) (.ref C_InvalidDrill) = some false)
    (ei_InvalidBeginning : PySem.W.isClsIn K C_InvalidBeginning = true)
    (es_InvalidBeginning_InvalidBeginning : PySem.W.subIn K (.ref C_InvalidBeginning) (.ref C_InvalidBeginning) = some true)
    (es_InvalidDrill_InvalidBeginning : PySem.W.subIn K (.ref C_InvalidDrill) (.ref C_InvalidBeginning) = some false)
    (es_TooMany_InvalidBeginning : PySem.W.subIn K (.ref C_TooMany) (.ref C_InvalidBeginning) = some false)
    (es_InvalidRun_InvalidBeginning : PySem.W.subIn K (.ref C_InvalidRun) (.ref C_InvalidBeginning) = some false)
    (es_InvalidPlace_InvalidBeginning : PySem.W.subIn K (.ref C_InvalidPlace) (.ref C_InvalidBeginning) = some false)
    (es_NothingToUndo_InvalidBeginning : PySem.W.subIn K (.ref C_NothingToUndo) (.ref C_InvalidBeginning) = some false)
    (es_InvalidSheep_InvalidBeginning : PySem.W.subIn K (.ref C_InvalidSheep) (.ref C_InvalidBeginning) = some false)
    (ei_InvalidMany : PySem.W.isClsIn K C_InvalidMany = true)
    (es_InvalidBeginning_InvalidMany : PySem.W.subIn K (.ref C_InvalidBeginning) (.ref C_InvalidMany) = some false)
    (es_InvalidDrill_InvalidMany : PySem.W.subIn K (.ref C_InvalidDrill) (.ref C_InvalidMany) = some false)
    (es_TooMany_InvalidMany : PySem.W.subIn K (.ref C_TooMany) (.ref C_InvalidMany) = some false)
    (es_InvalidRun_InvalidMany : PySem.W.subIn K (.ref C_InvalidRun) (.ref C_InvalidMany) = some false)
    (es_InvalidPlace_InvalidMany : PySem.W.subIn K (.ref C_InvalidPlace) (.ref C_InvalidMany) = some false)
    (es_NothingToUndo_InvalidMany : PySem.W.subIn K (.ref C_NothingToUndo) (.ref C_InvalidMany) = some false)
    (es_InvalidSheep_InvalidMany : PySem.W.subIn K (.ref C_InvalidSheep) (.ref C_InvalidMany) = some false)
    (ei_InvalidSheep : PySem.W.isClsIn K C_InvalidSheep = true)
    (es_InvalidBeginning_InvalidSheep : PySem.W.subIn K (.ref C_InvalidBeginning) (.ref C_InvalidSheep) = some false)
    (es_InvalidDrill_InvalidSheep : PySem.W.subIn K (.ref C_InvalidDrill) (.ref C_InvalidSheep) = some false)
    (es_TooMany_InvalidSheep : PySem.W.subIn K (.ref C_TooMany) (.ref C_InvalidSheep) = some false)
    (es_InvalidRun_InvalidSheep : PySem.W.subIn K (.ref C_InvalidRun) (.ref C_InvalidSheep) = some false)
    (es_InvalidPlace_InvalidSheep : PySem.W.subIn K (.ref C_InvalidPlace) (.ref C_InvalidSheep) = some false)
    (es_NothingToUndo_InvalidSheep : PySem.W.subIn K (.ref C_NothingToUndo) (.ref C_InvalidSheep) = some false)
    (es_InvalidSheep_InvalidSheep : PySem.W.subIn K (.ref C_InvalidSheep) (.ref C_InvalidSheep) = some true)
    (ei_InvalidPlace : PySem.W.isClsIn K C_InvalidPlace = true)
    (es_InvalidBeginning_InvalidPlace : PySem.W.subIn K (.ref C_InvalidBeginning) (.ref C_InvalidPlace) = some false)
    (es_InvalidDrill_InvalidPlace : PySem.W.subIn K (.ref C_InvalidDrill) (.ref C_InvalidPlace) = some false)
    (es_TooMany_InvalidPlace : PySem.W.subIn K (.ref C_TooMany) (.ref C_InvalidPlace) = some false)
    (es_InvalidRun_InvalidPlace : PySem.W.subIn K (.ref C_InvalidRun) (.ref C_InvalidPlace) = some false)
    (es_InvalidPlace_InvalidPlace : PySem.W.subIn K (.ref C_InvalidPlace) (.ref C_InvalidPlace) = some true)
    (es_NothingToUndo_InvalidPlace : PySem.W.subIn K (.ref C_NothingToUndo) (.ref C_InvalidPlace) = some false)
    (es_InvalidSheep_InvalidPlace : PySem.W.subIn K (.ref C_InvalidSheep) (.ref C_InvalidPlace) = some false)
    (ei_InvalidRun : PySem.W.isClsIn K C_InvalidRun = true)
    (es_InvalidBeginning_InvalidRun : PySem.W.subIn K (.ref C_InvalidBeginning) (.ref C_InvalidRun) = some false)
    (es_InvalidDrill_InvalidRun : PySem.W.subIn K (.ref C_InvalidDrill) (.ref C_InvalidRun) = some false)
    (es_TooMany_InvalidRun : PySem.W.subIn K (.ref C_TooMany) (.ref C_InvalidRun) = some false)
    (es_InvalidRun_InvalidRun : PySem.W.subIn K (.ref C_InvalidRun) (.ref C_InvalidRun) = some true)
    (es_InvalidPlace_InvalidRun : PySem.W.subIn K (.ref C_InvalidPlace) (.ref C_InvalidRun) = some false)
    (es_NothingToUndo_InvalidRun : PySem.W.subIn K (.ref C_NothingToUndo) (.ref C_InvalidRun) = some false)
    (es_InvalidSheep_InvalidRun : PySem.W.subIn K (.ref C_InvalidSheep) (.ref C_InvalidRun) = some false)
    (ei_InvalidIndex : PySem.W.isClsIn K C_InvalidIndex = true)
    (es_InvalidBeginning_InvalidIndex : PySem.W.subIn K (.ref C_InvalidBeginning) (.ref C_InvalidIndex) = some false)
    (es_InvalidDrill_InvalidIndex : PySem.W.subIn K (.ref C_InvalidDrill) (.ref C_InvalidIndex) = some false)
    (es_TooMany_InvalidIndex : PySem.W.subIn K (.ref C_TooMany) (.ref C_InvalidIndex) = some false)
    (es_InvalidRun_InvalidIndex : PySem.W.subIn K (.ref C_InvalidRun) (.ref C_InvalidIndex) = some false)
    (es_InvalidPlace_InvalidIndex : PySem.W.subIn K (.ref C_InvalidPlace) (.ref C_InvalidIndex) = some false)
    (es_NothingToUndo_InvalidIndex : PySem.W.subIn K (.ref C_NothingToUndo) (.ref C_InvalidIndex) = some false)
    (es_InvalidSheep_InvalidIndex : PySem.W.subIn K (.ref C_InvalidSheep) (.ref C_InvalidIndex) = some false)
    (ei_Unlike : PySem.W.isClsIn K C_Unlike = true)
    (es_InvalidBeginning_Unlike : PySem.W.subIn K (.ref C_InvalidBeginning) (.ref C_Unlike) = some false)
    (es_InvalidDrill_Unlike : PySem.W.subIn K (.ref C_InvalidDrill) (.ref C_Unlike) = some false)
    (es_TooMany_Unlike : PySem.W.subIn K (.ref C_TooMany) (.ref C_Unlike) = some false)
    (es_InvalidRun_Unlike : PySem.W.subIn K (.ref C_InvalidRun) (.ref C_Unlike) = some false)
    (es_InvalidPlace_Unlike : PySem.W.subIn K (.ref C_InvalidPlace) (.ref C_Unlike) = some false)
    (es_NothingToUndo_Unlike : PySem.W.subIn K (.ref C_NothingToUndo) (.ref C_Unlike) = some false)
    (es_InvalidSheep_Unlike : PySem.W.subIn K (.ref C_InvalidSheep) (.ref C_Unlike) = some false)
    (ei_NothingToUndo : PySem.W.isClsIn K C_NothingToUndo = true)
    (es_InvalidBeginning_NothingToUndo : PySem.W.subIn K (.ref C_InvalidBeginning) (.ref C_NothingToUndo) = some false)
    (es_InvalidDrill_NothingToUndo : PySem.W.subIn K (.ref C_InvalidDrill) (.ref C_NothingToUndo) = some false)
    (es_TooMany_NothingToUndo : PySem.W.subIn K (.ref C_TooMany) (.ref C_NothingToUndo) = some false)
    (es_InvalidRun_NothingToUndo : PySem.W.subIn K (.ref C_InvalidRun) (.ref C_NothingToUndo) = some false)
    (es_InvalidPlace_NothingToUndo : PySem.W.subIn K (.ref C_InvalidPlace) (.ref C_NothingToUndo) = some false)
    (es_NothingToUndo_NothingToUndo : PySem.W.subIn K (.ref C_NothingToUndo) (.ref C_NothingToUndo) = some true)
    (es_InvalidSheep_NothingToUndo : PySem.W.subIn K (.ref C_InvalidSheep) (.ref C_NothingToUndo) = some false)
    (ei_DogError : PySem.W.isClsIn K C_DogError = true)
    (es_InvalidBeginning_DogError : PySem.W.subIn K (.ref C_InvalidBeginning) (.ref C_DogError) = some true)
    (es_InvalidDrill_DogError : PySem.W.subIn K (.ref C_InvalidDrill) (.ref C_DogError) = some true)
    (es_TooMany_DogError : PySem.W.subIn K (.ref C_TooMany) (.ref C_DogError) = some true)
    (es_InvalidRun_DogError : PySem.W.subIn K (.ref C_InvalidRun) (.ref C_DogError) = some true)
    (es_InvalidPlace_DogError : PySem.W.subIn K (.ref C_InvalidPlace) (.ref C_DogError) = some true)
    (es_NothingToUndo_DogError : PySem.W.subIn K (.ref C_NothingToUndo) (.ref C_DogError) = some true)
    (es_InvalidSheep_DogError : PySem.W.subIn K (.ref C_InvalidSheep) (.ref C_DogError) = some true)
    (ei_TooMany : PySem.W.isClsIn K C_TooMany = true)
    (es_InvalidBeginning_TooMany : PySem.W.subIn K (.ref C_InvalidBeginning) (.ref C_TooMany) = some false)
    (es_InvalidDrill_TooMany : PySem.W.subIn K (.ref C_InvalidDrill) (.ref C_TooMany) = some false)
    (es_TooMany_TooMany : PySem.W.subIn K (.ref C_TooMany) (.ref C_TooMany) = some true)
    (es_InvalidRun_TooMany : PySem.W.subIn K (.ref C_InvalidRun) (.ref C_TooMany) = some false)
    (es_InvalidPlace_TooMany : PySem.W.subIn K (.ref C_InvalidPlace) (.ref C_TooMany) = some false)
    (es_NothingToUndo_TooMany : PySem.W.subIn K (.ref C_NothingToUndo) (.ref C_TooMany) = some false)
    (es_InvalidSheep_TooMany : PySem.W.subIn K (.ref C_InvalidSheep) (.ref C_TooMany) = some false)
    (ei_InvalidText : PySem.W.isClsIn K C_InvalidText = true)
    (es_InvalidBeginning_InvalidText : PySem.W.subIn K (.ref C_InvalidBeginning) (.ref C_InvalidText) = some false)
    (es_InvalidDrill_InvalidText : PySem.W.subIn K (.ref C_InvalidDrill) (.ref C_InvalidText) = some false)
    (es_TooMany_InvalidText : PySem.W.subIn K (.ref C_TooMany) (.ref C_InvalidText) = some false)
    (es_InvalidRun_InvalidText : PySem.W.subIn K (.ref C_InvalidRun) (.ref C_InvalidText) = some false)
    (es_InvalidPlace_InvalidText : PySem.W.subIn K (.ref C_InvalidPlace) (.ref C_InvalidText) = some false)
    (es_NothingToUndo_InvalidText : PySem.W.subIn K (.ref C_NothingToUndo) (.ref C_InvalidText) = some false)
    (es_InvalidSheep_InvalidText : PySem.W.subIn K (.ref C_InvalidSheep) (.ref C_InvalidText) = some false)
    (v_GREAT : PySem.W.nsIn K mainGlobals "GREAT" = some (some (.int 1000000000000000000000000000000 t_GREAT)))
    (v_FAR : PySem.W.nsIn K mainGlobals "FAR" = some (some (.int 1000000000000 t_FAR)))
    (v_MOST_SHEEP : PySem.W.nsIn K mainGlobals "MOST_SHEEP" = some (some (.int 40 t_MOST_SHEEP)))
    (v_WIDEST : PySem.W.nsIn K mainGlobals "WIDEST" = some (some (.int 9 t_WIDEST)))
    (v_DEEPEST : PySem.W.nsIn K mainGlobals "DEEPEST" = some (some (.int 3 t_DEEPEST)))
    (z_abs : PySem.W.nsIn K mainGlobals "abs" = some none)
    (z_bool : PySem.W.nsIn K mainGlobals "bool" = some none)
    (z_enumerate : PySem.W.nsIn K mainGlobals "enumerate" = some none)
    (z_int : PySem.W.nsIn K mainGlobals "int" = some none)
    (z_isinstance : PySem.W.nsIn K mainGlobals "isinstance" = some none)
    (z_len : PySem.W.nsIn K mainGlobals "len" = some none)
    (z_list : PySem.W.nsIn K mainGlobals "list" = some none)
    (z_max : PySem.W.nsIn K mainGlobals "max" = some none)
    (z_min : PySem.W.nsIn K mainGlobals "min" = some none)
    (z_range : PySem.W.nsIn K mainGlobals "range" = some none)
    (z_sorted : PySem.W.nsIn K mainGlobals "sorted" = some none)
    (z_str : PySem.W.nsIn K mainGlobals "str" = some none)
    (z_tuple : PySem.W.nsIn K mainGlobals "tuple" = some none)
    (z_zip : PySem.W.nsIn K mainGlobals "zip" = some none) :
    LamX.LawAtS l w K (L2.CX l.prog w) 14 63 "_law_script" mg fa h := by
  have G := T.g
  have e := hfa.symm.trans (PySem.W.mg_of X G a38)
  cases e
  have F0 := fun_mk (st := s_is_int) l0 c0 k0
  have F1 := fun_mk (st := s_is_a_run) l1 c1 k1
  have F2 := fun_mk (st := s_begins) l2 c2 k2
  have F3 := fun_mk (st := s_need_beginning) l3 c3 k3
  have F4 := fun_mk (st := s_pushed) l4 c4 k4
  have F5 := fun_mk (st := s_ran) l5 c5 k5
  have F6 := fun_mk (st := s_Lane_init_u) l6 c6 k6
  have F7 := fun_mk (st := s_Lane_gap) l7 c7 k7
  have F8 := fun_mk (st := s_Lane_places) l8 c8 k8
  have F9 := fun_mk (st := s_Lane_runs) l9 c9 k9
  have F10 := fun_mk (st := s_Lane_noted) l10 c10 k10
  have F12 := fun_mk (st := s_Lane_iadd_u) l12 c12 k12
  have F13 := fun_mk (st := s_Lane_enter) l13 c13 k13
  have F14 := fun_mk (st := s_Lane_undo) l14 c14 k14
  have F15 := fun_mk (st := s_Lane_getitem_u) l15 c15 k15
  have F16 := fun_mk (st := s_Lane_contains_u) l16 c16 k16
  have F17 := fun_mk (st := s_Lane_len_u) l17 c17 k17
  have F18 := fun_mk (st := s_Lane_bool_u) l18 c18 k18
  have F19 := fun_mk (st := s_Lane_lots) l19 c19 k19
  have F20 := fun_mk (st := s_Lane_eq_u) l20 c20 k20
  have F21 := fun_mk (st := s_l_cart_of) l21 c21 k21
  have F22 := fun_mk (st := s_l_take) l22 c22 k22
  have F23 := fun_mk (st := s_l_any) l23 c23 k23
  have F24 := fun_mk (st := s_l_deed) l24 c24 k24
  have F25 := fun_mk (st := s_l_at) l25 c25 k25
  have F26 := fun_mk (st := s_l_rooms) l26 c26 k26
  have F27 := fun_mk (st := s_l_closed) l27 c27 k27
  have F28 := fun_mk (st := s_l_ran) l28 c28 k28
  have F29 := fun_mk (st := s_l_end) l29 c29 k29
  have F30 := fun_mk (st := s_l_word) l30 c30 k30
  have F31 := fun_mk (st := s_l_is_deed) l31 c31 k31
  have F32 := fun_mk (st := s_l_due) l32 c32 k32
  have F33 := fun_mk (st := s_l_added) l33 c33 k33
  have F34 := fun_mk (st := s_l_call) l34 c34 k34
  have F35 := fun_mk (st := s_l_called) l35 c35 k35
  have F36 := fun_mk (st := s_l_lots) l36 c36 k36
  have F37 := fun_mk (st := s_l_shows) l37 c37 k37
  have F38 := fun_mk (st := s_law) l38 c38 k38
  have tt38 := tab_mk a38 l38 rfl y38 p38
  have tt36 := tab_mk a36 l36 rfl y36 p36
  have tt35 := tab_mk a35 l35 rfl y35 p35
  have tt37 := tab_mk a37 l37 rfl y37 p37
  have tabs : tabsOf K = [(pp38, (("law" : Str) ++ ".<locals>." ++ "<lambda>")), (pp36, (("_law_lots" : Str) ++ ".<locals>." ++ "<lambda>")), (pp35, (("_law_called" : Str) ++ ".<locals>." ++ "<lambda>")), (pp37, (("_law_shows" : Str) ++ ".<locals>." ++ "<lambda>"))] := by
    simp only [tabsOf, lamDefs, List.filterMap_cons, List.filterMap_nil, Option.map_some, Option.map_none, tt38, tt36, tt35, tt37, tab_no u__law_tried, tab_no u__law_signs_right, tab_no u__law_refused, tab_no u__law_nested, tab_no u__law_ended, tab_no u__law_back, tab_no u__law_full_right, tab_no u__law_first_calls, tab_no u__law_pair_calls, tab_no u__law_place_calls, tab_no u__law_many_calls]
  let M : Md K mg := {
    f_is_int := _, d_is_int := _, F_is_int := F0, g_is_int := PySem.W.mg_of X G a0, n_is_int := a0, b_is_int := F0.binds (ps := ["value", "low", "high"]) (fun _ _ _ _ _ _ us hl => match us, hl with | [_, _, _], _ => rfl),
    f_is_a_run := _, d_is_a_run := _, F_is_a_run := F1, g_is_a_run := PySem.W.mg_of X G a1, n_is_a_run := a1, b_is_a_run := F1.binds (ps := ["value"]) (fun _ _ _ _ _ _ us hl => match us, hl with | [_], _ => rfl),
    f_begins := _, d_begins := _, F_begins := F2, g_begins := PySem.W.mg_of X G a2, n_begins := a2, b_begins := F2.binds (ps := ["gap", "value"]) (fun _ _ _ _ _ _ us hl => match us, hl with | [_, _], _ => rfl),
    f_need_beginning := _, d_need_beginning := _, F_need_beginning := F3, g_need_beginning := PySem.W.mg_of X G a3, n_need_beginning := a3, b_need_beginning := F3.binds (ps := ["gap", "value"]) (fun _ _ _ _ _ _ us hl => match us, hl with | [_, _], _ => rfl),
    f_pushed := _, d_pushed := _, F_pushed := F4, g_pushed := PySem.W.mg_of X G a4, n_pushed := a4, b_pushed := F4.binds (ps := ["gap", "places", "sheep", "steps"]) (fun _ _ _ _ _ _ us hl => match us, hl with | [_, _, _, _], _ => rfl),
    f_ran := _, d_ran := _, F_ran := F5, g_ran := PySem.W.mg_of X G a5, n_ran := a5, b_ran := F5.binds (ps := ["gap", "places", "run"]) (fun _ _ _ _ _ _ us hl => match us, hl with | [_, _, _], _ => rfl),
    f_Lane_init_u := _, d_Lane_init_u := _, F_Lane_init_u := F6, b_Lane_init_u := F6.binds (ps := ["self", "gap", "beginning"]) (fun _ _ _ _ _ _ us hl => match us, hl with | [_, _, _], _ => rfl),
    mk_Lane_init_u := ⟨kmk_Lane, ma6, mf6, kkp_Lane⟩,
    f_Lane_gap := _, d_Lane_gap := _, F_Lane_gap := F7, b_Lane_gap := F7.binds (ps := ["self"]) (fun _ _ _ _ _ _ us hl => match us, hl with | [_], _ => rfl),
    pr_Lane_gap := _, p_Lane_gap := ⟨ma7, mg7, mt7, _, mr7⟩,
    f_Lane_places := _, d_Lane_places := _, F_Lane_places := F8, b_Lane_places := F8.binds (ps := ["self"]) (fun _ _ _ _ _ _ us hl => match us, hl with | [_], _ => rfl),
    pr_Lane_places := _, p_Lane_places := ⟨ma8, mg8, mt8, _, mr8⟩,
    f_Lane_runs := _, d_Lane_runs := _, F_Lane_runs := F9, b_Lane_runs := F9.binds (ps := ["self"]) (fun _ _ _ _ _ _ us hl => match us, hl with | [_], _ => rfl),
    pr_Lane_runs := _, p_Lane_runs := ⟨ma9, mg9, mt9, _, mr9⟩,
    f_Lane_noted := _, d_Lane_noted := _, F_Lane_noted := F10, b_Lane_noted := F10.binds (ps := ["self", "state"]) (fun _ _ _ _ _ _ us hl => match us, hl with | [_, _], _ => rfl),
    at_Lane_noted := ma10,
    fn_Lane_noted := mf10, fi_Lane_noted := mi10, kp_Lane_noted := k10,
    f_Lane_run := _, o1_Lane_run := _, o2_Lane_run := _, o3_Lane_run := _, o4_Lane_run := _, o5_Lane_run := _, o6_Lane_run := _, u1_Lane_run := _, u2_Lane_run := _, us_Lane_run := _, lk_Lane_run := l11, cd_Lane_run := c11,
    at_Lane_run := ma11, fn_Lane_run := mf11, fi_Lane_run := mi11, kp_Lane_run := k11,
    f_Lane_iadd_u := _, d_Lane_iadd_u := _, F_Lane_iadd_u := F12, b_Lane_iadd_u := F12.binds (ps := ["self", "runs"]) (fun _ _ _ _ _ _ us hl => match us, hl with | [_, _], _ => rfl),
    at_Lane_iadd_u := by
      rw [show (PySem.dunderI (Operator.info .Add).2) = ("__iadd__" : Str) from by decide +kernel]
      exact ma12,
    fn_Lane_iadd_u := mf12, fi_Lane_iadd_u := mi12, kp_Lane_iadd_u := k12,
    f_Lane_enter := _, d_Lane_enter := _, F_Lane_enter := F13, b_Lane_enter := F13.binds (ps := ["self", "place"]) (fun _ _ _ _ _ _ us hl => match us, hl with | [_, _], _ => rfl),
    at_Lane_enter := ma13,
    fn_Lane_enter := mf13, fi_Lane_enter := mi13, kp_Lane_enter := k13,
    f_Lane_undo := _, d_Lane_undo := _, F_Lane_undo := F14, b_Lane_undo := F14.binds (ps := ["self"]) (fun _ _ _ _ _ _ us hl => match us, hl with | [_], _ => rfl),
    at_Lane_undo := ma14,
    fn_Lane_undo := mf14, fi_Lane_undo := mi14, kp_Lane_undo := k14,
    f_Lane_getitem_u := _, d_Lane_getitem_u := _, F_Lane_getitem_u := F15, b_Lane_getitem_u := F15.binds (ps := ["self", "sheep"]) (fun _ _ _ _ _ _ us hl => match us, hl with | [_, _], _ => rfl),
    at_Lane_getitem_u := ma15,
    fn_Lane_getitem_u := mf15, fi_Lane_getitem_u := mi15, kp_Lane_getitem_u := k15,
    f_Lane_contains_u := _, d_Lane_contains_u := _, F_Lane_contains_u := F16, b_Lane_contains_u := F16.binds (ps := ["self", "value"]) (fun _ _ _ _ _ _ us hl => match us, hl with | [_, _], _ => rfl),
    at_Lane_contains_u := ma16,
    fn_Lane_contains_u := mf16, fi_Lane_contains_u := mi16, kp_Lane_contains_u := k16,
    f_Lane_len_u := _, d_Lane_len_u := _, F_Lane_len_u := F17, b_Lane_len_u := F17.binds (ps := ["self"]) (fun _ _ _ _ _ _ us hl => match us, hl with | [_], _ => rfl),
    at_Lane_len_u := ma17,
    fn_Lane_len_u := mf17, fi_Lane_len_u := mi17, kp_Lane_len_u := k17,
    f_Lane_bool_u := _, d_Lane_bool_u := _, F_Lane_bool_u := F18, b_Lane_bool_u := F18.binds (ps := ["self"]) (fun _ _ _ _ _ _ us hl => match us, hl with | [_], _ => rfl),
    at_Lane_bool_u := ma18,
    fn_Lane_bool_u := mf18, fi_Lane_bool_u := mi18, kp_Lane_bool_u := k18,
    f_Lane_lots := _, o1_Lane_lots := _, o2_Lane_lots := _, o3_Lane_lots := _, o4_Lane_lots := _, o5_Lane_lots := _, o6_Lane_lots := _, u1_Lane_lots := _, u2_Lane_lots := _, us_Lane_lots := _, lk_Lane_lots := l19, cd_Lane_lots := c19,
    mt_Lane_lots := ⟨ma19, mf19, k19⟩, b_Lane_lots := F19.binds (ps := ["self"]) (fun _ _ _ _ _ _ us hl => match us, hl with | [_], _ => rfl),
    f_Lane_eq_u := _, d_Lane_eq_u := _, F_Lane_eq_u := F20, b_Lane_eq_u := F20.binds (ps := ["self", "other"]) (fun _ _ _ _ _ _ us hl => match us, hl with | [_, _], _ => rfl),
    at_Lane_eq_u := by
      rw [show (PySem.cmpInfo .Eq).2.1 = ("__eq__" : Str) from by decide +kernel]
      exact ma20,
    fn_Lane_eq_u := mf20, fi_Lane_eq_u := mi20, kp_Lane_eq_u := k20,
    f_l_cart_of := _, d_l_cart_of := _, F_l_cart_of := F21, g_l_cart_of := PySem.W.mg_of X G a21, n_l_cart_of := a21, b_l_cart_of := F21.binds (ps := ["_law_script", "_law_k"]) (fun _ _ _ _ _ _ us hl => match us, hl with | [_, _], _ => rfl),
    f_l_take := _, d_l_take := _, F_l_take := F22, g_l_take := PySem.W.mg_of X G a22, n_l_take := a22, b_l_take := F22.binds (ps := ["_law_cart", "_law_many"]) (fun _ _ _ _ _ _ us hl => match us, hl with | [_, _], _ => rfl),
    f_l_any := _, d_l_any := _, F_l_any := F23, g_l_any := PySem.W.mg_of X G a23, n_l_any := a23, b_l_any := F23.binds (ps := ["_law_cart", "_law_things"]) (fun _ _ _ _ _ _ us hl => match us, hl with | [_, _], _ => rfl),
    f_l_deed := _, d_l_deed := _, F_l_deed := F24, g_l_deed := PySem.W.mg_of X G a24, n_l_deed := a24, b_l_deed := F24.binds (ps := ["_law_cart", "_law_wide"]) (fun _ _ _ _ _ _ us hl => match us, hl with | [_, _], _ => rfl),
    f_l_at := _, d_l_at := _, F_l_at := F25, g_l_at := PySem.W.mg_of X G a25, n_l_at := a25, b_l_at := F25.binds (ps := ["_law_gap", "_law_rooms_here"]) (fun _ _ _ _ _ _ us hl => match us, hl with | [_, _], _ => rfl),
    f_l_rooms := _, d_l_rooms := _, F_l_rooms := F26, g_l_rooms := PySem.W.mg_of X G a26, n_l_rooms := a26, b_l_rooms := F26.binds (ps := ["_law_cart", "_law_many", "_law_wide"]) (fun _ _ _ _ _ _ us hl => match us, hl with | [_, _, _], _ => rfl),
    f_l_closed := _, d_l_closed := _, F_l_closed := F27, g_l_closed := PySem.W.mg_of X G a27, n_l_closed := a27, b_l_closed := F27.binds (ps := ["_law_gap", "_law_places"]) (fun _ _ _ _ _ _ us hl => match us, hl with | [_, _], _ => rfl),
    f_l_ran := _, d_l_ran := _, F_l_ran := F28, g_l_ran := PySem.W.mg_of X G a28, n_l_ran := a28, b_l_ran := F28.binds (ps := ["_law_gap", "_law_places", "_law_run"]) (fun _ _ _ _ _ _ us hl => match us, hl with | [_, _, _], _ => rfl),
    f_l_end := _, d_l_end := _, F_l_end := F29, g_l_end := PySem.W.mg_of X G a29, n_l_end := a29, b_l_end := F29.binds (ps := ["_law_work", "_law_places"]) (fun _ _ _ _ _ _ us hl => match us, hl with | [_, _], _ => rfl),
    f_l_word := _, d_l_word := _, F_l_word := F30, g_l_word := PySem.W.mg_of X G a30, n_l_word := a30, b_l_word := F30.binds (ps := ["_law_call_here"]) (fun _ _ _ _ _ _ us hl => match us, hl with | [_], _ => rfl),
    v_l_word := _, w_word := ⟨⟨_, _, _, _, _, _, _, _, l30, F30.binds (ps := ["_law_call_here"]) (fun _ _ _ _ _ _ us hl => match us, hl with | [_], _ => rfl)⟩, c30, k30, PySem.W.mg_of X G a30, sc_l_word, rfl, by first | exact Or.inl rfl | exact Or.inr (Or.inl rfl)⟩,
    f_l_is_deed := _, d_l_is_deed := _, F_l_is_deed := F31, g_l_is_deed := PySem.W.mg_of X G a31, n_l_is_deed := a31, b_l_is_deed := F31.binds (ps := ["_law_value"]) (fun _ _ _ _ _ _ us hl => match us, hl with | [_], _ => rfl),
    f_l_due := _, d_l_due := _, F_l_due := F32, g_l_due := PySem.W.mg_of X G a32, n_l_due := a32, b_l_due := F32.binds (ps := ["_law_gap", "_law_now", "_law_call_here"]) (fun _ _ _ _ _ _ us hl => match us, hl with | [_, _, _], _ => rfl),
    f_l_added := _, d_l_added := _, F_l_added := F33, g_l_added := PySem.W.mg_of X G a33, n_l_added := a33, b_l_added := F33.binds (ps := ["_law_lane", "_law_runs"]) (fun _ _ _ _ _ _ us hl => match us, hl with | [_, _], _ => rfl),
    f_l_call := _, d_l_call := _, F_l_call := F34, g_l_call := PySem.W.mg_of X G a34, n_l_call := a34, b_l_call := F34.binds (ps := ["_law_lane", "_law_call_here"]) (fun _ _ _ _ _ _ us hl => match us, hl with | [_, _], _ => rfl),
    f_l_called := _, d_l_called := _, F_l_called := F35, g_l_called := PySem.W.mg_of X G a35, n_l_called := a35, b_l_called := F35.binds (ps := ["_law_lane", "_law_call_here"]) (fun _ _ _ _ _ _ us hl => match us, hl with | [_, _], _ => rfl),
    c_l_called := _, P_l_called := pp35, o1_l_called := _, o2_l_called := _, o3_l_called := _, o4_l_called := _, o5_l_called := _, u1_l_called := _, u2_l_called := _, us_l_called := _, lk_l_called := l35, cd_l_called := c35, db_l_called := rfl,
    tm_l_called := by rw [tabs]; simp, tu_l_called := by
      rw [tabs]
      intro p hp e
      simp only [List.mem_cons, List.not_mem_nil, or_false] at hp
      rcases hp with rfl | rfl | rfl | rfl
      · exact absurd (show pp38 = pp35 from e) j38_35
      · exact absurd (show pp36 = pp35 from e) j36_35
      · rfl
      · exact absurd (show pp37 = pp35 from e).symm j35_37,
    f_l_lots := _, d_l_lots := _, F_l_lots := F36, g_l_lots := PySem.W.mg_of X G a36, n_l_lots := a36, b_l_lots := F36.binds (ps := ["_law_gap", "_law_places"]) (fun _ _ _ _ _ _ us hl => match us, hl with | [_, _], _ => rfl),
    f_l_shows := _, d_l_shows := _, F_l_shows := F37, g_l_shows := PySem.W.mg_of X G a37, n_l_shows := a37, b_l_shows := F37.binds (ps := ["_law_lane", "_law_gap", "_law_now", "_law_many"]) (fun _ _ _ _ _ _ us hl => match us, hl with | [_, _, _, _], _ => rfl),
    c_l_shows := _, P_l_shows := pp37, o1_l_shows := _, o2_l_shows := _, o3_l_shows := _, o4_l_shows := _, o5_l_shows := _, u1_l_shows := _, u2_l_shows := _, us_l_shows := _, lk_l_shows := l37, cd_l_shows := c37, db_l_shows := rfl,
    tm_l_shows := by rw [tabs]; simp, tu_l_shows := by
      rw [tabs]
      intro p hp e
      simp only [List.mem_cons, List.not_mem_nil, or_false] at hp
      rcases hp with rfl | rfl | rfl | rfl
      · exact absurd (show pp38 = pp37 from e) j38_37
      · exact absurd (show pp36 = pp37 from e) j36_37
      · exact absurd (show pp35 = pp37 from e) j35_37
      · rfl,
    f_law := _, d_law := _, F_law := F38, g_law := PySem.W.mg_of X G a38, n_law := a38, b_law := F38.binds (ps := ["_law_script"]) (fun _ _ _ _ _ _ us hl => match us, hl with | [_], _ => rfl),
    c_law := _, P_law := pp38, o1_law := _, o2_law := _, o3_law := _, o4_law := _, o5_law := _, u1_law := _, u2_law := _, us_law := _, lk_law := l38, cd_law := c38,
    tm_law := by rw [tabs]; simp, tu_law := by
      rw [tabs]
      intro p hp e
      simp only [List.mem_cons, List.not_mem_nil, or_false] at hp
      rcases hp with rfl | rfl | rfl | rfl
      · rfl
      · exact absurd (show pp36 = pp38 from e).symm j38_36
      · exact absurd (show pp35 = pp38 from e).symm j38_35
      · exact absurd (show pp37 = pp38 from e).symm j38_37,
    C_Lane := C_Lane, gc_Lane := PySem.W.mg_of X G eg_Lane, cr_Lane := ⟨krd_Lane, kga_Lane⟩,
    I_Lane := ⟨eg_Lane, ⟨kpg_Lane, khd_Lane, kpo_Lane, ksa_Lane⟩, ksf_Lane, kmo_Lane, kca_Lane, gn, gt, kit_self, kit_six ksNoneType_Lane ksbool_Lane ksint_Lane ksstr_Lane kstuple_Lane kslist_Lane kic_Lane kty_Lane⟩,
    na_Lane_now := kn_now_Lane,
    na_Lane_past := kn_past_Lane,
    na_Lane_space := kn_space_Lane,
    u_Lane_MOST := .int 50 t_Lane_MOST, cv_Lane_MOST := ⟨kv_MOST_Lane, _, rfl⟩,
    ko_Lane_MOST := ⟨kf_MOST_Lane, ⟨_, rfl⟩, kw_MOST_Lane, by decide⟩,
    C_InvalidBeginning := C_InvalidBeginning, e_InvalidBeginning := ⟨PySem.W.mg_of X G eg_InvalidBeginning, eg_InvalidBeginning, ex_InvalidBeginning, ek_InvalidBeginning, eb_InvalidBeginning, et_InvalidBeginning⟩,
    C_InvalidDrill := C_InvalidDrill, e_InvalidDrill := ⟨PySem.W.mg_of X G eg_InvalidDrill, eg_InvalidDrill, ex_InvalidDrill, ek_InvalidDrill, eb_InvalidDrill, et_InvalidDrill⟩,
    C_InvalidRun := C_InvalidRun, e_InvalidRun := ⟨PySem.W.mg_of X G eg_InvalidRun, eg_InvalidRun, ex_InvalidRun, ek_InvalidRun, eb_InvalidRun, et_InvalidRun⟩,
    C_InvalidPlace := C_InvalidPlace, e_InvalidPlace := ⟨PySem.W.mg_of X G eg_InvalidPlace, eg_InvalidPlace, ex_InvalidPlace, ek_InvalidPlace, eb_InvalidPlace, et_InvalidPlace⟩,
    C_NothingToUndo := C_NothingToUndo, e_NothingToUndo := ⟨PySem.W.mg_of X G eg_NothingToUndo, eg_NothingToUndo, ex_NothingToUndo, ek_NothingToUndo, eb_NothingToUndo, et_NothingToUndo⟩,
    C_InvalidSheep := C_InvalidSheep, e_InvalidSheep := ⟨PySem.W.mg_of X G eg_InvalidSheep, eg_InvalidSheep, ex_InvalidSheep, ek_InvalidSheep, eb_InvalidSheep, et_InvalidSheep⟩,
    C_InvalidMany := C_InvalidMany, e_InvalidMany := ⟨PySem.W.mg_of X G eg_InvalidMany, eg_InvalidMany, ex_InvalidMany, ek_InvalidMany, eb_InvalidMany, et_InvalidMany⟩,
    C_InvalidIndex := C_InvalidIndex, e_InvalidIndex := ⟨PySem.W.mg_of X G eg_InvalidIndex, eg_InvalidIndex, ex_InvalidIndex, ek_InvalidIndex, eb_InvalidIndex, et_InvalidIndex⟩,
    C_Unlike := C_Unlike, e_Unlike := ⟨PySem.W.mg_of X G eg_Unlike, eg_Unlike, ex_Unlike, ek_Unlike, eb_Unlike, et_Unlike⟩,
    C_DogError := C_DogError, e_DogError := ⟨PySem.W.mg_of X G eg_DogError, eg_DogError, ex_DogError, ek_DogError, eb_DogError, et_DogError⟩,
    C_TooMany := C_TooMany, c_TooMany := PySem.W.mg_of X G eg_TooMany,
    C_InvalidText := C_InvalidText, c_InvalidText := PySem.W.mg_of X G eg_InvalidText,
    n_TooMany := eg_TooMany,
    n_InvalidText := eg_InvalidText,
    T_TooMany := ⟨⟨_, _, _, _, _, _, _, _, _, _, _, _, _, _, _, il_TooMany, im_TooMany⟩, ia_TooMany, eb_TooMany, et_TooMany, ik_TooMany⟩, I_TooMany := I_TooMany, iC_TooMany := ii_TooMany, tI_TooMany := it_TooMany,
    oi1_TooMany := _, oi2_TooMany := _, oi3_TooMany := _, oi4_TooMany := _, oi5_TooMany := _, oi6_TooMany := _, ui1_TooMany := _, ui2_TooMany := _, usi_TooMany := _, lkI_TooMany := ip_TooMany, cdI_TooMany := ic_TooMany, no_TooMany := in_TooMany,
    bI_TooMany := Binds.all (ps := ["self", "limit"]) (fun us hl => match us, hl with | [_, _], _ => rfl),
    B_DogError := ⟨PySem.W.mg_of X G eg_DogError, bk_DogError, br_DogError, ba_DogError, bi_DogError⟩,
    FA := fldAll_mk [(("TooMany", "limit"), C_TooMany), (("InvalidText", "line"), C_InvalidText)] rfl (fm2 eg_TooMany (fm2 eg_InvalidText fm0)) (fm2 ⟨⟨ec_TooMany, ed_TooMany, ee_TooMany, hd_TooMany⟩, hf_TooMany⟩ (fm2 ⟨⟨ec_InvalidText, ed_InvalidText, ee_InvalidText, hd_InvalidText⟩, hf_InvalidText⟩ fm0)),
    x_InvalidBeginning_InvalidDrill := exm_mk eb_InvalidDrill ei_InvalidDrill et_InvalidDrill es_InvalidBeginning_InvalidDrill,
    x_InvalidDrill_InvalidDrill := exm_mk eb_InvalidDrill ei_InvalidDrill et_InvalidDrill es_InvalidDrill_InvalidDrill,
    x_TooMany_InvalidDrill := exm_mk eb_InvalidDrill ei_InvalidDrill et_InvalidDrill es_TooMany_InvalidDrill,
    x_InvalidRun_InvalidDrill := exm_mk eb_InvalidDrill ei_InvalidDrill et_InvalidDrill es_InvalidRun_InvalidDrill,
    x_InvalidPlace_InvalidDrill := exm_mk eb_InvalidDrill ei_InvalidDrill et_InvalidDrill es_InvalidPlace_InvalidDrill,
    x_NothingToUndo_InvalidDrill := exm_mk eb_InvalidDrill ei_InvalidDrill et_InvalidDrill es_NothingToUndo_InvalidDrill,
    x_InvalidSheep_InvalidDrill := exm_mk eb_InvalidDrill ei_InvalidDrill et_InvalidDrill es_InvalidSheep_InvalidDrill,
    x_InvalidBeginning_InvalidBeginning := exm_mk eb_InvalidBeginning ei_InvalidBeginning et_InvalidBeginning es_InvalidBeginning_InvalidBeginning,
    x_InvalidDrill_InvalidBeginning := exm_mk eb_InvalidBeginning ei_InvalidBeginning et_InvalidBeginning es_InvalidDrill_InvalidBeginning,
    x_TooMany_InvalidBeginning := exm_mk eb_InvalidBeginning ei_InvalidBeginning et_InvalidBeginning es_TooMany_InvalidBeginning,
    x_InvalidRun_InvalidBeginning := exm_mk eb_InvalidBeginning ei_InvalidBeginning et_InvalidBeginning es_InvalidRun_InvalidBeginning,
    x_InvalidPlace_InvalidBeginning := exm_mk eb_InvalidBeginning ei_InvalidBeginning et_InvalidBeginning es_InvalidPlace_InvalidBeginning,
    x_NothingToUndo_InvalidBeginning := exm_mk eb_InvalidBeginning ei_InvalidBeginning et_InvalidBeginning es_NothingToUndo_InvalidBeginning,
    x_InvalidSheep_InvalidBeginning := exm_mk eb_InvalidBeginning ei_InvalidBeginning et_InvalidBeginning es_InvalidSheep_InvalidBeginning,
    x_InvalidBeginning_InvalidMany := exm_mk eb_InvalidMany ei_InvalidMany et_InvalidMany es_InvalidBeginning_InvalidMany,
    x_InvalidDrill_InvalidMany := exm_mk eb_InvalidMany ei_InvalidMany et_InvalidMany es_InvalidDrill_InvalidMany,
    x_TooMany_InvalidMany := exm_mk eb_InvalidMany ei_InvalidMany et_InvalidMany es_TooMany_InvalidMany,
    x_InvalidRun_InvalidMany := exm_mk eb_InvalidMany ei_InvalidMany et_InvalidMany es_InvalidRun_InvalidMany,
    x_InvalidPlace_InvalidMany := exm_mk eb_InvalidMany ei_InvalidMany et_InvalidMany es_InvalidPlace_InvalidMany,
    x_NothingToUndo_InvalidMany := exm_mk eb_InvalidMany ei_InvalidMany et_InvalidMany es_NothingToUndo_InvalidMany,
    x_InvalidSheep_InvalidMany := exm_mk eb_InvalidMany ei_InvalidMany et_InvalidMany es_InvalidSheep_InvalidMany,
    x_InvalidBeginning_InvalidSheep := exm_mk eb_InvalidSheep ei_InvalidSheep et_InvalidSheep es_InvalidBeginning_InvalidSheep,
    x_InvalidDrill_InvalidSheep := exm_mk eb_InvalidSheep ei_InvalidSheep et_InvalidSheep es_InvalidDrill_InvalidSheep,
    x_TooMany_InvalidSheep := exm_mk eb_InvalidSheep ei_InvalidSheep et_InvalidSheep es_TooMany_InvalidSheep,
    x_InvalidRun_InvalidSheep := exm_mk eb_InvalidSheep ei_InvalidSheep et_InvalidSheep es_InvalidRun_InvalidSheep,
    x_InvalidPlace_InvalidSheep := exm_mk eb_InvalidSheep ei_InvalidSheep et_InvalidSheep es_InvalidPlace_InvalidSheep,
    x_NothingToUndo_InvalidSheep := exm_mk eb_InvalidSheep ei_InvalidSheep et_InvalidSheep es_NothingToUndo_InvalidSheep,
    x_InvalidSheep_InvalidSheep := exm_mk eb_InvalidSheep ei_InvalidSheep et_InvalidSheep es_InvalidSheep_InvalidSheep,
    x_InvalidBeginning_InvalidPlace := exm_mk eb_InvalidPlace ei_InvalidPlace et_InvalidPlace es_InvalidBeginning_InvalidPlace,
    x_InvalidDrill_InvalidPlace := exm_mk eb_InvalidPlace ei_InvalidPlace et_InvalidPlace es_InvalidDrill_InvalidPlace,
    x_TooMany_InvalidPlace := exm_mk eb_InvalidPlace ei_InvalidPlace et_InvalidPlace es_TooMany_InvalidPlace,
    x_InvalidRun_InvalidPlace := exm_mk eb_InvalidPlace ei_InvalidPlace et_InvalidPlace es_InvalidRun_InvalidPlace,
    x_InvalidPlace_InvalidPlace := exm_mk eb_InvalidPlace ei_InvalidPlace et_InvalidPlace es_InvalidPlace_InvalidPlace,
    x_NothingToUndo_InvalidPlace := exm_mk eb_InvalidPlace ei_InvalidPlace et_InvalidPlace es_NothingToUndo_InvalidPlace,
    x_InvalidSheep_InvalidPlace := exm_mk eb_InvalidPlace ei_InvalidPlace et_InvalidPlace es_InvalidSheep_InvalidPlace,
    x_InvalidBeginning_InvalidRun := exm_mk eb_InvalidRun ei_InvalidRun et_InvalidRun es_InvalidBeginning_InvalidRun,
    x_InvalidDrill_InvalidRun := exm_mk eb_InvalidRun ei_InvalidRun et_InvalidRun es_InvalidDrill_InvalidRun,
    x_TooMany_InvalidRun := exm_mk eb_InvalidRun ei_InvalidRun et_InvalidRun es_TooMany_InvalidRun,
    x_InvalidRun_InvalidRun := exm_mk eb_InvalidRun ei_InvalidRun et_InvalidRun es_InvalidRun_InvalidRun,
    x_InvalidPlace_InvalidRun := exm_mk eb_InvalidRun ei_InvalidRun et_InvalidRun es_InvalidPlace_InvalidRun,
    x_NothingToUndo_InvalidRun := exm_mk eb_InvalidRun ei_InvalidRun et_InvalidRun es_NothingToUndo_InvalidRun,
    x_InvalidSheep_InvalidRun := exm_mk eb_InvalidRun ei_InvalidRun et_InvalidRun es_InvalidSheep_InvalidRun,
    x_InvalidBeginning_InvalidIndex := exm_mk eb_InvalidIndex ei_InvalidIndex et_InvalidIndex es_InvalidBeginning_InvalidIndex,
    x_InvalidDrill_InvalidIndex := exm_mk eb_InvalidIndex ei_InvalidIndex et_InvalidIndex es_InvalidDrill_InvalidIndex,
    x_TooMany_InvalidIndex := exm_mk eb_InvalidIndex ei_InvalidIndex et_InvalidIndex es_TooMany_InvalidIndex,
    x_InvalidRun_InvalidIndex := exm_mk eb_InvalidIndex ei_InvalidIndex et_InvalidIndex es_InvalidRun_InvalidIndex,
    x_InvalidPlace_InvalidIndex := exm_mk eb_InvalidIndex ei_InvalidIndex et_InvalidIndex es_InvalidPlace_InvalidIndex,
    x_NothingToUndo_InvalidIndex := exm_mk eb_InvalidIndex ei_InvalidIndex et_InvalidIndex es_NothingToUndo_InvalidIndex,
    x_InvalidSheep_InvalidIndex := exm_mk eb_InvalidIndex ei_InvalidIndex et_InvalidIndex es_InvalidSheep_InvalidIndex,
    x_InvalidBeginning_Unlike := exm_mk eb_Unlike ei_Unlike et_Unlike es_InvalidBeginning_Unlike,
    x_InvalidDrill_Unlike := exm_mk eb_Unlike ei_Unlike et_Unlike es_InvalidDrill_Unlike,
    x_TooMany_Unlike := exm_mk eb_Unlike ei_Unlike et_Unlike es_TooMany_Unlike,
    x_InvalidRun_Unlike := exm_mk eb_Unlike ei_Unlike et_Unlike es_InvalidRun_Unlike,
    x_InvalidPlace_Unlike := exm_mk eb_Unlike ei_Unlike et_Unlike es_InvalidPlace_Unlike,
    x_NothingToUndo_Unlike := exm_mk eb_Unlike ei_Unlike et_Unlike es_NothingToUndo_Unlike,
    x_InvalidSheep_Unlike := exm_mk eb_Unlike ei_Unlike et_Unlike es_InvalidSheep_Unlike,
    x_InvalidBeginning_NothingToUndo := exm_mk eb_NothingToUndo ei_NothingToUndo et_NothingToUndo es_InvalidBeginning_NothingToUndo,
    x_InvalidDrill_NothingToUndo := exm_mk eb_NothingToUndo ei_NothingToUndo et_NothingToUndo es_InvalidDrill_NothingToUndo,
    x_TooMany_NothingToUndo := exm_mk eb_NothingToUndo ei_NothingToUndo et_NothingToUndo es_TooMany_NothingToUndo,
    x_InvalidRun_NothingToUndo := exm_mk eb_NothingToUndo ei_NothingToUndo et_NothingToUndo es_InvalidRun_NothingToUndo,
    x_InvalidPlace_NothingToUndo := exm_mk eb_NothingToUndo ei_NothingToUndo et_NothingToUndo es_InvalidPlace_NothingToUndo,
    x_NothingToUndo_NothingToUndo := exm_mk eb_NothingToUndo ei_NothingToUndo et_NothingToUndo es_NothingToUndo_NothingToUndo,
    x_InvalidSheep_NothingToUndo := exm_mk eb_NothingToUndo ei_NothingToUndo et_NothingToUndo es_InvalidSheep_NothingToUndo,
    x_InvalidBeginning_DogError := exm_mk eb_DogError ei_DogError et_DogError es_InvalidBeginning_DogError,
    x_InvalidDrill_DogError := exm_mk eb_DogError ei_DogError et_DogError es_InvalidDrill_DogError,
    x_TooMany_DogError := exm_mk eb_DogError ei_DogError et_DogError es_TooMany_DogError,
    x_InvalidRun_DogError := exm_mk eb_DogError ei_DogError et_DogError es_InvalidRun_DogError,
    x_InvalidPlace_DogError := exm_mk eb_DogError ei_DogError et_DogError es_InvalidPlace_DogError,
    x_NothingToUndo_DogError := exm_mk eb_DogError ei_DogError et_DogError es_NothingToUndo_DogError,
    x_InvalidSheep_DogError := exm_mk eb_DogError ei_DogError et_DogError es_InvalidSheep_DogError,
    x_InvalidBeginning_TooMany := exm_mk eb_TooMany ei_TooMany et_TooMany es_InvalidBeginning_TooMany,
    x_InvalidDrill_TooMany := exm_mk eb_TooMany ei_TooMany et_TooMany es_InvalidDrill_TooMany,
    x_TooMany_TooMany := exm_mk eb_TooMany ei_TooMany et_TooMany es_TooMany_TooMany,
    x_InvalidRun_TooMany := exm_mk eb_TooMany ei_TooMany et_TooMany es_InvalidRun_TooMany,
    x_InvalidPlace_TooMany := exm_mk eb_TooMany ei_TooMany et_TooMany es_InvalidPlace_TooMany,
    x_NothingToUndo_TooMany := exm_mk eb_TooMany ei_TooMany et_TooMany es_NothingToUndo_TooMany,
    x_InvalidSheep_TooMany := exm_mk eb_TooMany ei_TooMany et_TooMany es_InvalidSheep_TooMany,
    x_InvalidBeginning_InvalidText := exm_mk eb_InvalidText ei_InvalidText et_InvalidText es_InvalidBeginning_InvalidText,
    x_InvalidDrill_InvalidText := exm_mk eb_InvalidText ei_InvalidText et_InvalidText es_InvalidDrill_InvalidText,
    x_TooMany_InvalidText := exm_mk eb_InvalidText ei_InvalidText et_InvalidText es_TooMany_InvalidText,
    x_InvalidRun_InvalidText := exm_mk eb_InvalidText ei_InvalidText et_InvalidText es_InvalidRun_InvalidText,
    x_InvalidPlace_InvalidText := exm_mk eb_InvalidText ei_InvalidText et_InvalidText es_InvalidPlace_InvalidText,
    x_NothingToUndo_InvalidText := exm_mk eb_InvalidText ei_InvalidText et_InvalidText es_NothingToUndo_InvalidText,
    x_InvalidSheep_InvalidText := exm_mk eb_InvalidText ei_InvalidText et_InvalidText es_InvalidSheep_InvalidText,
    t_GREAT := t_GREAT, g_GREAT := PySem.W.mg_of X G v_GREAT,
    t_FAR := t_FAR, g_FAR := PySem.W.mg_of X G v_FAR,
    t_MOST_SHEEP := t_MOST_SHEEP, g_MOST_SHEEP := PySem.W.mg_of X G v_MOST_SHEEP,
    t_WIDEST := t_WIDEST, g_WIDEST := PySem.W.mg_of X G v_WIDEST,
    t_DEEPEST := t_DEEPEST, g_DEEPEST := PySem.W.mg_of X G v_DEEPEST,
    z_abs := PySem.W.mg_none_of X G z_abs,
    z_bool := PySem.W.mg_none_of X G z_bool,
    z_enumerate := PySem.W.mg_none_of X G z_enumerate,
    z_int := PySem.W.mg_none_of X G z_int,
    z_isinstance := PySem.W.mg_none_of X G z_isinstance,
    z_len := PySem.W.mg_none_of X G z_len,
    z_list := PySem.W.mg_none_of X G z_list,
    z_max := PySem.W.mg_none_of X G z_max,
    z_min := PySem.W.mg_none_of X G z_min,
    z_range := PySem.W.mg_none_of X G z_range,
    z_sorted := PySem.W.mg_none_of X G z_sorted,
    z_str := PySem.W.mg_none_of X G z_str,
    z_tuple := PySem.W.mg_none_of X G z_tuple,
    z_zip := PySem.W.mg_none_of X G z_zip }
  have tab1 := fun (x : Str) (c P : Addr) (d : DefRec) (t : PySem.W.tabIn K x = some (c, P)) (r : (recsOf q).find? (fun e => e.name == x) = some d) => PySem.W.tab_of T X r t
  have hT : ∀ p ∈ ([(cc38, pp38), (cc36, pp36), (cc35, pp35), (cc37, pp37)] : List (Addr × Addr)), h.get? p.2 = some { cls := .none, data := .fields #[] } := fun p hp => by
    simp only [List.mem_cons, List.not_mem_nil, or_false] at hp
    rcases hp with rfl | rfl | rfl | rfl
    · exact (tab1 _ _ _ _ tt38 q38).2
    · exact (tab1 _ _ _ _ tt36 q36).2
    · exact (tab1 _ _ _ _ tt35 q35).2
    · exact (tab1 _ _ _ _ tt37 q37).2
  have hC : ∀ p ∈ ([(cc38, pp38), (cc36, pp36), (cc35, pp35), (cc37, pp37)] : List (Addr × Addr)), PySem.W.CodeHd h p.1 p.2 := fun p hp => by
    simp only [List.mem_cons, List.not_mem_nil, or_false] at hp
    rcases hp with rfl | rfl | rfl | rfl
    · exact (tab1 _ _ _ _ tt38 q38).1
    · exact (tab1 _ _ _ _ tt36 q36).1
    · exact (tab1 _ _ _ _ tt35 q35).1
    · exact (tab1 _ _ _ _ tt37 q37).1
  have hN : ∀ p ∈ ([(cc38, pp38), (cc36, pp36), (cc35, pp35), (cc37, pp37)] : List (Addr × Addr)), K.lookup p.2 = none := fun p hp => by
    simp only [List.mem_cons, List.not_mem_nil, or_false] at hp
    rcases hp with rfl | rfl | rfl | rfl
    · exact r38
    · exact r36
    · exact r35
    · exact r37
  have hin : ∀ p ∈ tabsOf K, ∃ c, (c, p.1) ∈ ([(cc38, pp38), (cc36, pp36), (cc35, pp35), (cc37, pp37)] : List (Addr × Addr)) := by
    rw [tabs]
    intro p hp
    simp only [List.mem_cons, List.not_mem_nil, or_false] at hp
    rcases hp with rfl | rfl | rfl | rfl
    · exact ⟨cc38, by simp⟩
    · exact ⟨cc36, by simp⟩
    · exact ⟨cc35, by simp⟩
    · exact ⟨cc37, by simp⟩
  exact ⟨(PySem.W.fnOf "law" "law" (defArgs s_law) (defBody s_law) (defScope s_law) .none kV38 dc38 pm38 an38 (.ref cc38) ct38), [(cc38, pp38), (cc36, pp36), (cc35, pp35), (cc37, pp37)], spD K 1 (S_law ["InvalidBeginning", "InvalidDrill", "TooMany", "InvalidRun", "InvalidPlace", "NothingToUndo", "InvalidSheep"]), hT, hN, hC, fun s u => .of_eq rfl, fun H a ns hl _ hH hS => law_spT hin (fun ns T Q QX hl q => law_in ns T Q QX hl q) H a ns hl hH hS, fun base _ _ TB => ok_law M (TB (cc35, pp35) (by simp)) (TB (cc37, pp37) (by simp)) (TB (cc38, pp38) (by simp))⟩
end DL
set_option Elab.async false
set_option linter.all false
set_option maxRecDepth 100000
set_option maxHeartbeats 4000000
set_option autoImplicit false
open PySem PySem.W PyProof.Rows
set_option maxHeartbeats 0 in
theorem PySem.Challenge.cw_dogruns_k14_whole_lanes_run_by_run_holds : PySem.Challenge.rw_dogruns_k14_whole_lanes_run_by_run.Holds := by
  w_on; o_law; k_head; (case hw => w_witness2)
  k_fill
  refine DL.walk_ofD (l := PySem.Challenge.rw_dogruns_k14_whole_lanes_run_by_run) (n := 63) (k := 14) (x := "_law_script") (CX := fun w => L2.CX PySem.Challenge.rw_dogruns_k14_whole_lanes_run_by_run.prog w) rfl (by decide) rfl ⟨rfl, by decide, by decide⟩ (fun w h Y => PySem.W.km_in_of Y) ?F ?X
  case F =>
    intro w mg mb fa h lo mean Y KX T hmg
    refine' DL.all_mk KX T hmg ?eg_Lane ?eg_InvalidBeginning ?eg_InvalidDrill ?eg_InvalidRun ?eg_InvalidPlace ?eg_NothingToUndo ?eg_InvalidSheep ?eg_InvalidMany ?eg_InvalidIndex ?eg_Unlike ?eg_DogError ?eg_TooMany ?eg_InvalidText ?a0 ?l0 ?c0 ?k0 ?a1 ?l1 ?c1 ?k1 ?a2 ?l2 ?c2 ?k2 ?a3 ?l3 ?c3 ?k3 ?a4 ?l4 ?c4 ?k4 ?a5 ?l5 ?c5 ?k5 ?ma6 ?mf6 ?mi6 ?l6 ?c6 ?k6 ?ma7 ?mr7 ?mg7 ?mt7 ?mi7 ?l7 ?c7 ?k7 ?ma8 ?mr8 ?mg8 ?mt8 ?mi8 ?l8 ?c8 ?k8 ?ma9 ?mr9 ?mg9 ?mt9 ?mi9 ?l9 ?c9 ?k9 ?ma10 ?mf10 ?mi10 ?l10 ?c10 ?k10 ?ma11 ?mf11 ?mi11 ?l11 ?c11 ?k11 ?ma12 ?mf12 ?mi12 ?l12 ?c12 ?k12 ?ma13 ?mf13 ?mi13 ?l13 ?c13 ?k13 ?ma14 ?mf14 ?mi14 ?l14 ?c14 ?k14 ?ma15 ?mf15 ?mi15 ?l15 ?c15 ?k15 ?ma16 ?mf16 ?mi16 ?l16 ?c16 ?k16 ?ma17 ?mf17 ?mi17 ?l17 ?c17 ?k17 ?ma18 ?mf18 ?mi18 ?l18 ?c18 ?k18 ?ma19 ?mf19 ?mi19 ?l19 ?c19 ?k19 ?ma20 ?mf20 ?mi20 ?l20 ?c20 ?k20 ?a21 ?l21 ?c21 ?k21 ?a22 ?l22 ?c22 ?k22 ?a23 ?l23 ?c23 ?k23 ?a24 ?l24 ?c24 ?k24 ?a25 ?l25 ?c25 ?k25 ?a26 ?l26 ?c26 ?k26 ?a27 ?l27 ?c27 ?k27 ?a28 ?l28 ?c28 ?k28 ?a29 ?l29 ?c29 ?k29 ?a30 ?l30 ?c30 ?k30 ?a31 ?l31 ?c31 ?k31 ?a32 ?l32 ?c32 ?k32 ?a33 ?l33 ?c33 ?k33 ?a34 ?l34 ?c34 ?k34 ?a35 ?l35 ?c35 ?k35 ?y35 ?p35 ?r35 ?q35 ?a36 ?l36 ?c36 ?k36 ?y36 ?p36 ?r36 ?q36 ?a37 ?l37 ?c37 ?k37 ?y37 ?p37 ?r37 ?q37 ?a38 ?l38 ?c38 ?k38 ?y38 ?p38 ?r38 ?q38 ?j38_36 ?j38_35 ?j38_37 ?j36_35 ?j36_37 ?j35_37 ?kpg_Lane ?khd_Lane ?kpo_Lane ?ksa_Lane ?ksf_Lane ?kmo_Lane ?kca_Lane ?kic_Lane ?kty_Lane ?ksNoneType_Lane ?ksbool_Lane ?ksint_Lane ?ksstr_Lane ?kstuple_Lane ?kslist_Lane ?kn_now_Lane ?kn_past_Lane ?kn_space_Lane ?kmk_Lane ?kkp_Lane ?krd_Lane ?kga_Lane ?kf_MOST_Lane ?kw_MOST_Lane ?kv_MOST_Lane ?u__law_tried ?u__law_signs_right ?u__law_refused ?u__law_nested ?u__law_ended ?u__law_back ?u__law_full_right ?u__law_first_calls ?u__law_pair_calls ?u__law_place_calls ?u__law_many_calls ?ex_InvalidBeginning ?ek_InvalidBeginning ?eb_InvalidBeginning ?et_InvalidBeginning ?ex_InvalidDrill ?ek_InvalidDrill ?eb_InvalidDrill ?et_InvalidDrill ?ex_InvalidRun ?ek_InvalidRun ?eb_InvalidRun ?et_InvalidRun ?ex_InvalidPlace ?ek_InvalidPlace ?eb_InvalidPlace ?et_InvalidPlace ?ex_NothingToUndo ?ek_NothingToUndo ?eb_NothingToUndo ?et_NothingToUndo ?ex_InvalidSheep ?ek_InvalidSheep ?eb_InvalidSheep ?et_InvalidSheep ?ex_InvalidMany ?ek_InvalidMany ?eb_InvalidMany ?et_InvalidMany ?ex_InvalidIndex ?ek_InvalidIndex ?eb_InvalidIndex ?et_InvalidIndex ?ex_Unlike ?ek_Unlike ?eb_Unlike ?et_Unlike ?ex_DogError ?ek_DogError ?eb_DogError ?et_DogError ?ik_TooMany ?il_TooMany ?im_TooMany ?ia_TooMany ?ii_TooMany ?it_TooMany ?ip_TooMany ?ic_TooMany ?in_TooMany ?bk_DogError ?br_DogError ?ba_DogError ?bi_DogError ?gn ?gt ?ea_DogError ?ec_DogError ?ed_DogError ?ee_DogError ?ef_DogError ?eh_DogError ?ea_InvalidDrill ?ec_InvalidDrill ?ed_InvalidDrill ?ee_InvalidDrill ?ef_InvalidDrill ?eh_InvalidDrill ?ea_InvalidBeginning ?ec_InvalidBeginning ?ed_InvalidBeginning ?ee_InvalidBeginning ?ef_InvalidBeginning ?eh_InvalidBeginning ?ea_InvalidMany ?ec_InvalidMany ?ed_InvalidMany ?ee_InvalidMany ?ef_InvalidMany ?eh_InvalidMany ?ea_InvalidSheep ?ec_InvalidSheep ?ed_InvalidSheep ?ee_InvalidSheep ?ef_InvalidSheep ?eh_InvalidSheep ?ea_InvalidPlace ?ec_InvalidPlace ?ed_InvalidPlace ?ee_InvalidPlace ?ef_InvalidPlace ?eh_InvalidPlace ?ea_InvalidRun ?ec_InvalidRun ?ed_InvalidRun ?ee_InvalidRun ?ef_InvalidRun ?eh_InvalidRun ?ea_InvalidIndex ?ec_InvalidIndex ?ed_InvalidIndex ?ee_InvalidIndex ?ef_InvalidIndex ?eh_InvalidIndex ?ea_Unlike ?ec_Unlike ?ed_Unlike ?ee_Unlike ?ef_Unlike ?eh_Unlike ?ea_NothingToUndo ?ec_NothingToUndo ?ed_NothingToUndo ?ee_NothingToUndo ?ef_NothingToUndo ?eh_NothingToUndo ?ea_TooMany ?ec_TooMany ?ed_TooMany ?ee_TooMany ?ef_TooMany ?eh_TooMany ?ea_InvalidText ?ec_InvalidText ?ed_InvalidText ?ee_InvalidText ?ef_InvalidText ?eh_InvalidText ?hd_TooMany ?hf_TooMany ?hd_InvalidText ?hf_InvalidText ?eb_TooMany ?et_TooMany ?eb_InvalidText ?et_InvalidText ?ei_InvalidDrill ?es_InvalidBeginning_InvalidDrill ?es_InvalidDrill_InvalidDrill ?es_TooMany_InvalidDrill ?es_InvalidRun_InvalidDrill ?es_InvalidPlace_InvalidDrill ?es_NothingToUndo_InvalidDrill ?es_InvalidSheep_InvalidDrill ?ei_InvalidBeginning ?es_InvalidBeginning_InvalidBeginning ?es_InvalidDrill_InvalidBeginning ?es_TooMany_InvalidBeginning ?es_InvalidRun_InvalidBeginning ?es_InvalidPlace_InvalidBeginning ?es_NothingToUndo_InvalidBeginning ?es_InvalidSheep_InvalidBeginning ?ei_InvalidMany ?es_InvalidBeginning_InvalidMany ?es_InvalidDrill_InvalidMany ?es_TooMany_InvalidMany ?es_InvalidRun_InvalidMany ?es_InvalidPlace_InvalidMany ?es_NothingToUndo_InvalidMany ?es_InvalidSheep_InvalidMany ?ei_InvalidSheep ?es_InvalidBeginning_InvalidSheep ?es_InvalidDrill_InvalidSheep ?es_TooMany_InvalidSheep ?es_InvalidRun_InvalidSheep ?es_InvalidPlace_InvalidSheep ?es_NothingToUndo_InvalidSheep ?es_InvalidSheep_InvalidSheep ?ei_InvalidPlace ?es_InvalidBeginning_InvalidPlace ?es_InvalidDrill_InvalidPlace ?es_TooMany_InvalidPlace ?es_InvalidRun_InvalidPlace ?es_InvalidPlace_InvalidPlace ?es_NothingToUndo_InvalidPlace ?es_InvalidSheep_InvalidPlace ?ei_InvalidRun ?es_InvalidBeginning_InvalidRun ?es_InvalidDrill_InvalidRun ?es_TooMany_InvalidRun ?es_InvalidRun_InvalidRun ?es_InvalidPlace_InvalidRun ?es_NothingToUndo_InvalidRun ?es_InvalidSheep_InvalidRun ?ei_InvalidIndex ?es_InvalidBeginning_InvalidIndex ?es_InvalidDrill_InvalidIndex ?es_TooMany_InvalidIndex ?es_InvalidRun_InvalidIndex ?es_InvalidPlace_InvalidIndex ?es_NothingToUndo_InvalidIndex ?es_InvalidSheep_InvalidIndex ?ei_Unlike ?es_InvalidBeginning_Unlike ?es_InvalidDrill_Unlike ?es_TooMany_Unlike ?es_InvalidRun_Unlike ?es_InvalidPlace_Unlike ?es_NothingToUndo_Unlike ?es_InvalidSheep_Unlike ?ei_NothingToUndo ?es_InvalidBeginning_NothingToUndo ?es_InvalidDrill_NothingToUndo ?es_TooMany_NothingToUndo ?es_InvalidRun_NothingToUndo ?es_InvalidPlace_NothingToUndo ?es_NothingToUndo_NothingToUndo ?es_InvalidSheep_NothingToUndo ?ei_DogError ?es_InvalidBeginning_DogError ?es_InvalidDrill_DogError ?es_TooMany_DogError ?es_InvalidRun_DogError ?es_InvalidPlace_DogError ?es_NothingToUndo_DogError ?es_InvalidSheep_DogError ?ei_TooMany ?es_InvalidBeginning_TooMany ?es_InvalidDrill_TooMany ?es_TooMany_TooMany ?es_InvalidRun_TooMany ?es_InvalidPlace_TooMany ?es_NothingToUndo_TooMany ?es_InvalidSheep_TooMany ?ei_InvalidText ?es_InvalidBeginning_InvalidText ?es_InvalidDrill_InvalidText ?es_TooMany_InvalidText ?es_InvalidRun_InvalidText ?es_InvalidPlace_InvalidText ?es_NothingToUndo_InvalidText ?es_InvalidSheep_InvalidText ?v_GREAT ?v_FAR ?v_MOST_SHEEP ?v_WIDEST ?v_DEEPEST ?z_abs ?z_bool ?z_enumerate ?z_int ?z_isinstance ?z_len ?z_list ?z_max ?z_min ?z_range ?z_sorted ?z_str ?z_tuple ?z_zip
    (case eg_Lane => k_is); (case eg_InvalidBeginning => k_is); (case eg_InvalidDrill => k_is); (case eg_InvalidRun => k_is); (case eg_InvalidPlace => k_is); (case eg_NothingToUndo => k_is); (case eg_InvalidSheep => k_is); (case eg_InvalidMany => k_is)
    (case eg_InvalidIndex => k_is); (case eg_Unlike => k_is); (case eg_DogError => k_is); (case eg_TooMany => k_is); (case eg_InvalidText => k_is); (case a0 => k_is); (case l0 => k_is); (case c0 => k_is)
    (case k0 => k_is); (case a1 => k_is); (case l1 => k_is); (case c1 => k_is); (case k1 => k_is); (case a2 => k_is); (case l2 => k_is); (case c2 => k_is)
    (case k2 => k_is); (case a3 => k_is); (case l3 => k_is); (case c3 => k_is); (case k3 => k_is); (case a4 => k_is); (case l4 => k_is); (case c4 => k_is)
    (case k4 => k_is); (case a5 => k_is); (case l5 => k_is); (case c5 => k_is); (case k5 => k_is); (case ma6 => k_is); (case mf6 => k_is); (case mi6 => k_is)
    (case l6 => k_is); (case c6 => k_is); (case k6 => k_is); (case ma7 => k_is); (case mr7 => k_is); (case mg7 => k_is); (case mt7 => k_is); (case mi7 => k_is)
    (case l7 => k_is); (case c7 => k_is); (case k7 => k_is); (case ma8 => k_is); (case mr8 => k_is); (case mg8 => k_is); (case mt8 => k_is); (case mi8 => k_is)
    (case l8 => k_is); (case c8 => k_is); (case k8 => k_is); (case ma9 => k_is); (case mr9 => k_is); (case mg9 => k_is); (case mt9 => k_is); (case mi9 => k_is)
    (case l9 => k_is); (case c9 => k_is); (case k9 => k_is); (case ma10 => k_is); (case mf10 => k_is); (case mi10 => k_is); (case l10 => k_is); (case c10 => k_is)
    (case k10 => k_is); (case ma11 => k_is); (case mf11 => k_is); (case mi11 => k_is); (case l11 => k_is); (case c11 => k_is); (case k11 => k_is); (case ma12 => k_is)
    (case mf12 => k_is); (case mi12 => k_is); (case l12 => k_is); (case c12 => k_is); (case k12 => k_is); (case ma13 => k_is); (case mf13 => k_is); (case mi13 => k_is)
    (case l13 => k_is); (case c13 => k_is); (case k13 => k_is); (case ma14 => k_is); (case mf14 => k_is); (case mi14 => k_is); (case l14 => k_is); (case c14 => k_is)
    (case k14 => k_is); (case ma15 => k_is); (case mf15 => k_is); (case mi15 => k_is); (case l15 => k_is); (case c15 => k_is); (case k15 => k_is); (case ma16 => k_is)
    (case mf16 => k_is); (case mi16 => k_is); (case l16 => k_is); (case c16 => k_is); (case k16 => k_is); (case ma17 => k_is); (case mf17 => k_is); (case mi17 => k_is)
    (case l17 => k_is); (case c17 => k_is); (case k17 => k_is); (case ma18 => k_is); (case mf18 => k_is); (case mi18 => k_is); (case l18 => k_is); (case c18 => k_is)
    (case k18 => k_is); (case ma19 => k_is); (case mf19 => k_is); (case mi19 => k_is); (case l19 => k_is); (case c19 => k_is); (case k19 => k_is); (case ma20 => k_is)
    (case mf20 => k_is); (case mi20 => k_is); (case l20 => k_is); (case c20 => k_is); (case k20 => k_is); (case a21 => k_is); (case l21 => k_is); (case c21 => k_is)
    (case k21 => k_is); (case a22 => k_is); (case l22 => k_is); (case c22 => k_is); (case k22 => k_is); (case a23 => k_is); (case l23 => k_is); (case c23 => k_is)
    (case k23 => k_is); (case a24 => k_is); (case l24 => k_is); (case c24 => k_is); (case k24 => k_is); (case a25 => k_is); (case l25 => k_is); (case c25 => k_is)
    (case k25 => k_is); (case a26 => k_is); (case l26 => k_is); (case c26 => k_is); (case k26 => k_is); (case a27 => k_is); (case l27 => k_is); (case c27 => k_is)
    (case k27 => k_is); (case a28 => k_is); (case l28 => k_is); (case c28 => k_is); (case k28 => k_is); (case a29 => k_is); (case l29 => k_is); (case c29 => k_is)
    (case k29 => k_is); (case a30 => k_is); (case l30 => k_is); (case c30 => k_is); (case k30 => k_is); (case a31 => k_is); (case l31 => k_is); (case c31 => k_is)
    (case k31 => k_is); (case a32 => k_is); (case l32 => k_is); (case c32 => k_is); (case k32 => k_is); (case a33 => k_is); (case l33 => k_is); (case c33 => k_is)
    (case k33 => k_is); (case a34 => k_is); (case l34 => k_is); (case c34 => k_is); (case k34 => k_is); (case a35 => k_is); (case l35 => k_is); (case c35 => k_is)
    (case k35 => k_is); (case y35 => k_is); (case p35 => rfl); (case r35 => first | kernel_rfl | rfl | decide +kernel); (case q35 => first | rfl | kernel_rfl); (case a36 => k_is); (case l36 => k_is); (case c36 => k_is)
    (case k36 => k_is); (case y36 => k_is); (case p36 => rfl); (case r36 => first | kernel_rfl | rfl | decide +kernel); (case q36 => first | rfl | kernel_rfl); (case a37 => k_is); (case l37 => k_is); (case c37 => k_is)
    (case k37 => k_is); (case y37 => k_is); (case p37 => rfl); (case r37 => first | kernel_rfl | rfl | decide +kernel); (case q37 => first | rfl | kernel_rfl); (case a38 => k_is); (case l38 => k_is); (case c38 => k_is)
    (case k38 => k_is); (case y38 => k_is); (case p38 => rfl); (case r38 => first | kernel_rfl | rfl | decide +kernel); (case q38 => first | rfl | kernel_rfl); (case j38_36 => decide); (case j38_35 => decide); (case j38_37 => decide)
    (case j36_35 => decide); (case j36_37 => decide); (case j35_37 => decide); (case kpg_Lane => k_is); (case khd_Lane => k_is); (case kpo_Lane => k_is); (case ksa_Lane => k_is); (case ksf_Lane => k_is)
    (case kmo_Lane => k_is); (case kca_Lane => k_is); (case kic_Lane => k_is); (case kty_Lane => k_is); (case ksNoneType_Lane => k_is); (case ksbool_Lane => k_is); (case ksint_Lane => k_is); (case ksstr_Lane => k_is)
    (case kstuple_Lane => k_is); (case kslist_Lane => k_is); (case kn_now_Lane => k_is); (case kn_past_Lane => k_is); (case kn_space_Lane => k_is); (case kmk_Lane => k_is); (case kkp_Lane => k_is); (case krd_Lane => k_is)
    (case kga_Lane => k_is); (case kf_MOST_Lane => k_is); (case kw_MOST_Lane => k_is); (case kv_MOST_Lane => k_is); (case u__law_tried => k_is); (case u__law_signs_right => k_is); (case u__law_refused => k_is); (case u__law_nested => k_is)
    (case u__law_ended => k_is); (case u__law_back => k_is); (case u__law_full_right => k_is); (case u__law_first_calls => k_is); (case u__law_pair_calls => k_is); (case u__law_place_calls => k_is); (case u__law_many_calls => k_is); (case ex_InvalidBeginning => k_exc)
    (case ek_InvalidBeginning => k_is); (case eb_InvalidBeginning => k_is); (case et_InvalidBeginning => k_is); (case ex_InvalidDrill => k_exc); (case ek_InvalidDrill => k_is); (case eb_InvalidDrill => k_is); (case et_InvalidDrill => k_is); (case ex_InvalidRun => k_exc)
    (case ek_InvalidRun => k_is); (case eb_InvalidRun => k_is); (case et_InvalidRun => k_is); (case ex_InvalidPlace => k_exc); (case ek_InvalidPlace => k_is); (case eb_InvalidPlace => k_is); (case et_InvalidPlace => k_is); (case ex_NothingToUndo => k_exc)
    (case ek_NothingToUndo => k_is); (case eb_NothingToUndo => k_is); (case et_NothingToUndo => k_is); (case ex_InvalidSheep => k_exc); (case ek_InvalidSheep => k_is); (case eb_InvalidSheep => k_is); (case et_InvalidSheep => k_is); (case ex_InvalidMany => k_exc)
    (case ek_InvalidMany => k_is); (case eb_InvalidMany => k_is); (case et_InvalidMany => k_is); (case ex_InvalidIndex => k_exc); (case ek_InvalidIndex => k_is); (case eb_InvalidIndex => k_is); (case et_InvalidIndex => k_is); (case ex_Unlike => k_exc)
    (case ek_Unlike => k_is); (case eb_Unlike => k_is); (case et_Unlike => k_is); (case ex_DogError => k_exc); (case ek_DogError => k_is); (case eb_DogError => k_is); (case et_DogError => k_is); (case ik_TooMany => k_is)
    (case il_TooMany => k_is); (case im_TooMany => first | rfl | kernel_rfl | decide +kernel); (case ia_TooMany => k_is); (case ii_TooMany => k_is); (case it_TooMany => k_is); (case ip_TooMany => k_is); (case ic_TooMany => k_is); (case in_TooMany => k_is)
    (case bk_DogError => k_is); (case br_DogError => k_is); (case ba_DogError => k_is); (case bi_DogError => k_is); (case gn => k_is); (case gt => k_is); (case ea_DogError => k_is); (case ec_DogError => k_is)
    (case ed_DogError => k_is); (case ee_DogError => k_is); (case ef_DogError => k_is); (case eh_DogError => k_is); (case ea_InvalidDrill => k_is); (case ec_InvalidDrill => k_is); (case ed_InvalidDrill => k_is); (case ee_InvalidDrill => k_is)
    (case ef_InvalidDrill => k_is); (case eh_InvalidDrill => k_is); (case ea_InvalidBeginning => k_is); (case ec_InvalidBeginning => k_is); (case ed_InvalidBeginning => k_is); (case ee_InvalidBeginning => k_is); (case ef_InvalidBeginning => k_is); (case eh_InvalidBeginning => k_is)
    (case ea_InvalidMany => k_is); (case ec_InvalidMany => k_is); (case ed_InvalidMany => k_is); (case ee_InvalidMany => k_is); (case ef_InvalidMany => k_is); (case eh_InvalidMany => k_is); (case ea_InvalidSheep => k_is); (case ec_InvalidSheep => k_is)
    (case ed_InvalidSheep => k_is); (case ee_InvalidSheep => k_is); (case ef_InvalidSheep => k_is); (case eh_InvalidSheep => k_is); (case ea_InvalidPlace => k_is); (case ec_InvalidPlace => k_is); (case ed_InvalidPlace => k_is); (case ee_InvalidPlace => k_is)
    (case ef_InvalidPlace => k_is); (case eh_InvalidPlace => k_is); (case ea_InvalidRun => k_is); (case ec_InvalidRun => k_is); (case ed_InvalidRun => k_is); (case ee_InvalidRun => k_is); (case ef_InvalidRun => k_is); (case eh_InvalidRun => k_is)
    (case ea_InvalidIndex => k_is); (case ec_InvalidIndex => k_is); (case ed_InvalidIndex => k_is); (case ee_InvalidIndex => k_is); (case ef_InvalidIndex => k_is); (case eh_InvalidIndex => k_is); (case ea_Unlike => k_is); (case ec_Unlike => k_is)
    (case ed_Unlike => k_is); (case ee_Unlike => k_is); (case ef_Unlike => k_is); (case eh_Unlike => k_is); (case ea_NothingToUndo => k_is); (case ec_NothingToUndo => k_is); (case ed_NothingToUndo => k_is); (case ee_NothingToUndo => k_is)
    (case ef_NothingToUndo => k_is); (case eh_NothingToUndo => k_is); (case ea_TooMany => k_is); (case ec_TooMany => k_is); (case ed_TooMany => k_is); (case ee_TooMany => k_is); (case ef_TooMany => k_is); (case eh_TooMany => k_is)
    (case ea_InvalidText => k_is); (case ec_InvalidText => k_is); (case ed_InvalidText => k_is); (case ee_InvalidText => k_is); (case ef_InvalidText => k_is); (case eh_InvalidText => k_is); (case hd_TooMany => k_is); (case hf_TooMany => k_is)
    (case hd_InvalidText => k_is); (case hf_InvalidText => k_is); (case eb_TooMany => k_is); (case et_TooMany => k_is); (case eb_InvalidText => k_is); (case et_InvalidText => k_is); (case ei_InvalidDrill => k_is); (case es_InvalidBeginning_InvalidDrill => first | k_is | rfl)
    (case es_InvalidDrill_InvalidDrill => first | k_is | rfl); (case es_TooMany_InvalidDrill => first | k_is | rfl); (case es_InvalidRun_InvalidDrill => first | k_is | rfl); (case es_InvalidPlace_InvalidDrill => first | k_is | rfl); (case es_NothingToUndo_InvalidDrill => first | k_is | rfl); (case es_InvalidSheep_InvalidDrill => first | k_is | rfl); (case ei_InvalidBeginning => k_is); (case es_InvalidBeginning_InvalidBeginning => first | k_is | rfl)
    (case es_InvalidDrill_InvalidBeginning => first | k_is | rfl); (case es_TooMany_InvalidBeginning => first | k_is | rfl); (case es_InvalidRun_InvalidBeginning => first | k_is | rfl); (case es_InvalidPlace_InvalidBeginning => first | k_is | rfl); (case es_NothingToUndo_InvalidBeginning => first | k_is | rfl); (case es_InvalidSheep_InvalidBeginning => first | k_is | rfl); (case ei_InvalidMany => k_is); (case es_InvalidBeginning_InvalidMany => first | k_is | rfl)
    (case es_InvalidDrill_InvalidMany => first | k_is | rfl); (case es_TooMany_InvalidMany => first | k_is | rfl); (case es_InvalidRun_InvalidMany => first | k_is | rfl); (case es_InvalidPlace_InvalidMany => first | k_is | rfl); (case es_NothingToUndo_InvalidMany => first | k_is | rfl); (case es_InvalidSheep_InvalidMany => first | k_is | rfl); (case ei_InvalidSheep => k_is); (case es_InvalidBeginning_InvalidSheep => first | k_is | rfl)
    (case es_InvalidDrill_InvalidSheep => first | k_is | rfl); (case es_TooMany_InvalidSheep => first | k_is | rfl); (case es_InvalidRun_InvalidSheep => first | k_is | rfl); (case es_InvalidPlace_InvalidSheep => first | k_is | rfl); (case es_NothingToUndo_InvalidSheep => first | k_is | rfl); (case es_InvalidSheep_InvalidSheep => first | k_is | rfl); (case ei_InvalidPlace => k_is); (case es_InvalidBeginning_InvalidPlace => first | k_is | rfl)
    (case es_InvalidDrill_InvalidPlace => first | k_is | rfl); (case es_TooMany_InvalidPlace => first | k_is | rfl); (case es_InvalidRun_InvalidPlace => first | k_is | rfl); (case es_InvalidPlace_InvalidPlace => first | k_is | rfl); (case es_NothingToUndo_InvalidPlace => first | k_is | rfl); (case es_InvalidSheep_InvalidPlace => first | k_is | rfl); (case ei_InvalidRun => k_is); (case es_InvalidBeginning_InvalidRun => first | k_is | rfl)
    (case es_InvalidDrill_InvalidRun => first | k_is | rfl); (case es_TooMany_InvalidRun => first | k_is | rfl); (case es_InvalidRun_InvalidRun => first | k_is | rfl); (case es_InvalidPlace_InvalidRun => first | k_is | rfl); (case es_NothingToUndo_InvalidRun => first | k_is | rfl); (case es_InvalidSheep_InvalidRun => first | k_is | rfl); (case ei_InvalidIndex => k_is); (case es_InvalidBeginning_InvalidIndex => first | k_is | rfl)
    (case es_InvalidDrill_InvalidIndex => first | k_is | rfl); (case es_TooMany_InvalidIndex => first | k_is | rfl); (case es_InvalidRun_InvalidIndex => first | k_is | rfl); (case es_InvalidPlace_InvalidIndex => first | k_is | rfl); (case es_NothingToUndo_InvalidIndex => first | k_is | rfl); (case es_InvalidSheep_InvalidIndex => first | k_is | rfl); (case ei_Unlike => k_is); (case es_InvalidBeginning_Unlike => first | k_is | rfl)
    (case es_InvalidDrill_Unlike => first | k_is | rfl); (case es_TooMany_Unlike => first | k_is | rfl); (case es_InvalidRun_Unlike => first | k_is | rfl); (case es_InvalidPlace_Unlike => first | k_is | rfl); (case es_NothingToUndo_Unlike => first | k_is | rfl); (case es_InvalidSheep_Unlike => first | k_is | rfl); (case ei_NothingToUndo => k_is); (case es_InvalidBeginning_NothingToUndo => first | k_is | rfl)
    (case es_InvalidDrill_NothingToUndo => first | k_is | rfl); (case es_TooMany_NothingToUndo => first | k_is | rfl); (case es_InvalidRun_NothingToUndo => first | k_is | rfl); (case es_InvalidPlace_NothingToUndo => first | k_is | rfl); (case es_NothingToUndo_NothingToUndo => first | k_is | rfl); (case es_InvalidSheep_NothingToUndo => first | k_is | rfl); (case ei_DogError => k_is); (case es_InvalidBeginning_DogError => first | k_is | rfl)
    (case es_InvalidDrill_DogError => first | k_is | rfl); (case es_TooMany_DogError => first | k_is | rfl); (case es_InvalidRun_DogError => first | k_is | rfl); (case es_InvalidPlace_DogError => first | k_is | rfl); (case es_NothingToUndo_DogError => first | k_is | rfl); (case es_InvalidSheep_DogError => first | k_is | rfl); (case ei_TooMany => k_is); (case es_InvalidBeginning_TooMany => first | k_is | rfl)
    (case es_InvalidDrill_TooMany => first | k_is | rfl); (case es_TooMany_TooMany => first | k_is | rfl); (case es_InvalidRun_TooMany => first | k_is | rfl); (case es_InvalidPlace_TooMany => first | k_is | rfl); (case es_NothingToUndo_TooMany => first | k_is | rfl); (case es_InvalidSheep_TooMany => first | k_is | rfl); (case ei_InvalidText => k_is); (case es_InvalidBeginning_InvalidText => first | k_is | rfl)
    (case es_InvalidDrill_InvalidText => first | k_is | rfl); (case es_TooMany_InvalidText => first | k_is | rfl); (case es_InvalidRun_InvalidText => first | k_is | rfl); (case es_InvalidPlace_InvalidText => first | k_is | rfl); (case es_NothingToUndo_InvalidText => first | k_is | rfl); (case es_InvalidSheep_InvalidText => first | k_is | rfl); (case v_GREAT => k_is); (case v_FAR => k_is)
    (case v_MOST_SHEEP => k_is); (case v_WIDEST => k_is); (case v_DEEPEST => k_is); (case z_abs => k_is); (case z_bool => k_is); (case z_enumerate => k_is); (case z_int => k_is); (case z_isinstance => k_is)
    (case z_len => k_is); (case z_list => k_is); (case z_max => k_is); (case z_min => k_is); (case z_range => k_is); (case z_sorted => k_is); (case z_str => k_is); (case z_tuple => k_is)
    (case z_zip => k_is)
  case X =>
    intro w H s e s' h
    exact DL.cx_none h
