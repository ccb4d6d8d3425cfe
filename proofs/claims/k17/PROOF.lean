import PyProof.Rows.All
import Wide.All
import OpenK.AllK
import Wide.FinOn
import HandS.ForMost
import HandS.ForExc
import HandS.TryMany
import HandS.Walk
import HandS.TupAny
import HandS.TupMul
import HandS.Wide
import HandS.IsInst
import HandS.Zip
import HandS.Flow
import HandS.Lambda
import HandS.EndTab
import HandS.ExcValue
import HandS.ExcInit
import KE.DataEq
import PyProof.ListMulRoad
import PyProof.FactsAll.tuple_2
import PyProof.EnumMake
import HandS.Style
import HandS.SortKw
import HandS.Dict
import HandS.CallLocal
import HandS.ExcField
import HandS.ClsMeth
import HandS.ExcIs
import KE.KExcIs
import PySem.Challenge.RW_dogruns_k17_errors_and_their_classes
set_option Elab.async false
set_option linter.all false
set_option maxRecDepth 100000
set_option maxHeartbeats 4000000
/-! try with several clauses, some of which name the error. -/
namespace DL
open PySem PySem.Spec PyProof.Rows L2
/-- a clause: its class, the slot of its name, its suite -/
structure Cl where
  c : Value
  i : Option Nat
  ts : Addr → Value → Option Addr → TS
def outEnds (i : Nat) (D : Ends) : Ends where
  nx := fun σ H => D.nx (σ.set i none) H
  rt := D.rt
  bk := fun σ H => D.bk (σ.set i none) H
  ct := fun σ H => D.ct (σ.set i none) H
def Cl.run (k : Cl) (D : Ends) (cls : Value) (d : Option Addr) (σ : L2.St) (H : Hp) : Prop := ∀ a, H a = none → match k.i with
  | none => k.ts a cls d D σ H
  | some i => k.ts a cls d (outEnds i D) (σ.set i (some (.ref a))) H
def wMix (K : PySem.W.Frag) (Wout : WX) (D : Ends) : List Cl → WX
  | [] => Wout
  | k :: r => fun cls d σ H => ∃ b, PySem.W.exmOne K cls k.c = some b ∧ (b = true → k.run D cls d σ H) ∧ (b = false → wMix K Wout D r cls d σ H)
inductive ClOk (X : Cx) : ExceptHandler → Cl → Prop
  | only {x : Str} {c : Value} {ts : Addr → Value → Option Addr → TS} {b : Stmt} {su : List Stmt} {np p : Pos} (nm : Names X x c)
      (run : ∀ (a : Addr) (o : Obj) (cls : Value) (d : Option Addr) (pn : List (Addr × Obj)), Zc cls d o → (∃ vs, o.data = .fields vs) → PSs (X.suite a ((a, o) :: pn)) (b :: su) (ts a cls d)) :
      ClOk X (.ExceptHandler (some (.Name x np)) none (b :: su) p) ⟨c, none, ts⟩
  | named {x n : Str} {i : Nat} {c : Value} {ts : Addr → Value → Option Addr → TS} {b : Stmt} {su : List Stmt} {np p : Pos} (nm : Names X x c) (nd : X.N.Nodup) (hi : X.N[i]? = some n) (hl : X.env.kindOf n = some .local)
      (run : ∀ (a : Addr) (o : Obj) (cls : Value) (d : Option Addr) (pn : List (Addr × Obj)), Zc cls d o → (∃ vs, o.data = .fields vs) → PSs (X.suite a ((a, o) :: pn)) (b :: su) (ts a cls d)) :
      ClOk X (.ExceptHandler (some (.Name x np)) (some n) (b :: su) p) ⟨c, some i, ts⟩
inductive ClsOk (X : Cx) : List ExceptHandler → List Cl → Prop
  | nil : ClsOk X [] []
  | cons {h : ExceptHandler} {k : Cl} {hs : List ExceptHandler} {ks : List Cl} : ClOk X h k → ClsOk X hs ks → ClsOk X (h :: hs) (k :: ks)

theorem ps_tryC {X : Cx} {body : List Stmt} {h0 : ExceptHandler} {hds : List ExceptHandler} {ks : List Cl} {pos : Pos} {tb : WX → TS} {Wout : WX} (hs : X.stack = X.env :: X.outer) (hf : X.env.frame = some X.env.locals) (tk : Takes X Wout)
    (hb : ∀ (W : WX) (pn : List (Addr × Obj)) (xe : Value → Shared → Prop), Takes (X.tr pn xe) W → PassesOwn (model X.prog X.w) X.A X.env xe → PSs (X.tr pn xe) body (tb W))
    (hk : ClsOk X (h0 :: hds) ks) : PS X (.Try body (h0 :: hds) [] [] pos) (fun D σ H => tb (wMix X.K Wout D ks) D σ H) := by
  constructor
  intro pins s0 σ0 H0 D I0 rd
  have okX := I0.ok
  have fr0 : X.A.frames = some (X.env :: X.outer) := by rw [okX.frames, hs]
  apply wpAny_Try_except
  refine wpAny_mono ((hb (wMix X.K Wout D ks) (X.pn ++ pins) (fun e t1 => wpAny (model X.prog X.w) X.A (noteFrame e X.env) (fun _ t2 => wpAny (model X.prog X.w) X.A (setFlight e none) (fun _ t3 => wpAny (model X.prog X.w) X.A (handleBy e X.env (h0 :: hds)) (SP X pins D) X.xe t3) X.xe t2) X.xe t1)
    (fun u t0 caught => ?_) PassesOwn.looking).run [] s0 σ0 H0 D (I0.toTry _) rd) (fun fl t1 done => ?_) (fun e t1 z => z)
  · obtain ⟨a, B, sB, pB, σ1, H1, cls, od, rfl, IB, fresh, up0, sky0, freeA, osB, genB, wish⟩ := caught
    have J : Inv X pins σ1 H1 sB := IB.ofTry okX
    have sky1 : Sky B (X.env :: X.outer) a (Zc cls od) X.env.locals t0.heap := by
      rw [← hs]
      exact sky0
    refine Sky.land Zc.steady fr0 hf sky1 fun g1 fg1 upg1 => ?_
    have J1 : Inv X pins σ1 H1 { t0 with heap := g1 } := J.landed fresh fg1.1 (up0.trans upg1) osB genB
    obtain ⟨o1, w1, ha1, z1, d1⟩ := fg1.there
    have notF : a ∉ frs (X.env :: X.outer) := by
      intro hm
      obtain ⟨_, o2, e2, n2⟩ := fg1.2.2.1.mem hm
      have e3 := Option.some.inj (ha1.symm.trans e2)
      subst e3
      exact n2 _ d1
    have nL : a ≠ X.env.locals := by
      intro z
      apply notF
      exact List.mem_filterMap.mpr ⟨X.env, List.mem_cons_self, by rw [hf, z]⟩
    have nS : a ∉ X.fs := by
      intro hm
      obtain ⟨e, he, q⟩ := List.mem_filterMap.mp hm
      apply notF
      exact List.mem_filterMap.mpr ⟨e, List.mem_cons_of_mem _ he, q⟩
    have S1 := J1.suite ha1 d1 freeA nL nS
    have tyA : PySem.W.Looks (model X.prog X.w) g1 (typeOf (.ref a)) cls := by
      intro A Q E s k q
      exact wpAny_typeOf_ref (k _ _ ha1) (by rw [z1.1]; exact q)
    -- the class that a clause names
    have nameIs : ∀ {x : Str} {c : Value} {np : Pos} {Q E : Value → Shared → Prop}, Names X x c → Q c { t0 with heap := g1 } → wpAny (model X.prog X.w) (X.A.mark (some (.ref a))) (eval (.Name x np) X.env) Q E { t0 with heap := g1 } := by
      intro x c np Q E nm q
      rcases nm with ⟨gl, db, m1 | ⟨m0, bt, ne⟩⟩
      · exact ld_glob (X := X.suite a ((a, o1) :: (X.pn ++ pins))) S1 gl m1 q db
      · exact ld_blt (X := X.suite a ((a, o1) :: (X.pn ++ pins))) S1 gl m0 bt q ne db
    have all : ∀ (ks : List Cl) (hds : List ExceptHandler), ClsOk X hds ks → wMix X.K Wout D ks cls od σ1 H1 → wpAny (model X.prog X.w) X.A (handleBy (.ref a) X.env hds) (SP X pins D) X.xe { t0 with heap := g1 } := by
      intro ks
      induction ks with
      | nil =>
        intro hds hh w
        cases hh
        apply wpAny_handleBy_nil
        obtain ⟨_, _, _, o3, w3, T3, oT3, tt3, he3, hz3, hd3, h13, hr3⟩ := id fg1
        have up : wpAny (model X.prog X.w) X.A (setFlight (.ref a) X.env.frame) (fun _ s4 => wpAny (model X.prog X.w) X.A (throw (.ref a) : Sem Flow) (SP X pins D) X.xe s4) X.xe { t0 with heap := g1 } := by
          rw [hf]
          refine HandSPX.setFlight_upZ fg1 fun g2 hg2 upg2 => wpAny_throw (tk _ _ ⟨a, B, sB, pins, σ1, H1, cls, od, rfl, J, fresh, (up0.trans upg1).trans upg2, .inr (.inr ?_), freeA, osB, genB, w⟩)
          rw [hs]
          exact hg2
        unfold PySem.passOn
        refine wpAny_bind (wpAny_field he3 hd3 h13 ?_)
        rw [if_neg (by simp : ¬ ((Value.ref T3 == Value.none) = true))]
        first
          | exact wpAny_bind (wpAny_pure (wpAny_bind up))
          | exact wpAny_bind up
      | cons k ks ih =>
        intro hds hh w
        obtain ⟨b, isA, yes, no⟩ := w
        have LM := PySem.W.exm_one (M := model X.prog X.w) J1.kIn tyA isA
        cases hh with
        | cons hc hr =>
        cases hc with
        | only nm run =>
          refine wpAny_handleBy_cons (codeAny_handlers_test (nameIs nm (LM.here ?_))) (by intro q; cases q)
          cases b with
          | false => exact ih _ hr (no rfl)
          | true =>
            refine codeAny_handlers_suite (HandSPX.lands_againZ fg1 fun g2 fg2 upg2 => ?_)
            obtain ⟨o2, w2, ha2, z2, d2⟩ := fg2.there
            have J2 : Inv X pins σ1 H1 { t0 with heap := g2 } := J.landed fresh fg2.1 ((up0.trans upg1).trans upg2) osB genB
            have S2 := J2.suite ha2 d2 freeA nL nS
            refine wpAny_mono ((run a o2 cls od (X.pn ++ pins) z2 ⟨_, d2⟩).run [] _ _ H1 D S2 (yes rfl a freeA)) (fun f t6 post => ?_) (fun _ _ z => z.elim)
            cases f with
            | ret u =>
              obtain ⟨v6, σ6, H6, S6, r6, q6⟩ := post
              exact ⟨v6, σ6, H6, S6.unsuite okX, r6, q6⟩
            | _ =>
              obtain ⟨σ6, H6, S6, q6⟩ := post
              exact ⟨σ6, H6, S6.unsuite okX, q6⟩
        | named nm nd hi hl run =>
          refine wpAny_handleBy_cons (codeAny_handlers_test (nameIs nm (LM.here ?_))) (by intro q; cases q)
          cases b with
          | false => exact ih _ hr (no rfl)
          | true =>
            refine codeAny_handlers_suite_as (HandSPX.lands_againZ fg1 fun g2 fg2 upg2 => ?_)
            obtain ⟨o2, w2, ha2, z2, d2⟩ := fg2.there
            have J2 : Inv X pins σ1 H1 { t0 with heap := g2 } := J.landed fresh fg2.1 ((up0.trans upg1).trans upg2) osB genB
            have S2 := J2.suite ha2 d2 freeA nL nS
            refine store_ok (X := X.suite a ((a, o2) :: (X.pn ++ pins))) (v := .ref a) S2 nd hi (.inl hl) rfl (fun t5 S5 => ?_) (.inr hl)
            refine wpAny_mono ((run a o2 cls od (X.pn ++ pins) z2 ⟨_, d2⟩).run [] t5 _ H1 _ S5 (yes rfl a freeA)) (fun f t6 post => ?_) (fun _ _ z => z.elim)
            cases f with
            | ret u =>
              obtain ⟨v6, σ6, H6, S6, r6, q6⟩ := post
              exact gone_ok (S6.unsuite okX) nd hi hl fun t7 J7 => ⟨v6, _, H6, J7, r6, q6⟩
            | _ =>
              obtain ⟨σ6, H6, S6, q6⟩ := post
              exact gone_ok (S6.unsuite okX) nd hi hl fun t7 J7 => ⟨_, H6, J7, q6⟩
    exact all ks _ hk wish
  · cases fl with
    | next =>
      obtain ⟨σ1, H1, J1, q⟩ := done
      exact wpAny_execs_nil ⟨σ1, H1, J1.ofTry okX, q⟩
    | ret u =>
      obtain ⟨v, σ1, H1, J1, r, q⟩ := done
      exact ⟨v, σ1, H1, J1.ofTry okX, r, q⟩
    | _ =>
      obtain ⟨σ1, H1, J1, q⟩ := done
      exact ⟨σ1, H1, J1.ofTry okX, q⟩
end DL
set_option Elab.async false
set_option linter.all false
set_option maxRecDepth 100000
set_option maxHeartbeats 4000000
set_option autoImplicit false
/-! The data level: the body of a def read over data (trees), without a heap to be seen. -/
namespace DL
open PySem PySem.Spec PyProof.Rows L2

/-- data; raw: a value that is not looked into; scr: the script's ints -/
inductive D where
  | non | bl (b : Bool) | int (i : Int) | str (x : Str) | raw (x : V)
  | tup (xs : List D) | lst (xs : List D) | scr (ns : List Int)
  | fn (x : Str)
  /-- an error of an own class, with its one field or none -/
  | err (n : Str) (f : Option (Str × Int))

mutual
inductive Dp (K : PySem.W.Frag) (G : Hp) : V → D → Prop
  | non : Dp K G .non .non
  | bl (b : Bool) : Dp K G (.bl b) (.bl b)
  | int (i : Int) : Dp K G (.int i) (.int i)
  | str (x : Str) : Dp K G (.str x) (.str x)
  | raw (x : V) : Dp K G x (.raw x)
  | tup {p : Addr} {vs : List V} {ds : List D} : SqT K G p vs → vs.length ≤ sizeLine → Dps K G vs ds → Dp K G (.ref p) (.tup ds)
  | lst {p : Addr} {vs : List V} {ds : List D} : G p = some (.lst vs) → vs.length ≤ sizeLine → Dps K G vs ds → Dp K G (.ref p) (.lst ds)
  | scr {p : Addr} {ns : List Int} : SqL K G p (ns.map V.int) → Dp K G (.ref p) (.scr ns)
  | fn {a : Addr} {x : Str} : PySem.W.nsIn K mainGlobals x = some (some (.ref a)) → Dp K G (.ref a) (.fn x)
  | err {p C : Addr} {n : Str} : PySem.W.nsIn K mainGlobals n = some (some (.ref C)) → G p = some (ExO (.ref C) p) → Dp K G (.ref p) (.err n none)
  | erf {p C dx : Addr} {n f : Str} {i : Int} : PySem.W.nsIn K mainGlobals n = some (some (.ref C)) → G p = some (exo p C (some dx)) → G dx = some (exd dx [(f, .int i)]) → Dp K G (.ref p) (.err n (some (f, i)))
inductive Dps (K : PySem.W.Frag) (G : Hp) : List V → List D → Prop
  | nil : Dps K G [] []
  | cons {v : V} {vs : List V} {d : D} {ds : List D} : Dp K G v d → Dps K G vs ds → Dps K G (v :: vs) (d :: ds)
end

theorem same_t {K : PySem.W.Frag} {G G' : Hp} {p : Addr} {vs : List V} (e : Same G G') (h : SqT K G p vs) : SqT K G' p vs := by
  rcases h with (h | ⟨o, h⟩) | h
  · exact .inl (.inl (e _ _ h))
  · exact .inl (.inr ⟨o, e _ _ h⟩)
  · exact .inr h
section
variable {K : PySem.W.Frag} {G G' H H' : Hp}
mutual
theorem Dp.mono (e : Same G G') : ∀ (d : D) (v : V), Dp K G v d → Dp K G' v d
  | .non, _, h => by cases h; exact .non
  | .bl _, _, h => by cases h; exact .bl _
  | .int _, _, h => by cases h; exact .int _
  | .str _, _, h => by cases h; exact .str _
  | .raw _, _, h => by cases h; exact .raw _
  | .tup ds, _, h => by
    cases h with
    | tup a l r => exact .tup (same_t e a) l (Dps.mono e ds _ r)
  | .lst ds, _, h => by
    cases h with
    | lst a l r => exact .lst (e _ _ a) l (Dps.mono e ds _ r)
  | .scr _, _, h => by
    cases h with
    | scr a => exact .scr (e.seq a)
  | .fn _, _, h => by
    cases h with
    | fn a => exact .fn a
  | .err _ _, _, h => by
    cases h with
    | err a b => exact .err a (e _ _ b)
    | erf a b c => exact .erf a (e _ _ b) (e _ _ c)
theorem Dps.mono (e : Same G G') : ∀ (ds : List D) (vs : List V), Dps K G vs ds → Dps K G' vs ds
  | [], _, h => by cases h; exact .nil
  | d :: ds, _, h => by
    cases h with
    | cons a r => exact .cons (Dp.mono e d _ a) (Dps.mono e ds _ r)
end
theorem Dp.up {d : D} {v : V} (h : Dp K G v d) (e : Same G G') : Dp K G' v d := Dp.mono e d v h
theorem Dps.up {ds : List D} {vs : List V} (h : Dps K G vs ds) (e : Same G G') : Dps K G' vs ds := Dps.mono e ds vs h
theorem Dps.len : ∀ {vs : List V} {ds : List D}, Dps K G vs ds → vs.length = ds.length
  | _, _, .nil => rfl
  | _, _, .cons _ r => congrArg (· + 1) (Dps.len r)
theorem Dps.get : ∀ {vs : List V} {ds : List D} {i : Nat} {d : D}, Dps K G vs ds → ds[i]? = some d → ∃ v, vs[i]? = some v ∧ Dp K G v d
  | _, _, _, _, .nil, h => by simp at h
  | _, _, 0, _, .cons a _, h => by
    have e := Option.some.inj h
    subst e
    exact ⟨_, rfl, a⟩
  | _, _, i + 1, _, .cons _ r, h => Dps.get (i := i) r h
theorem Dps.getV : ∀ {vs : List V} {ds : List D} {i : Nat} {v : V}, Dps K G vs ds → vs[i]? = some v → ∃ d, ds[i]? = some d ∧ Dp K G v d
  | _, _, _, _, .nil, h => by simp at h
  | _, _, 0, _, .cons a _, h => by
    have e := Option.some.inj h
    subst e
    exact ⟨_, rfl, a⟩
  | _, _, i + 1, _, .cons _ r, h => Dps.getV (i := i) r h
theorem Dps.app : ∀ {vs ws : List V} {ds es : List D}, Dps K G vs ds → Dps K G ws es → Dps K G (vs ++ ws) (ds ++ es)
  | _, _, _, _, .nil, s => s
  | _, _, _, _, .cons a r, s => .cons a (Dps.app r s)
theorem Dps.take : ∀ {vs : List V} {ds : List D} (n : Nat), Dps K G vs ds → Dps K G (vs.take n) (ds.take n)
  | _, _, 0, _ => .nil
  | _, _, _ + 1, .nil => .nil
  | _, _, n + 1, .cons a r => .cons a (Dps.take n r)
theorem Dps.drop : ∀ {vs : List V} {ds : List D} (n : Nat), Dps K G vs ds → Dps K G (vs.drop n) (ds.drop n)
  | _, _, 0, r => r
  | _, _, _ + 1, .nil => .nil
  | _, _, n + 1, .cons _ r => Dps.drop n r
theorem Dps.set {v : V} {d : D} (a : Dp K G v d) : ∀ {vs : List V} {ds : List D} (i : Nat), Dps K G vs ds → Dps K G (vs.set i v) (ds.set i d)
  | _, _, _, .nil => .nil
  | _, _, 0, .cons _ r => .cons a r
  | _, _, i + 1, .cons b r => .cons b (Dps.set a i r)
theorem Dps.rep {vs : List V} {ds : List D} (h : Dps K G vs ds) : ∀ k : Nat, Dps K G (List.replicate k vs).flatten (List.replicate k ds).flatten
  | 0 => .nil
  | k + 1 => by
    rw [List.replicate_succ, List.replicate_succ, List.flatten_cons, List.flatten_cons]
    exact h.app (h.rep k)
theorem Dps.ints : ∀ (ns : List Int), Dps K G (ns.map V.int) (ns.map D.int)
  | [] => .nil
  | n :: ns => .cons (.int n) (Dps.ints ns)
end

/-! ### the table of mutable objects, the environment -/
inductive Ob where
  | dead | lst (xs : List D)
inductive Sl where
  | dat (d : D) | ob (k : Nat)
  /-- a lambda, called while its maker runs: G0, la0 are what was known when it was made -/
  | clo (f : Addr) (G0 : Hp) (la0 : List Addr)
structure Env where
  T : List Ob
  s : List (Option Sl)

def ObR (K : PySem.W.Frag) (G H : Hp) (a : Addr) : Ob → Prop
  | .dead => True
  | .lst ds => G a = none ∧ ∃ vs, H a = some (.lst vs) ∧ vs.length ≤ sizeLine ∧ Dps K G vs ds
def SlR (K : PySem.W.Frag) (G : Hp) (la : List Addr) (v : V) : Sl → Prop
  | .dat d => Dp K G v d
  | .ob k => ∃ a, la[k]? = some a ∧ v = .ref a
  | .clo f G0 la0 => v = .ref f ∧ Same G0 G ∧ la0 <+: la
/-- the defs that make lambdas, the tables of their code objects -/
def lamDefs : List Str := ["law", "_law_lots", "_law_tried", "_law_signs_right", "_law_refused", "_law_called", "_law_shows", "_law_nested", "_law_ended", "_law_back", "_law_full_right", "_law_first_calls", "_law_pair_calls", "_law_place_calls", "_law_many_calls"]
def tabsOf (K : PySem.W.Frag) : List (Addr × Str) := lamDefs.filterMap fun x => (PySem.W.tabIn K x).map fun cp => (cp.2, x ++ ".<locals>." ++ "<lambda>")
/-- something stands at a, no table -/
def Thr (H : Hp) (a : Addr) : Prop := ∃ o, H a = some o ∧ ∀ ps, o ≠ .tbl ps
def NoTbl (G : Hp) : Prop := ∀ (b : Addr) (ps : Array Value), G b ≠ some (.tbl ps)
theorem NoTbl.upd {G : Hp} (h : NoTbl G) {p : Addr} {o : HO} (ho : ∀ ps, o ≠ .tbl ps) : NoTbl (upd G p o) := fun b ps e => by
  by_cases hb : b = p
  · subst hb
    rw [upd_same] at e
    exact ho ps (Option.some.inj e)
  · rw [upd_ne hb] at e
    exact h b ps e
structure Rl (K : PySem.W.Frag) (G H : Hp) (la : List Addr) (T : List Ob) : Prop where
  ext : Same G H
  nd : la.Nodup
  len : la.length = T.length
  tab : ∀ (k : Nat) (a : Addr) (o : Ob), la[k]? = some a → T[k]? = some o → ObR K G H a o
  there : ∀ (k : Nat) (a : Addr), la[k]? = some a → Thr H a
  nt : NoTbl G
  tbl : ∀ p ∈ tabsOf K, G p.1 = none ∧ LamX.TabS H p.1 p.2
structure Re (K : PySem.W.Frag) (G H : Hp) (la : List Addr) (σ : L2.St) (ρ : Env) : Prop where
  tb : Rl K G H la ρ.T
  sl : ρ.s.length = σ.length
  at_ : ∀ (i : Nat) (x : Sl), ρ.s[i]? = some (some x) → ∃ v, σ[i]? = some (some v) ∧ SlR K G la v x

/-- the heap, and the known part of it, grow -/
structure Grow (G H G' H' : Hp) : Prop where
  g : Same G G'
  h : Same H H'
  i : Same G' H'
  n : ∀ a, G a = none → H a ≠ none → G' a = none
  t : NoTbl G → NoTbl G'
section
variable {K : PySem.W.Frag} {G H G' H' : Hp} {la la' : List Addr} {σ : L2.St} {ρ : Env} {T : List Ob}
theorem Grow.refl (e : Same G H) : Grow G H G H := ⟨Same.refl _, Same.refl _, e, fun _ h _ => h, fun h => h⟩
theorem same_new {H : Hp} {p : Addr} {o : HO} (h : H p = none) : Same H (upd H p o) := fun b x e => by
  rw [upd_ne (ne_of_none e h)]
  exact e
theorem same_upd2 {p : Addr} {o : HO} (e : Same G H) : Same (upd G p o) (upd H p o) := fun b x q => by
  by_cases hb : b = p
  · subst hb
    rw [upd_same] at q ⊢
    exact q
  · rw [upd_ne hb] at q ⊢
    exact e b x q
theorem none_of (e : Same G H) {p : Addr} (h : H p = none) : G p = none := e.free h
/-- a new object, known -/
theorem Grow.new {p : Addr} {o : HO} (e : Same G H) (h : H p = none) (ho : ∀ ps, o ≠ .tbl ps := by intro ps z; cases z) : Grow G H (upd G p o) (upd H p o) :=
  ⟨same_new (none_of e h), same_new h, same_upd2 e, fun a ga ha => by
    rw [upd_ne (fun z => ha (by rw [z]; exact h))]
    exact ga, fun n => n.upd ho⟩
theorem Grow.trans {G2 H2 : Hp} (x : Grow G H G' H') (y : Grow G' H' G2 H2) : Grow G H G2 H2 :=
  ⟨x.g.trans y.g, x.h.trans y.h, y.i, fun a ga ha => y.n a (x.n a ga ha) (fun z => by
    cases q : H a with
    | none => exact ha q
    | some o =>
      rw [x.h a o q] at z
      cases z), fun n => y.t (x.t n)⟩
theorem tabS_some {H : Hp} {P : Addr} {q : Str} (h : LamX.TabS H P q) : H P ≠ none := by
  obtain ⟨ps, e, _⟩ := h
  rw [e]
  simp
theorem tabS_write {H : Hp} {P a : Addr} {q : Str} {vs ws : List V} (h : LamX.TabS H P q) (ha : H a = some (.lst vs)) : LamX.TabS (upd H a (.lst ws)) P q := by
  obtain ⟨ps, e, t, f⟩ := h
  have n1 : P ≠ a := fun z => by
    rw [z, ha] at e
    cases e
  refine ⟨ps, by rw [upd_ne n1]; exact e, t, fun pos cv hc => ?_⟩
  obtain ⟨c, e1, e2⟩ := f pos cv hc
  have n2 : c ≠ a := fun z => by
    rw [z, ha] at e2
    have := Option.some.inj e2
    unfold LamX.CodeO at this
    cases this
  exact ⟨c, e1, by rw [upd_ne n2]; exact e2⟩
theorem ObR.grow (w : Grow G H G' H') {a : Addr} : ∀ {o : Ob}, ObR K G H a o → ObR K G' H' a o
  | .dead, _ => True.intro
  | .lst ds, ⟨g, vs, h, l, r⟩ => ⟨w.n a g (by rw [h]; simp), vs, w.h _ _ h, l, r.up w.g⟩
theorem SlR.grow (w : Same G G') (pf : la <+: la') {v : V} : ∀ {x : Sl}, SlR K G la v x → SlR K G' la' v x
  | .dat d, h => Dp.up (show Dp K G v d from h) w
  | .ob k, ⟨a, h, e⟩ => ⟨a, by
      obtain ⟨t, rfl⟩ := pf
      rw [List.getElem?_append_left (List.getElem?_eq_some_iff.mp h).1]
      exact h, e⟩
  | .clo f G0 la0, ⟨e, g, p⟩ => ⟨e, g.trans w, p.trans pf⟩
theorem there_grow (w : Same H H') {a : Addr} (h : Thr H a) : Thr H' a := by
  obtain ⟨o, h, n⟩ := h
  exact ⟨o, w a o h, n⟩
theorem Rl.grow (w : Grow G H G' H') (r : Rl K G H la T) : Rl K G' H' la T :=
  ⟨w.i, r.nd, r.len, fun k a o h1 h2 => (r.tab k a o h1 h2).grow w, fun k a h => there_grow w.h (r.there k a h), w.t r.nt, fun p hp => ⟨w.n p.1 (r.tbl p hp).1 (tabS_some (r.tbl p hp).2), (r.tbl p hp).2.ext w.h⟩⟩
theorem Re.grow (w : Grow G H G' H') (r : Re K G H la σ ρ) : Re K G' H' la σ ρ :=
  ⟨r.tb.grow w, r.sl, fun i x h => by
    obtain ⟨v, a, b⟩ := r.at_ i x h
    exact ⟨v, a, b.grow w.g (List.prefix_rfl)⟩⟩
theorem Re.ext (r : Re K G H la σ ρ) : Same G H := r.tb.ext
/-- a slot is set -/
theorem Re.set (r : Re K G H la σ ρ) {i : Nat} {v : V} {x : Sl} (h : SlR K G la v x) : Re K G H la (σ.set i (some v)) ⟨ρ.T, ρ.s.set i (some x)⟩ :=
  ⟨r.tb, by simp [r.sl], fun j y hy => by
    by_cases hj : j = i
    · subst hj
      by_cases hl : j < ρ.s.length
      · have hl2 : j < σ.length := by rw [← r.sl]; exact hl
        rw [show (⟨ρ.T, ρ.s.set j (some x)⟩ : Env).s = ρ.s.set j (some x) from rfl, List.getElem?_set_self hl] at hy
        have e := Option.some.inj (Option.some.inj hy)
        subst e
        exact ⟨v, List.getElem?_set_self hl2, h⟩
      · have hy' : (ρ.s.set j (some x))[j]? = some (some y) := hy
        rw [List.getElem?_eq_none (by simpa using hl)] at hy'
        cases hy'
    · have hy' : (ρ.s.set i (some x))[j]? = some (some y) := hy
      rw [List.getElem?_set_ne (Ne.symm hj)] at hy'
      obtain ⟨u, a, b⟩ := r.at_ j y hy'
      exact ⟨u, by rw [List.getElem?_set_ne (Ne.symm hj)]; exact a, b⟩⟩
/-- a slot is forgotten, at both -/
theorem Re.forget (r : Re K G H la σ ρ) (i : Nat) : Re K G H la (σ.set i none) ⟨ρ.T, ρ.s.set i none⟩ :=
  ⟨r.tb, by simp [r.sl], fun j y hy => by
    have hy' : (ρ.s.set i none)[j]? = some (some y) := hy
    by_cases hj : j = i
    · subst hj
      by_cases hl : j < ρ.s.length
      · rw [List.getElem?_set_self hl] at hy'
        cases hy'
      · rw [List.getElem?_eq_none (by simpa using hl)] at hy'
        cases hy'
    · rw [List.getElem?_set_ne (Ne.symm hj)] at hy'
      obtain ⟨u, a, b⟩ := r.at_ j y hy'
      exact ⟨u, by rw [List.getElem?_set_ne (Ne.symm hj)]; exact a, b⟩⟩
/-- the list at k becomes known for ever -/
theorem Rl.freeze (r : Rl K G H la T) {k : Nat} {a : Addr} {xs : List D} (ha : la[k]? = some a) (hk : T[k]? = some (.lst xs)) :
    ∃ vs, H a = some (.lst vs) ∧ G a = none ∧ Same G (upd G a (.lst vs)) ∧ Dp K (upd G a (.lst vs)) (.ref a) (.lst xs) ∧ Rl K (upd G a (.lst vs)) H la (T.set k .dead) := by
  obtain ⟨g, vs, h, l, d⟩ := r.tab k a _ ha hk
  have s1 : Same G (upd G a (.lst vs)) := same_new g
  refine ⟨vs, h, g, s1, .lst upd_same l (d.up s1), ⟨fun b o e => ?_, r.nd, by simp [r.len], fun j b o hb ho => ?_, r.there, r.nt.upd (by intro ps z; cases z), fun p hp => ?_⟩⟩
  · by_cases hb : b = a
    · subst hb
      rw [upd_same] at e
      rw [← e]
      exact h
    · rw [upd_ne hb] at e
      exact r.ext b o e
  · by_cases hj : j = k
    · subst hj
      have hl : j < T.length := (List.getElem?_eq_some_iff.mp hk).1
      rw [List.getElem?_set_self hl] at ho
      have e := Option.some.inj ho
      subst e
      exact True.intro
    · rw [List.getElem?_set_ne (Ne.symm hj)] at ho
      have nb : b ≠ a := fun e => by
        subst e
        obtain ⟨h1, e1⟩ := List.getElem?_eq_some_iff.mp hb
        obtain ⟨h2, e2⟩ := List.getElem?_eq_some_iff.mp ha
        exact hj ((List.getElem_inj r.nd).mp (e1.trans e2.symm))
      have z := r.tab j b o hb ho
      cases o with
      | dead => exact True.intro
      | lst ds =>
        obtain ⟨g2, vs2, h2, l2, d2⟩ := z
        exact ⟨by rw [upd_ne nb]; exact g2, vs2, h2, l2, d2.up s1⟩
  · obtain ⟨z1, z2⟩ := r.tbl p hp
    refine ⟨?_, z2⟩
    rw [upd_ne fun e => ?_]
    · exact z1
    · obtain ⟨ps, z3, _⟩ := z2
      rw [e, h] at z3
      cases z3
/-- the list at k is written -/
theorem Rl.write (r : Rl K G H la T) {k : Nat} {a : Addr} {xs ys : List D} {ws : List V} (ha : la[k]? = some a) (hk : T[k]? = some (.lst xs)) (l : ws.length ≤ sizeLine) (d : Dps K G ws ys) :
    Rl K G (upd H a (.lst ws)) la (T.set k (.lst ys)) := by
  obtain ⟨g, vs, h, _, _⟩ := r.tab k a _ ha hk
  refine ⟨fun b o e => ?_, r.nd, by simp [r.len], fun j b o hb ho => ?_, fun j b hb => ?_, r.nt, fun p hp => ⟨(r.tbl p hp).1, tabS_write (r.tbl p hp).2 h⟩⟩
  · have nb : b ≠ a := fun z => by
      rw [z, g] at e
      cases e
    rw [upd_ne nb]
    exact r.ext b o e
  · by_cases hj : j = k
    · subst hj
      have hl : j < T.length := (List.getElem?_eq_some_iff.mp hk).1
      rw [List.getElem?_set_self hl] at ho
      have e := Option.some.inj ho
      subst e
      have e2 := Option.some.inj (hb.symm.trans ha)
      subst e2
      exact ⟨g, ws, upd_same, l, d⟩
    · rw [List.getElem?_set_ne (Ne.symm hj)] at ho
      have nb : b ≠ a := fun e => by
        subst e
        obtain ⟨h1, e1⟩ := List.getElem?_eq_some_iff.mp hb
        obtain ⟨h2, e2⟩ := List.getElem?_eq_some_iff.mp ha
        exact hj ((List.getElem_inj r.nd).mp (e1.trans e2.symm))
      have z := r.tab j b o hb ho
      cases o with
      | dead => exact True.intro
      | lst ds =>
        obtain ⟨g2, vs2, h2, l2, d2⟩ := z
        exact ⟨g2, vs2, by rw [upd_ne nb]; exact h2, l2, d2⟩
  · by_cases hb2 : b = a
    · subst hb2
      exact ⟨_, upd_same, by intro ps z; cases z⟩
    · obtain ⟨o, h, n⟩ := r.there j b hb
      exact ⟨o, by rw [upd_ne hb2]; exact h, n⟩
/-- a new list, ours alone -/
theorem Rl.fresh (r : Rl K G H la T) {p : Addr} {vs : List V} {xs : List D} (hp : H p = none) (l : vs.length ≤ sizeLine) (d : Dps K G vs xs) :
    Rl K G (upd H p (.lst vs)) (la ++ [p]) (T ++ [.lst xs]) := by
  have hn : p ∉ la := fun hm => by
    obtain ⟨i, hi, e⟩ := List.getElem_of_mem hm
    obtain ⟨o, h, _⟩ := r.there i p (by rw [List.getElem?_eq_getElem hi, e])
    rw [hp] at h
    cases h
  have s1 : Same H (upd H p (.lst vs)) := same_new hp
  refine ⟨r.ext.trans s1, ?_, by simp [r.len], fun j b o hb ho => ?_, fun j b hb => ?_, r.nt, fun q hq => ⟨(r.tbl q hq).1, (r.tbl q hq).2.ext s1⟩⟩
  · rw [List.nodup_append]
    exact ⟨r.nd, by simp, fun x hx y hy => by
      have e : y = p := by simpa using hy
      rw [e]
      intro z
      exact hn (z ▸ hx)⟩
  · by_cases hj : j < la.length
    · rw [List.getElem?_append_left hj] at hb
      rw [List.getElem?_append_left (by rw [← r.len]; exact hj)] at ho
      exact (r.tab j b o hb ho).grow ⟨Same.refl _, s1, r.ext.trans s1, fun _ h _ => h, fun h => h⟩
    · rw [List.getElem?_append_right (by omega)] at hb
      rw [List.getElem?_append_right (by rw [← r.len]; omega), ← r.len] at ho
      cases q : j - la.length with
      | zero =>
        rw [q] at hb ho
        have e1 : p = b := Option.some.inj hb
        have e2 : Ob.lst xs = o := Option.some.inj ho
        subst e1 e2
        exact ⟨none_of r.ext hp, vs, upd_same, l, d⟩
      | succ m =>
        rw [q] at hb
        simp at hb
  · by_cases hj : j < la.length
    · rw [List.getElem?_append_left hj] at hb
      exact there_grow s1 (r.there j b hb)
    · rw [List.getElem?_append_right (by omega)] at hb
      cases q : j - la.length with
      | zero =>
        rw [q] at hb
        have e1 : p = b := Option.some.inj hb
        subst e1
        exact ⟨_, upd_same, by intro ps z; cases z⟩
      | succ m =>
        rw [q] at hb
        simp at hb
end
end DL
set_option Elab.async false
set_option linter.all false
set_option maxRecDepth 100000
set_option maxHeartbeats 4000000
set_option autoImplicit false
/-! The data level: readings (expressions, tests, arguments, statements) and what they mean of the heap. -/
namespace DL
open PySem PySem.Spec PyProof.Rows L2

/-- an exception: its class, its own field -/
structure Xn where
  n : Str
  f : Option (Str × D)
def XR (K : PySem.W.Frag) (G H : Hp) (x : Xn) (cls : Value) (od : Option Addr) : Prop := PySem.W.nsIn K mainGlobals x.n = some (some cls) ∧ match x.f with
  | none => True
  | some (f, d) => ∃ a v, od = some a ∧ H a = some (.xd [(f, v)]) ∧ Dp K G v d
abbrev XP := Xn → Env → Prop
abbrev DE := XP → Env → (D → Env → Prop) → Prop
abbrev DL' := XP → Env → (Sl → Env → Prop) → Prop
abbrev DT := XP → Env → (Bool → Env → Prop) → Prop
abbrev DA := XP → Env → (List Sl → Env → Prop) → Prop
abbrev DI := XP → Env → (List D → Env → Prop) → Prop
abbrev DG := D → Env → (Env → Prop) → Prop
structure DN where
  nx : Env → Prop
  rt : Sl → Env → Prop
  bk : Env → Prop := fun _ => False
  ct : Env → Prop := fun _ => False
  xn : XP
abbrev DS := DN → Env → Prop

/-- a state behind another one -/
structure Aft (K : PySem.W.Frag) (G : Hp) (la : List Addr) (σ : L2.St) (ρ : Env) (G' : Hp) (la' : List Addr) (H' : Hp) : Prop where
  g : Same G G'
  p : la <+: la'
  r : Re K G' H' la' σ ρ
def XO (K : PySem.W.Frag) (G : Hp) (la : List Addr) (W : WX) (X : XP) : Prop := ∀ (x : Xn) (ρ' : Env) (σ' : L2.St) (G' : Hp) (la' : List Addr) (H' : Hp) (cls : Value) (od : Option Addr),
  X x ρ' → Aft K G la σ' ρ' G' la' H' → XR K G' H' x cls od → W cls od σ' H'
inductive SlsR (K : PySem.W.Frag) (G : Hp) (la : List Addr) : List V → List Sl → Prop
  | nil : SlsR K G la [] []
  | cons {v : V} {vs : List V} {x : Sl} {xs : List Sl} : SlR K G la v x → SlsR K G la vs xs → SlsR K G la (v :: vs) (x :: xs)

def lE (K : PySem.W.Frag) (W : WX) (f : DE) : TE := fun σ H Q => ∃ ρ G la P X, Re K G H la σ ρ ∧ f X ρ P ∧ (∀ d ρ' v G' la' H', P d ρ' → Aft K G la σ ρ' G' la' H' → Dp K G' v d → Q v H') ∧ XO K G la W X
def lL (K : PySem.W.Frag) (W : WX) (f : DL') : TE := fun σ H Q => ∃ ρ G la P X, Re K G H la σ ρ ∧ f X ρ P ∧ (∀ d ρ' v G' la' H', P d ρ' → Aft K G la σ ρ' G' la' H' → SlR K G' la' v d → Q v H') ∧ XO K G la W X
def lT (K : PySem.W.Frag) (W : WX) (f : DT) : TT := fun σ H Q => ∃ ρ G la P X, Re K G H la σ ρ ∧ f X ρ P ∧ (∀ b ρ' G' la' H', P b ρ' → Aft K G la σ ρ' G' la' H' → Q b H') ∧ XO K G la W X
def lA (K : PySem.W.Frag) (W : WX) (f : DA) : TA := fun σ H Q => ∃ ρ G la P X, Re K G H la σ ρ ∧ f X ρ P ∧ (∀ xs ρ' vs G' la' H', P xs ρ' → Aft K G la σ ρ' G' la' H' → SlsR K G' la' vs xs → Q vs H') ∧ XO K G la W X
structure Bk (K : PySem.W.Frag) (G : Hp) (la : List Addr) (W : WX) (E : DN) (D : Ends) : Prop where
  nx : ∀ (ρ' : Env) (σ' : L2.St) (G' : Hp) (la' : List Addr) (H' : Hp), E.nx ρ' → Aft K G la σ' ρ' G' la' H' → D.nx σ' H'
  bk : ∀ (ρ' : Env) (σ' : L2.St) (G' : Hp) (la' : List Addr) (H' : Hp), E.bk ρ' → Aft K G la σ' ρ' G' la' H' → D.bk σ' H'
  ct : ∀ (ρ' : Env) (σ' : L2.St) (G' : Hp) (la' : List Addr) (H' : Hp), E.ct ρ' → Aft K G la σ' ρ' G' la' H' → D.ct σ' H'
  rt : ∀ (x : Sl) (ρ' : Env) (v : V) (σ' : L2.St) (G' : Hp) (la' : List Addr) (H' : Hp), E.rt x ρ' → Aft K G la σ' ρ' G' la' H' → SlR K G' la' v x → D.rt v H'
  xn : XO K G la W E.xn
def lS (K : PySem.W.Frag) (W : WX) (f : DS) : TS := fun D σ H => ∃ ρ G la E, Re K G H la σ ρ ∧ f E ρ ∧ Bk K G la W E D

section
variable {K : PySem.W.Frag} {G G' G2 H H' H2 : Hp} {la la' la2 : List Addr} {σ : L2.St} {ρ ρ' ρ2 : Env} {W : WX} {X : XP} {E : DN} {D : Ends}
theorem Aft.refl (r : Re K G H la σ ρ) : Aft K G la σ ρ G la H := ⟨Same.refl _, List.prefix_rfl, r⟩
theorem Aft.trans {σ' : L2.St} (a : Aft K G la σ ρ G' la' H') (b : Aft K G' la' σ' ρ2 G2 la2 H2) : Aft K G la σ' ρ2 G2 la2 H2 := ⟨a.g.trans b.g, a.p.trans b.p, b.r⟩
theorem Aft.grow (a : Aft K G la σ ρ G' la' H') (w : Grow G' H' G2 H2) : Aft K G la σ ρ G2 la' H2 := ⟨a.g.trans w.g, a.p, a.r.grow w⟩
theorem XO.up (x : XO K G la W X) (g : Same G G') (p : la <+: la') : XO K G' la' W X := fun y ρ' σ' G2 la2 H2 cls od h a z => x y ρ' σ' G2 la2 H2 cls od h ⟨g.trans a.g, p.trans a.p, a.r⟩ z
theorem Bk.up (b : Bk K G la W E D) (g : Same G G') (p : la <+: la') : Bk K G' la' W E D :=
  ⟨fun ρ' σ' G2 la2 H2 h a => b.nx ρ' σ' G2 la2 H2 h ⟨g.trans a.g, p.trans a.p, a.r⟩, fun ρ' σ' G2 la2 H2 h a => b.bk ρ' σ' G2 la2 H2 h ⟨g.trans a.g, p.trans a.p, a.r⟩,
   fun ρ' σ' G2 la2 H2 h a => b.ct ρ' σ' G2 la2 H2 h ⟨g.trans a.g, p.trans a.p, a.r⟩, fun x ρ' v σ' G2 la2 H2 h a r => b.rt x ρ' v σ' G2 la2 H2 h ⟨g.trans a.g, p.trans a.p, a.r⟩ r, b.xn.up g p⟩
theorem SlsR.up (g : Same G G') (p : la <+: la') : ∀ {vs : List V} {xs : List Sl}, SlsR K G la vs xs → SlsR K G' la' vs xs
  | _, _, .nil => .nil
  | _, _, .cons a r => .cons (a.grow g p) (SlsR.up g p r)
theorem SlsR.len : ∀ {vs : List V} {xs : List Sl}, SlsR K G la vs xs → vs.length = xs.length
  | _, _, .nil => rfl
  | _, _, .cons _ r => congrArg (· + 1) (SlsR.len r)
theorem SlsR.get : ∀ {vs : List V} {xs : List Sl} {i : Nat} {x : Sl}, SlsR K G la vs xs → xs[i]? = some x → ∃ v, vs[i]? = some v ∧ SlR K G la v x
  | _, _, _, _, .nil, h => by simp at h
  | _, _, 0, _, .cons a _, h => by
    have e := Option.some.inj h
    subst e
    exact ⟨_, rfl, a⟩
  | _, _, i + 1, _, .cons _ r, h => SlsR.get (i := i) r h
end

/-! ### weakening -/
theorem pe_imp {X : Cx} {e : Expr} {t t' : TE} (h : PE X e t) (w : ∀ σ H Q, t' σ H Q → t σ H Q) : PE X e t' := ⟨fun pins s σ H Q I q => h.run pins s σ H Q I (w σ H Q q)⟩
theorem pt_imp {X : Cx} {e : Expr} {t t' : TT} (h : PT X e t) (w : ∀ σ H Q, t' σ H Q → t σ H Q) : PT X e t' := ⟨fun pins s σ H Q I q => h.run pins s σ H Q I (w σ H Q q)⟩
theorem pw_imp {X : Cx} {e : Expr} {t t' : TT} (h : PW X e t) (w : ∀ σ H Q, t' σ H Q → t σ H Q) : PW X e t' := ⟨fun wh pins s σ H Q I q => h.run wh pins s σ H Q I (w σ H Q q)⟩
theorem pa_imp {X : Cx} {es : List Expr} {t t' : TA} (h : PA X es t) (w : ∀ σ H Q, t' σ H Q → t σ H Q) : PA X es t' := ⟨fun pos pins s σ H Q I q => h.run pos pins s σ H Q I (w σ H Q q)⟩
theorem ps_imp {X : Cx} {st : Stmt} {t t' : TS} (h : PS X st t) (w : ∀ D σ H, t' D σ H → t D σ H) : PS X st t' := ⟨fun pins s σ H D I q => h.run pins s σ H D I (w D σ H q)⟩
theorem pss_imp {X : Cx} {st : List Stmt} {t t' : TS} (h : PSs X st t) (w : ∀ D σ H, t' D σ H → t D σ H) : PSs X st t' := ⟨fun pins s σ H D I q => h.run pins s σ H D I (w D σ H q)⟩

/-! ### the readings at data level -/
def dVar (i : Nat) : DE := fun _ ρ Q => match ρ.s[i]? with
  | some (some (.dat d)) => Q d ρ
  | some (some (.ob k)) => match ρ.T[k]? with
    | some (.lst xs) => Q (.lst xs) ⟨ρ.T.set k .dead, ρ.s.set i (some (.dat (.lst xs)))⟩
    | _ => False
  | _ => False
def dC (d : D) : DE := fun _ ρ Q => Q d ρ
def dVarL (i : Nat) : DL' := fun _ ρ Q => match ρ.s[i]? with
  | some (some x) => Q x ρ
  | _ => False
def dDat (f : DE) : DL' := fun X ρ Q => f X ρ fun d ρ' => Q (.dat d) ρ'
/-- an object that nobody else has becomes data -/

class Kept (α : Type) where
  q : α
def valK [h : Kept (D → Env → Prop)] : Sl → Env → Prop := fun x ρ' => match x with
  | .dat d => h.q d ρ'
  | .ob k => match ρ'.T[k]? with
    | some (.lst xs) => h.q (.lst xs) ⟨ρ'.T.set k .dead, ρ'.s⟩
    | _ => False
  | .clo _ _ _ => False
def dVal (f : DL') : DE := fun X ρ Q => f X ρ (@valK ⟨Q⟩)
def dBin (g : D → D → (D → Prop) → Prop) (fa fb : DE) : DE := fun X ρ Q => fa X ρ fun d ρ1 => fb X ρ1 fun e ρ2 => g d e fun z => Q z ρ2
def dUn (g : D → (D → Prop) → Prop) (fa : DE) : DE := fun X ρ Q => fa X ρ fun d ρ1 => g d fun z => Q z ρ1
def dNil : DA := fun _ ρ Q => Q [] ρ
def dCons (fa : DL') (fr : DA) : DA := fun X ρ Q => fa X ρ fun x ρ1 => fr X ρ1 fun xs ρ2 => Q (x :: xs) ρ2
/-- all of them data -/
def dats : List Sl → Option (List D)
  | [] => some []
  | .dat d :: r => (dats r).map (d :: ·)
  | _ :: _ => none
def dTup (fa : DA) : DE := fun X ρ Q => fa X ρ fun xs ρ' => match dats xs with
  | some ds => ds.length ≤ 1000 ∧ Q (.tup ds) ρ'
  | none => False
def dLst (fa : DA) : DE := fun X ρ Q => fa X ρ fun xs ρ' => match dats xs with
  | some ds => ds.length ≤ 1000 ∧ Q (.lst ds) ρ'
  | none => False
/-- a list that may be changed -/
def dNew (fa : DA) : DL' := fun X ρ Q => fa X ρ fun xs ρ' => match dats xs with
  | some ds => ds.length ≤ 1000 ∧ Q (.ob ρ'.T.length) ⟨ρ'.T ++ [.lst ds], ρ'.s⟩
  | none => False
def dTest (f : DE) : DT := fun X ρ Q => f X ρ fun d ρ' => match d with
  | .bl b => Q b ρ'
  | _ => False
def dtAnd (t u : DT) : DT := fun X ρ Q => t X ρ fun b ρ' => if b = true then u X ρ' Q else Q false ρ'
def dtOr (t u : DT) : DT := fun X ρ Q => t X ρ fun b ρ' => if b = true then Q true ρ' else u X ρ' Q
def dtNot (t : DT) : DT := fun X ρ Q => t X ρ fun b ρ' => Q (!b) ρ'
def dAnd (f : DE) (g : DE) : DE := fun X ρ Q => f X ρ fun d ρ' => match d with
  | .bl b => if b = true then g X ρ' Q else Q (.bl false) ρ'
  | _ => False
def dOr (f : DE) (g : DE) : DE := fun X ρ Q => f X ρ fun d ρ' => match d with
  | .bl b => if b = true then Q (.bl true) ρ' else g X ρ' Q
  | _ => False
def dNot (f : DE) : DE := fun X ρ Q => f X ρ fun d ρ' => match d with
  | .bl b => Q (.bl (!b)) ρ'
  | _ => False
def dIf (t : DT) (f g : DE) : DE := fun X ρ Q => t X ρ fun b ρ' => if b = true then f X ρ' Q else g X ρ' Q
def dChain (g g' : D → D → (D → Prop) → Prop) (fa fb fc : DE) : DE := fun X ρ Q => fa X ρ fun d ρ1 => fb X ρ1 fun e ρ2 => g d e fun z => match z with
  | .bl b => if b = true then fc X ρ2 fun c ρ3 => g' e c fun y => Q y ρ3 else Q (.bl false) ρ2
  | _ => False

section
variable {X : Cx} {W : WX}

/-! ### names, constants -/
theorem pv' (i : Nat) {x : Str} {pos : Pos} (hN : X.N[i]? = some x) (hv : Vis X.env.scope x) (hd : (x == ("__debug__" : Str)) = false) (hcd : (x == ("__classdict__" : Str)) = false) : PE X (.Name x pos) (tVar i) := pe_var hN hv hd hcd
theorem de_var (i : Nat) {x : Str} {pos : Pos} (hN : X.N[i]? = some x := by rfl) (hv : Vis X.env.scope x := by first | exact Or.inl rfl | exact Or.inr (Or.inl rfl) | exact Or.inr (Or.inr rfl)) (hd : (x == ("__debug__" : Str)) = false := by decide)
    (hcd : (x == ("__classdict__" : Str)) = false := by decide) : PE X (.Name x pos) (lE X.K W (dVar i)) := pe_imp (pe_var (i := i) hN hv hd hcd) fun σ H Q h => by
  obtain ⟨ρ, G, la, P, XX, r, f, q, _⟩ := h
  unfold dVar at f
  split at f
  · rename_i d hs
    obtain ⟨v, hv, rel⟩ := r.at_ _ _ hs
    exact ⟨v, hv, q _ _ _ _ _ _ f (Aft.refl r) rel⟩
  · rename_i k hs
    obtain ⟨v, hv, a, ha, ev⟩ := r.at_ _ _ hs
    subst ev
    split at f
    · rename_i xs hk
      obtain ⟨vs, hH, gn, s1, dp, rl⟩ := r.tb.freeze ha hk
      refine ⟨_, hv, q _ _ _ _ la _ f ⟨s1, List.prefix_rfl, ⟨rl, by simp [r.sl], fun j x hj => ?_⟩⟩ dp⟩
      have hj' : (ρ.s.set i (some (.dat (.lst xs))))[j]? = some (some x) := hj
      by_cases hji : j = i
      · subst hji
        rw [List.getElem?_set_self (List.getElem?_eq_some_iff.mp hs).1] at hj'
        have e := Option.some.inj (Option.some.inj hj')
        subst e
        exact ⟨_, hv, dp⟩
      · rw [List.getElem?_set_ne (Ne.symm hji)] at hj'
        obtain ⟨u, hu, ru⟩ := r.at_ j x hj'
        exact ⟨u, hu, ru.grow s1 List.prefix_rfl⟩
    · exact f.elim
  · exact f.elim
theorem dl_var (i : Nat) {x : Str} {pos : Pos} (hN : X.N[i]? = some x := by rfl) (hv : Vis X.env.scope x := by first | exact Or.inl rfl | exact Or.inr (Or.inl rfl) | exact Or.inr (Or.inr rfl)) (hd : (x == ("__debug__" : Str)) = false := by decide)
    (hcd : (x == ("__classdict__" : Str)) = false := by decide) : PE X (.Name x pos) (lL X.K W (dVarL i)) := pe_imp (pe_var (i := i) hN hv hd hcd) fun σ H Q h => by
  obtain ⟨ρ, G, la, P, XX, r, f, q, _⟩ := h
  unfold dVarL at f
  split at f
  · rename_i x hs
    obtain ⟨v, hv, rel⟩ := r.at_ _ _ hs
    exact ⟨v, hv, q _ _ _ _ _ _ f (Aft.refl r) rel⟩
  · exact f.elim
theorem de_c {e : Expr} {d : D} {v : V} (h : PE X e (tC v)) (hd : ∀ K G, Dp K G v d) : PE X e (lE X.K W (dC d)) := pe_imp h fun σ H Q ⟨ρ, G, la, P, XX, r, f, q, _⟩ => q _ _ _ _ _ _ f (Aft.refl r) (hd _ _)
theorem de_int {i j pos} : PE X (.Constant (.int i) j pos) (lE X.K W (dC (.int i))) := de_c pe_int fun _ _ => .int i
theorem de_bl {b j pos} : PE X (.Constant (.bool b) j pos) (lE X.K W (dC (.bl b))) := de_c pe_bl fun _ _ => .bl b
theorem de_non {j pos} : PE X (.Constant .none j pos) (lE X.K W (dC .non)) := de_c pe_non fun _ _ => .non
theorem de_str {x j pos} : PE X (.Constant (.str x) j pos) (lE X.K W (dC (.str x))) := de_c pe_str fun _ _ => .str x
theorem de_gint {x : Str} {i : Int} {t : Tok} {pos : Pos} (hm : X.mg x = some (.int i t)) (hg : Gl X x := by rfl) (hd : (x == ("__debug__" : Str)) = false := by decide) : PE X (.Name x pos) (lE X.K W (dC (.int i))) :=
  de_c (pe_glob hg hm (v := .int i) ⟨t, rfl⟩ hd) fun _ _ => .int i
theorem de_gfn {x : Str} {a : Addr} {pos : Pos} (hm : X.mg x = some (.ref a)) (hg : Gl X x := by rfl) (hd : (x == ("__debug__" : Str)) = false := by decide) : PE X (.Name x pos) (lE X.K W (dC (.raw (.ref a)))) :=
  de_c (pe_glob hg hm (v := .ref a) rfl hd) fun _ _ => .raw _
theorem dl_dat {e : Expr} {f : DE} (h : PE X e (lE X.K W f)) : PE X e (lL X.K W (dDat f)) := pe_imp h fun σ H Q ⟨ρ, G, la, P, XX, r, f, q, x⟩ => ⟨ρ, G, la, _, XX, r, f, fun d ρ' v G' la' H' p a z => q _ _ _ _ _ _ p a z, x⟩
theorem de_val {e : Expr} {f : DL'} (h : PE X e (lL X.K W f)) : PE X e (lE X.K W (dVal f)) := pe_imp h fun σ H Q ⟨ρ, G, la, P, XX, r, f, q, x⟩ => ⟨ρ, G, la, _, XX, r, f, fun d ρ' v G' la' H' p a z => by
  cases d with
  | dat d => exact q _ _ _ _ _ _ p a z
  | ob k =>
    obtain ⟨b, hb, ev⟩ := z
    subst ev
    have p' : (match ρ'.T[k]? with
      | some (.lst xs) => P (.lst xs) ⟨ρ'.T.set k .dead, ρ'.s⟩
      | _ => False) := p
    split at p'
    · rename_i xs hk
      obtain ⟨vs, hH, gn, s1, dp, rl⟩ := a.r.tb.freeze hb hk
      refine q _ _ _ _ la' _ p' ⟨a.g.trans s1, a.p, ⟨rl, a.r.sl, fun j y hj => ?_⟩⟩ dp
      obtain ⟨u, hu, ru⟩ := a.r.at_ j y hj
      exact ⟨u, hu, ru.grow s1 List.prefix_rfl⟩
    · exact p'.elim
  | clo _ _ _ => exact (show False from p).elim, x⟩

/-! ### argument lists, displays -/
theorem da_nil : PA X [] (lA X.K W dNil) := pa_imp pa_nil fun σ H Q ⟨ρ, G, la, P, XX, r, f, q, _⟩ => q _ _ _ _ _ _ f (Aft.refl r) .nil
theorem da_cons {e : Expr} {es : List Expr} {f : DL'} {g : DA} (he : PE X e (lL X.K W f)) (hs : PA X es (lA X.K W g)) (hst : starEach (e :: es) X.env = (false, eval e X.env) :: starEach es X.env := by rfl) : PA X (e :: es) (lA X.K W (dCons f g)) :=
  pa_imp (pa_cons he hs hst) fun σ H Q ⟨ρ, G, la, P, XX, r, h, q, xo⟩ => ⟨ρ, G, la, _, XX, r, h, fun x ρ1 v G1 la1 H1 p1 a1 z1 => ⟨ρ1, G1, la1, _, XX, a1.r, p1, fun xs ρ2 vs G2 la2 H2 p2 a2 z2 =>
    q _ _ _ _ _ _ p2 (a1.trans a2) (.cons (z1.grow a2.g a2.p) z2), xo.up a1.g a1.p⟩, xo⟩
theorem dats_of {K : PySem.W.Frag} {G : Hp} {la : List Addr} : ∀ {vs : List V} {xs : List Sl} {ds : List D}, SlsR K G la vs xs → dats xs = some ds → Dps K G vs ds
  | _, _, _, .nil, h => by
    have e := Option.some.inj h
    subst e
    exact .nil
  | _, .dat d :: r, _, .cons a s, h => by
    have h' : (dats r).map (d :: ·) = some _ := h
    obtain ⟨t, ht, e⟩ := Option.map_eq_some_iff.mp h'
    subst e
    exact .cons a (dats_of s ht)
  | _, .ob _ :: _, _, .cons _ _, h => by cases h
  | _, .clo _ _ _ :: _, _, .cons _ _, h => by cases h
theorem dats_len : ∀ {xs : List Sl} {ds : List D}, dats xs = some ds → xs.length = ds.length
  | [], _, h => by
    have e := Option.some.inj h
    subst e
    rfl
  | .dat d :: r, _, h => by
    have h' : (dats r).map (d :: ·) = some _ := h
    obtain ⟨t, ht, e⟩ := Option.map_eq_some_iff.mp h'
    subst e
    exact congrArg (· + 1) (dats_len ht)
  | .ob _ :: _, _, h => by cases h
  | .clo _ _ _ :: _, _, h => by cases h
theorem short {n : Nat} (h : n ≤ 1000) : n ≤ sizeLine := Nat.le_of_lt (small1000 h)
theorem tup_some {xs : List Sl} {ρ' : Env} {P : D → Env → Prop} {c : List D → D} (h : match dats xs with
    | some ds => ds.length ≤ 1000 ∧ P (c ds) ρ'
    | none => False) : ∃ ds, dats xs = some ds ∧ ds.length ≤ 1000 ∧ P (c ds) ρ' := by
  cases e : dats xs with
  | none =>
    rw [e] at h
    exact h.elim
  | some ds =>
    rw [e] at h
    exact ⟨ds, rfl, h.1, h.2⟩
theorem de_tup {es : List Expr} {f : DA} {k pos} (h : PA X es (lA X.K W f)) : PE X (.Tuple es k pos) (lE X.K W (dTup f)) :=
  pe_imp (pe_tup h) fun σ H Q ⟨ρ, G, la, P, XX, r, h, q, xo⟩ => ⟨ρ, G, la, _, XX, r, h, fun xs ρ1 vs G1 la1 H1 p1 a1 z1 => by
    obtain ⟨ds, hd, hn, p1⟩ := tup_some p1
    have l0 : vs.length ≤ sizeLine := by
      rw [z1.len, dats_len hd]
      exact short hn
    refine ⟨l0, fun p hp => ?_⟩
    have w := Grow.new (o := .tup vs) a1.r.ext hp
    exact q _ _ _ _ _ _ p1 (a1.grow w) (.tup (.inl (.inl upd_same)) l0 ((dats_of z1 hd).up w.g)), xo⟩
theorem de_lst {es : List Expr} {f : DA} {pos} (h : PA X es (lA X.K W f)) : PE X (.List es pos) (lE X.K W (dLst f)) :=
  pe_imp (pe_lst h) fun σ H Q ⟨ρ, G, la, P, XX, r, h, q, xo⟩ => ⟨ρ, G, la, _, XX, r, h, fun xs ρ1 vs G1 la1 H1 p1 a1 z1 => by
    obtain ⟨ds, hd, hn, p1⟩ := tup_some p1
    have l0 : vs.length ≤ sizeLine := by
      rw [z1.len, dats_len hd]
      exact short hn
    refine ⟨l0, fun p hp => ?_⟩
    have w := Grow.new (o := .lst vs) a1.r.ext hp
    exact q _ _ _ _ _ _ p1 (a1.grow w) (.lst upd_same l0 ((dats_of z1 hd).up w.g)), xo⟩
theorem dl_new {es : List Expr} {f : DA} {pos} (h : PA X es (lA X.K W f)) : PE X (.List es pos) (lL X.K W (dNew f)) :=
  pe_imp (pe_lst h) fun σ H Q ⟨ρ, G, la, P, XX, r, h, q, xo⟩ => ⟨ρ, G, la, _, XX, r, h, fun xs ρ1 vs G1 la1 H1 p1 a1 z1 => by
    have p1' : (match dats xs with
      | some ds => ds.length ≤ 1000 ∧ P (.ob ρ1.T.length) ⟨ρ1.T ++ [.lst ds], ρ1.s⟩
      | none => False) := p1
    split at p1'
    · rename_i ds hd
      obtain ⟨hn, p2⟩ := p1'
      have l0 : vs.length ≤ sizeLine := by
        rw [z1.len, dats_len hd]
        exact short hn
      refine ⟨l0, fun p hp => ?_⟩
      have rf := a1.r.tb.fresh hp l0 (dats_of z1 hd)
      refine q _ _ _ G1 (la1 ++ [p]) _ p2 ⟨a1.g, a1.p.trans (List.prefix_append _ _), ⟨rf, a1.r.sl, fun j y hj => ?_⟩⟩ ⟨p, ?_, rfl⟩
      · obtain ⟨u, hu, ru⟩ := a1.r.at_ j y hj
        exact ⟨u, hu, ru.grow (Same.refl _) (List.prefix_append _ _)⟩
      · rw [← a1.r.tb.len, List.getElem?_append_right (Nat.le_refl _)]
        simp
    · exact p1'.elim, xo⟩

/-! ### operators -/
/-- r on values does what g does on data -/
def GOp (K : PySem.W.Frag) (r : R2) (g : D → D → (D → Prop) → Prop) : Prop := ∀ (G H : Hp) (x y : V) (d e : D) (P : D → Prop) (Q : VK), Same G H → Dp K G x d → Dp K G y e → g d e P →
  (∀ z v G' H', P z → Grow G H G' H' → Dp K G' v z → Q v H') → r x y H Q
theorem bin_core {K : PySem.W.Frag} {r : R2} {g : D → D → (D → Prop) → Prop} {fa fb : DE} (hg : GOp K r g) : ∀ (σ : L2.St) (H : Hp) (Q : VK), lE K W (dBin g fa fb) σ H Q → tOp r (lE K W fa) (lE K W fb) σ H Q := fun σ H Q ⟨ρ, G, la, P, XX, re, h, q, xo⟩ =>
  ⟨ρ, G, la, _, XX, re, h, fun d ρ1 v G1 la1 H1 p1 a1 z1 => ⟨ρ1, G1, la1, _, XX, a1.r, p1, fun e ρ2 u G2 la2 H2 p2 a2 z2 =>
    hg G2 H2 v u d e _ Q a2.r.ext (z1.up a2.g) z2 p2 fun z w G' H' pz gr dz => q _ _ _ _ _ _ pz ((a1.trans a2).grow gr) dz, xo.up a1.g a1.p⟩, xo⟩
theorem de_bin {op : Operator} {a b : Expr} {r : R2} {g : D → D → (D → Prop) → Prop} {fa fb : DE} {pos : Pos} (ho : OpR X (binaryOp op) r) (hg : GOp X.K r g) (ha : PE X a (lE X.K W fa)) (hb : PE X b (lE X.K W fb)) : PE X (.BinOp a op b pos) (lE X.K W (dBin g fa fb)) :=
  pe_imp (pe_op ho ha hb) (bin_core hg)
theorem de_cmp {op : CmpOp} {a b : Expr} {r : R2} {g : D → D → (D → Prop) → Prop} {fa fb : DE} {pos : Pos} (ho : OpR X (compareOp op) r) (hg : GOp X.K r g) (ha : PE X a (lE X.K W fa)) (hb : PE X b (lE X.K W fb)) (hm : behindInMarks op b = false) : PE X (.Compare a [op] [b] pos) (lE X.K W (dBin g fa fb)) :=
  pe_imp (pe_cmpR ho ha hb hm) (bin_core hg)
theorem chain_core {K : PySem.W.Frag} {r r' : R2} {g g' : D → D → (D → Prop) → Prop} {fa fb fc : DE} (hg : GOp K r g) (hg' : GOp K r' g') : ∀ (σ : L2.St) (H : Hp) (Q : VK), lE K W (dChain g g' fa fb fc) σ H Q → tChain r r' (lE K W fa) (lE K W fb) (lE K W fc) σ H Q := fun σ H Q ⟨ρ, G, la, P, XX, re, h, q, xo⟩ =>
  ⟨ρ, G, la, _, XX, re, h, fun d ρ1 v G1 la1 H1 p1 a1 z1 => ⟨ρ1, G1, la1, _, XX, a1.r, p1, fun e ρ2 u G2 la2 H2 p2 a2 z2 =>
    hg G2 H2 v u d e _ _ a2.r.ext (z1.up a2.g) z2 p2 fun z w G' H' pz gr dz => by
      cases z with
      | bl b' =>
        cases dz
        refine ⟨b', rfl, ?_⟩
        have a3 := (a1.trans a2).grow gr
        cases b' with
        | true =>
          refine iteT ?_
          have pz' : fc XX ρ2 fun c ρ3 => g' e c fun y => P y ρ3 := pz
          exact ⟨ρ2, G', la2, _, XX, a3.r, pz', fun c ρ3 w' G4 la4 H4 p4 a4 z4 =>
            hg' G4 H4 u w' e c _ Q a4.r.ext ((z2.up gr.g).up a4.g) z4 p4 fun y v' G5 H5 py gr5 dy => q _ _ _ _ _ _ py ((a3.trans a4).grow gr5) dy, xo.up a3.g a3.p⟩
        | false =>
          refine iteF ?_
          exact q _ _ _ _ _ _ (show P (.bl false) ρ2 from pz) a3 (.bl false)
      | _ => exact (show False from pz).elim, xo.up a1.g a1.p⟩, xo⟩
theorem de_chain {op op' : CmpOp} {a b c : Expr} {r r' : R2} {g g' : D → D → (D → Prop) → Prop} {fa fb fc : DE} {pos : Pos} (ho : OpR X (compareOp op) r) (ho' : OpR X (compareOp op') r') (hg : GOp X.K r g) (hg' : GOp X.K r' g') (ha : PE X a (lE X.K W fa)) (hb : PE X b (lE X.K W fb)) (hc : PE X c (lE X.K W fc))
    (hm : lastMarks [op, op'] [b, c] = false := by with_unfolding_all rfl) : PE X (.Compare a [op, op'] [b, c] pos) (lE X.K W (dChain g g' fa fb fc)) :=
  pe_imp (pe_chain ho ho' ha hb hc hm) (chain_core hg hg')
theorem de_un {op : UnaryOp} {a : Expr} {r : V → Hp → VK → Prop} {g : D → (D → Prop) → Prop} {fa : DE} {pos : Pos} (ho : UnR X (unaryOp op) r)
    (hg : ∀ (G H : Hp) (x : V) (d : D) (P : D → Prop) (Q : VK), Same G H → Dp X.K G x d → g d P → (∀ z v G' H', P z → Grow G H G' H' → Dp X.K G' v z → Q v H') → r x H Q) (ha : PE X a (lE X.K W fa)) : PE X (.UnaryOp op a pos) (lE X.K W (dUn g fa)) :=
  pe_imp (pe_un ho ha) fun σ H Q ⟨ρ, G, la, P, XX, re, h, q, xo⟩ => ⟨ρ, G, la, _, XX, re, h, fun d ρ1 v G1 la1 H1 p1 a1 z1 => hg G1 H1 v d _ _ a1.r.ext z1 p1 fun z w G' H' pz gr dz => q _ _ _ _ _ _ pz (a1.grow gr) dz, xo⟩

/-! ### tests -/
theorem dt_of {e : Expr} {f : DE} (h : PE X e (lE X.K W f)) (he : ∀ whole, isTrue e X.env whole = (do let v ← whole; standAt e.pos; holding [v] (truthy v)) := by intro _; rfl) : PT X e (lT X.K W (dTest f)) :=
  pt_imp (pt_val h he) fun σ H Q ⟨ρ, G, la, P, XX, r, h, q, xo⟩ => ⟨ρ, G, la, _, XX, r, h, fun d ρ1 v G1 la1 H1 p1 a1 z1 => by
    cases d with
    | bl b =>
      cases z1
      exact ⟨b, rfl, q _ _ _ _ _ (show P b ρ1 from p1) a1⟩
    | _ => exact (show False from p1).elim, xo⟩
theorem test_core {K : PySem.W.Frag} {f : DE} : ∀ (σ : L2.St) (H : Hp) (Q : Bool → Hp → Prop), lT K W (dTest f) σ H Q → lE K W f σ H (fun x H' => ∃ k, x = .bl k ∧ Q k H') := fun σ H Q ⟨ρ, G, la, P, XX, r, h, q, xo⟩ => ⟨ρ, G, la, _, XX, r, h, fun d ρ1 v G1 la1 H1 p1 a1 z1 => by
    cases d with
    | bl b =>
      cases z1
      exact ⟨b, rfl, q _ _ _ _ _ (show P b ρ1 from p1) a1⟩
    | _ => exact (show False from p1).elim, xo⟩
theorem dt_cmp {op : CmpOp} {a b : Expr} {r : R2} {g : D → D → (D → Prop) → Prop} {fa fb : DE} {pos : Pos} (ho : OpR X (compareOp op) r) (hg : GOp X.K r g) (ha : PE X a (lE X.K W fa)) (hb : PE X b (lE X.K W fb)) (hm : behindInMarks op b = false) : PT X (.Compare a [op] [b] pos) (lT X.K W (dTest (dBin g fa fb))) :=
  pt_imp (pt_cmpR ho ha hb hm) fun σ H Q h => bin_core hg σ H _ (test_core σ H Q h)
theorem dt_chain {op op' : CmpOp} {a b c : Expr} {r r' : R2} {g g' : D → D → (D → Prop) → Prop} {fa fb fc : DE} {pos : Pos} (ho : OpR X (compareOp op) r) (ho' : OpR X (compareOp op') r') (hg : GOp X.K r g) (hg' : GOp X.K r' g') (ha : PE X a (lE X.K W fa)) (hb : PE X b (lE X.K W fb)) (hc : PE X c (lE X.K W fc))
    (hm : lastMarks [op, op'] [b, c] = false := by with_unfolding_all rfl) : PT X (.Compare a [op, op'] [b, c] pos) (lT X.K W (dTest (dChain g g' fa fb fc))) :=
  pt_imp (pt_chain ho ho' ha hb hc hm) fun σ H Q h => chain_core hg hg' σ H _ (test_core σ H Q h)
theorem dt_not {e : Expr} {t : DT} {pos : Pos} (h : PT X e (lT X.K W t)) : PT X (.UnaryOp .Not e pos) (lT X.K W (dtNot t)) :=
  pt_imp (pt_not h) fun σ H Q ⟨ρ, G, la, P, XX, r, h, q, xo⟩ => ⟨ρ, G, la, _, XX, r, h, fun b ρ1 G1 la1 H1 p1 a1 => q _ _ _ _ _ p1 a1, xo⟩
theorem dw_and1 {e : Expr} {t : DT} {pos : Pos} (h : PT X e (lT X.K W t)) : PW X (.BoolOp .And [e] pos) (lT X.K W t) := pw_and1 h
theorem dw_or1 {e : Expr} {t : DT} {pos : Pos} (h : PT X e (lT X.K W t)) : PW X (.BoolOp .Or [e] pos) (lT X.K W t) := pw_or1 h
theorem dw_and {a b : Expr} {rest : List Expr} {t u : DT} {pos : Pos} (h : PT X a (lT X.K W t)) (h2 : PW X (.BoolOp .And (b :: rest) pos) (lT X.K W u)) : PW X (.BoolOp .And (a :: b :: rest) pos) (lT X.K W (dtAnd t u)) :=
  pw_imp (pw_and h h2) fun σ H Q ⟨ρ, G, la, P, XX, r, h, q, xo⟩ => ⟨ρ, G, la, _, XX, r, h, fun b ρ1 G1 la1 H1 p1 a1 => by
    cases b with
    | true => exact iteT ⟨ρ1, G1, la1, _, XX, a1.r, (show u XX ρ1 P from p1), fun b ρ2 G2 la2 H2 p2 a2 => q _ _ _ _ _ p2 (a1.trans a2), xo.up a1.g a1.p⟩
    | false => exact iteF (q _ _ _ _ _ (show P false ρ1 from p1) a1), xo⟩
theorem dw_or {a b : Expr} {rest : List Expr} {t u : DT} {pos : Pos} (h : PT X a (lT X.K W t)) (h2 : PW X (.BoolOp .Or (b :: rest) pos) (lT X.K W u)) : PW X (.BoolOp .Or (a :: b :: rest) pos) (lT X.K W (dtOr t u)) :=
  pw_imp (pw_or h h2) fun σ H Q ⟨ρ, G, la, P, XX, r, h, q, xo⟩ => ⟨ρ, G, la, _, XX, r, h, fun b ρ1 G1 la1 H1 p1 a1 => by
    cases b with
    | false => exact iteF ⟨ρ1, G1, la1, _, XX, a1.r, (show u XX ρ1 P from p1), fun b ρ2 G2 la2 H2 p2 a2 => q _ _ _ _ _ p2 (a1.trans a2), xo.up a1.g a1.p⟩
    | true => exact iteT (q _ _ _ _ _ (show P true ρ1 from p1) a1), xo⟩
theorem dw {e : Expr} {t : DT} (h : PW X e (lT X.K W t)) : PT X e (lT X.K W t) := h.pt
theorem de_and {a b : Expr} {rest : List Expr} {f g : DE} {pos : Pos} (h : PE X a (lE X.K W f)) (h2 : PE X (.BoolOp .And (b :: rest) pos) (lE X.K W g)) : PE X (.BoolOp .And (a :: b :: rest) pos) (lE X.K W (dAnd f g)) :=
  pe_imp (pe_and h h2) fun σ H Q ⟨ρ, G, la, P, XX, r, h, q, xo⟩ => ⟨ρ, G, la, _, XX, r, h, fun d ρ1 v G1 la1 H1 p1 a1 z1 => by
    cases d with
    | bl b =>
      cases z1
      refine ⟨b, rfl, ?_⟩
      cases b with
      | true => exact iteT ⟨ρ1, G1, la1, _, XX, a1.r, (show g XX ρ1 P from p1), fun d ρ2 v G2 la2 H2 p2 a2 z2 => q _ _ _ _ _ _ p2 (a1.trans a2) z2, xo.up a1.g a1.p⟩
      | false => exact iteF (q _ _ _ _ _ _ (show P (.bl false) ρ1 from p1) a1 (.bl false))
    | _ => exact (show False from p1).elim, xo⟩
theorem de_or {a b : Expr} {rest : List Expr} {f g : DE} {pos : Pos} (h : PE X a (lE X.K W f)) (h2 : PE X (.BoolOp .Or (b :: rest) pos) (lE X.K W g)) : PE X (.BoolOp .Or (a :: b :: rest) pos) (lE X.K W (dOr f g)) :=
  pe_imp (pe_or h h2) fun σ H Q ⟨ρ, G, la, P, XX, r, h, q, xo⟩ => ⟨ρ, G, la, _, XX, r, h, fun d ρ1 v G1 la1 H1 p1 a1 z1 => by
    cases d with
    | bl b =>
      cases z1
      refine ⟨b, rfl, ?_⟩
      cases b with
      | false => exact iteF ⟨ρ1, G1, la1, _, XX, a1.r, (show g XX ρ1 P from p1), fun d ρ2 v G2 la2 H2 p2 a2 z2 => q _ _ _ _ _ _ p2 (a1.trans a2) z2, xo.up a1.g a1.p⟩
      | true => exact iteT (q _ _ _ _ _ _ (show P (.bl true) ρ1 from p1) a1 (.bl true))
    | _ => exact (show False from p1).elim, xo⟩
theorem de_not {e : Expr} {f : DE} {pos : Pos} (h : PE X e (lE X.K W f)) : PE X (.UnaryOp .Not e pos) (lE X.K W (dNot f)) :=
  pe_imp (pe_not h) fun σ H Q ⟨ρ, G, la, P, XX, r, h, q, xo⟩ => ⟨ρ, G, la, _, XX, r, h, fun d ρ1 v G1 la1 H1 p1 a1 z1 => by
    cases d with
    | bl b =>
      cases z1
      exact ⟨b, rfl, q _ _ _ _ _ _ (show P (.bl (!b)) ρ1 from p1) a1 (.bl _)⟩
    | _ => exact (show False from p1).elim, xo⟩
theorem de_one {op : BoolOp} {e : Expr} {f : DE} {pos : Pos} (h : PE X e (lE X.K W f)) : PE X (.BoolOp op [e] pos) (lE X.K W f) := pe_one h
theorem de_if {c a b : Expr} {t : DT} {f g : DE} {pos : Pos} (hc : PT X c (lT X.K W t)) (ha : PE X a (lE X.K W f)) (hb : PE X b (lE X.K W g)) : PE X (.IfExp c a b pos) (lE X.K W (dIf t f g)) :=
  pe_imp (pe_ifExp hc ha hb) fun σ H Q ⟨ρ, G, la, P, XX, r, h, q, xo⟩ => ⟨ρ, G, la, _, XX, r, h, fun b ρ1 G1 la1 H1 p1 a1 => by
    cases b with
    | true => exact iteT ⟨ρ1, G1, la1, _, XX, a1.r, (show f XX ρ1 P from p1), fun d ρ2 v G2 la2 H2 p2 a2 z2 => q _ _ _ _ _ _ p2 (a1.trans a2) z2, xo.up a1.g a1.p⟩
    | false => exact iteF ⟨ρ1, G1, la1, _, XX, a1.r, (show g XX ρ1 P from p1), fun d ρ2 v G2 la2 H2 p2 a2 z2 => q _ _ _ _ _ _ p2 (a1.trans a2) z2, xo.up a1.g a1.p⟩, xo⟩
end
end DL
set_option Elab.async false
set_option linter.all false
set_option maxRecDepth 100000
set_option maxHeartbeats 4000000
set_option autoImplicit false
/-! The data level: operators, subscripts, slices, calls of built-ins. -/
namespace DL
open PySem PySem.Spec PyProof.Rows L2

/-! ### arithmetic -/
def gAdd : D → D → (D → Prop) → Prop
  | .int i, .int j, P => P (.int (i + j))
  | .str i, .str j, P => i.length + j.length ≤ sizeLine ∧ P (.str (i ++ j))
  | .tup a, .tup b, P => a.length + b.length ≤ sizeLine ∧ P (.tup (a ++ b))
  | .lst a, .lst b, P => a.length + b.length ≤ sizeLine ∧ P (.lst (a ++ b))
  | _, _, _ => False
def gSub : D → D → (D → Prop) → Prop
  | .int i, .int j, P => P (.int (i - j))
  | _, _, _ => False
def gMul : D → D → (D → Prop) → Prop
  | .int i, .int j, P => CMulW i j ∧ P (.int (i * j))
  | _, _, _ => False
def gDiv : D → D → (D → Prop) → Prop
  | .int i, .int j, P => CDivW i j ∧ P (.int (i / j))
  | _, _, _ => False
def gMod : D → D → (D → Prop) → Prop
  | .int i, .int j, P => 0 < j ∧ P (.int (i % j))
  | _, _, _ => False
def gPow : D → D → (D → Prop) → Prop
  | .int i, .int j, P => CPow i j ∧ P (.int (i ^ j.toNat))
  | _, _, _ => False
def gNeg : D → (D → Prop) → Prop
  | .int i, P => P (.int (-i))
  | _, _ => False
section
variable {K : PySem.W.Frag}
theorem sqt_of {G H : Hp} {p : Addr} {vs : List V} (e : Same G H) (h : SqT K G p vs) : SqT K H p vs := same_t e h
theorem gop_rI {C : Int → Int → Prop} {f : Int → Int → Int} {g : D → D → (D → Prop) → Prop} (h : ∀ d e P, g d e P → ∃ i j, d = .int i ∧ e = .int j ∧ C i j ∧ P (.int (f i j))) : GOp K (rI C fun i j => .int (f i j)) g := by
  intro G H x y d e P Q sm dx dy gp k
  obtain ⟨i, j, rfl, rfl, c, p⟩ := h d e P gp
  cases dx
  cases dy
  exact ⟨i, j, rfl, rfl, c, k _ _ _ _ p (Grow.refl sm) (.int _)⟩
theorem gop_rI0 {f : Int → Int → Int} {g : D → D → (D → Prop) → Prop} (h : ∀ d e P, g d e P → ∃ i j, d = .int i ∧ e = .int j ∧ P (.int (f i j))) : GOp K (rI0 fun i j => .int (f i j)) g := by
  intro G H x y d e P Q sm dx dy gp k
  obtain ⟨i, j, rfl, rfl, p⟩ := h d e P gp
  cases dx
  cases dy
  exact ⟨i, j, rfl, rfl, k _ _ _ _ p (Grow.refl sm) (.int _)⟩
theorem gop_rB0 {f : Int → Int → Bool} {g : D → D → (D → Prop) → Prop} (h : ∀ d e P, g d e P → ∃ i j, d = .int i ∧ e = .int j ∧ P (.bl (f i j))) : GOp K (rI0 fun i j => .bl (f i j)) g := by
  intro G H x y d e P Q sm dx dy gp k
  obtain ⟨i, j, rfl, rfl, p⟩ := h d e P gp
  cases dx
  cases dy
  exact ⟨i, j, rfl, rfl, k _ _ _ _ p (Grow.refl sm) (.bl _)⟩
theorem g_sub : GOp K (rI0 fun i j => .int (i - j)) gSub := gop_rI0 fun d e P h => by
  unfold gSub at h
  split at h
  · exact ⟨_, _, rfl, rfl, h⟩
  · exact h.elim
theorem g_mul : GOp K (rI CMulW fun i j => .int (i * j)) gMul := gop_rI fun d e P h => by
  unfold gMul at h
  split at h
  · exact ⟨_, _, rfl, rfl, h.1, h.2⟩
  · exact h.elim
theorem g_div : GOp K (rI CDivW fun i j => .int (i / j)) gDiv := gop_rI fun d e P h => by
  unfold gDiv at h
  split at h
  · exact ⟨_, _, rfl, rfl, h.1, h.2⟩
  · exact h.elim
theorem g_mod : GOp K (rI (fun _ j => 0 < j) fun i j => .int (i % j)) gMod := gop_rI fun d e P h => by
  unfold gMod at h
  split at h
  · exact ⟨_, _, rfl, rfl, h.1, h.2⟩
  · exact h.elim
theorem g_pow : GOp K (rI CPow fun i j => .int (i ^ j.toNat)) gPow := gop_rI fun d e P h => by
  unfold gPow at h
  split at h
  · exact ⟨_, _, rfl, rfl, h.1, h.2⟩
  · exact h.elim
/-- + of ints, texts, tuples, lists -/
def rAddA (K : PySem.W.Frag) : R2 := fun x y H Q => (rI0 (fun i j => .int (i + j)) x y H Q) ∨ (∃ i j, x = .str i ∧ y = .str j ∧ i.length + j.length ≤ sizeLine ∧ Q (.str (i ++ j)) H) ∨ rCatA K x y H Q ∨ rCat x y H Q
theorem op_addA {X : Cx} : OpR X (binaryOp .Add) (rAddA X.K) := op_add.or (op_add_str.or (op_catA.or op_cat))
theorem nil_iff {K : PySem.W.Frag} {G : Hp} {vs : List V} {ds : List D} (h : Dps K G vs ds) : vs = [] ↔ ds = [] := by
  cases h with
  | nil => simp
  | cons _ _ => simp
theorem g_add : GOp K (rAddA K) gAdd := by
  intro G H x y d e P Q sm dx dy gp k
  unfold gAdd at gp
  split at gp
  · cases dx
    cases dy
    exact .inl ⟨_, _, rfl, rfl, k _ _ _ _ gp (Grow.refl sm) (.int _)⟩
  · cases dx
    cases dy
    exact .inr (.inl ⟨_, _, rfl, rfl, gp.1, k _ _ _ _ gp.2 (Grow.refl sm) (.str _)⟩)
  · cases dx with
    | tup a l r =>
      rename_i pa va
      cases dy with
      | tup a' l' r' =>
        rename_i pb vb
        have lz : va.length + vb.length ≤ sizeLine := by
          rw [r.len, r'.len]
          exact gp.1
        refine .inr (.inr (.inl ⟨_, _, va, vb, rfl, rfl, same_t sm a, same_t sm a', lz, fun z => ?_, fun z z' => ?_, fun z z' q hq => ?_⟩))
        · have e0 := (nil_iff r).mp z
          have e1 := gp.2
          rw [e0, List.nil_append] at e1
          exact k _ _ _ _ e1 (Grow.refl sm) (.tup a' l' r')
        · have e0 := (nil_iff r').mp z'
          have e1 := gp.2
          rw [e0, List.append_nil] at e1
          exact k _ _ _ _ e1 (Grow.refl sm) (.tup a l r)
        · have w := Grow.new (o := .tup (va ++ vb)) sm hq
          exact k _ _ _ _ gp.2 w (.tup (.inl (.inl upd_same)) (by rw [List.length_append]; exact lz) ((r.app r').up w.g))
  · cases dx with
    | lst a l r =>
      rename_i pa va
      cases dy with
      | lst a' l' r' =>
        rename_i pb vb
        have lz : va.length + vb.length ≤ sizeLine := by
          rw [r.len, r'.len]
          exact gp.1
        refine .inr (.inr (.inr ⟨_, _, va, vb, rfl, rfl, sm _ _ a, sm _ _ a', lz, fun q hq => ?_⟩))
        have w := Grow.new (o := .lst (va ++ vb)) sm hq
        exact k _ _ _ _ gp.2 w (.lst upd_same (by rw [List.length_append]; exact lz) ((r.app r').up w.g))
  · exact gp.elim

/-! ### comparisons -/
def gLt : D → D → (D → Prop) → Prop
  | .int i, .int j, P => P (.bl (decide (i < j)))
  | _, _, _ => False
def gLe : D → D → (D → Prop) → Prop
  | .int i, .int j, P => P (.bl (decide (i ≤ j)))
  | _, _, _ => False
def gGt : D → D → (D → Prop) → Prop
  | .int i, .int j, P => P (.bl (decide (j < i)))
  | _, _, _ => False
def gGe : D → D → (D → Prop) → Prop
  | .int i, .int j, P => P (.bl (decide (j ≤ i)))
  | _, _, _ => False
theorem g_lt : GOp K (rI0 fun i j => .bl (decide (i < j))) gLt := gop_rB0 (f := fun i j => decide (i < j)) fun d e P h => by
  unfold gLt at h
  split at h
  · exact ⟨_, _, rfl, rfl, h⟩
  · exact h.elim
theorem g_le : GOp K (rI0 fun i j => .bl (decide (i ≤ j))) gLe := gop_rB0 (f := fun i j => decide (i ≤ j)) fun d e P h => by
  unfold gLe at h
  split at h
  · exact ⟨_, _, rfl, rfl, h⟩
  · exact h.elim
theorem g_gt : GOp K (rI0 fun i j => .bl (decide (j < i))) gGt := gop_rB0 (f := fun i j => decide (j < i)) fun d e P h => by
  unfold gGt at h
  split at h
  · exact ⟨_, _, rfl, rfl, h⟩
  · exact h.elim
theorem g_ge : GOp K (rI0 fun i j => .bl (decide (j ≤ i))) gGe := gop_rB0 (f := fun i j => decide (j ≤ i)) fun d e P h => by
  unfold gGe at h
  split at h
  · exact ⟨_, _, rfl, rfl, h⟩
  · exact h.elim
/-- is None -/
def isNon : D → Option Bool
  | .non => some true
  | .raw _ => none
  | _ => some false
def gIsN (neg : Bool) : D → D → (D → Prop) → Prop := fun d e P => match e with
  | .non => match isNon d with
    | some b => P (.bl (if neg then !b else b))
    | none => False
  | _ => False
theorem isNon_of {G : Hp} {x : V} {d : D} {b : Bool} (h : Dp K G x d) (e : isNon d = some b) : decide (x = .non) = b := by
  cases h <;> first
    | (have e' := Option.some.inj e; subst e'; simp; done)
    | (have e' := Option.some.inj e; subst e'; exact decide_eq_true rfl)
    | cases e
theorem g_isN : GOp K (fun x y H Q => y = .non ∧ Q (.bl (decide (x = .non))) H) (gIsN false) := by
  intro G H x y d e P Q sm dx dy gp k
  unfold gIsN at gp
  split at gp
  · cases dy
    split at gp
    · rename_i b hb
      rw [isNon_of dx hb]
      exact ⟨rfl, k _ _ _ _ gp (Grow.refl sm) (.bl _)⟩
    · exact gp.elim
  · exact gp.elim
theorem g_notN : GOp K (fun x y H Q => y = .non ∧ Q (.bl (!decide (x = .non))) H) (gIsN true) := by
  intro G H x y d e P Q sm dx dy gp k
  unfold gIsN at gp
  split at gp
  · cases dy
    split at gp
    · rename_i b hb
      rw [isNon_of dx hb]
      exact ⟨rfl, k _ _ _ _ gp (Grow.refl sm) (.bl _)⟩
    · exact gp.elim
  · exact gp.elim
end

/-! ### == of data -/
mutual
def toP : D → PyData
  | .non => .none
  | .bl b => .bool b
  | .int i => .int i
  | .str x => .str x
  | .raw _ => .none
  | .tup xs => .tuple (toPs xs)
  | .lst xs => .list (toPs xs)
  | .scr ns => .list (ns.map .int)
  | .fn _ => .none
  | .err _ _ => .none
def toPs : List D → List PyData
  | [] => []
  | x :: xs => toP x :: toPs xs
end
mutual
/-- data without strange values, not deeper than n -/
def okd : Nat → D → Bool
  | _, .raw _ => false
  | n, .tup xs => match n with
    | 0 => false
    | n + 1 => okds n xs
  | n, .lst xs => match n with
    | 0 => false
    | n + 1 => okds n xs
  | _, .scr _ => false
  | _, .fn _ => false
  | _, .err _ _ => false
  | _, _ => true
def okds : Nat → List D → Bool
  | _, [] => true
  | n, x :: xs => okd n x && okds n xs
end
/-- whether two data are equal to Python -/
def deq (d e : D) : Bool := PyData.eqv (toP d) (toP e)
def deqs (ds es : List D) : Bool := PyData.eqvAll (toPs ds) (toPs es)
theorem plain_ints : ∀ ns : List Int, PyData.plainAll (ns.map PyData.int) = true
  | [] => rfl
  | _ :: ns => plain_ints ns
theorem depth_ints : ∀ ns : List Int, PyData.depthAll (ns.map PyData.int) = 0
  | [] => by simp [PyData.depthAll]
  | _ :: ns => by
    have ih := depth_ints ns
    simp only [List.map_cons, PyData.depthAll, PyData.depth, ih]
    rfl
mutual
theorem plain_toP : ∀ (n : Nat) (d : D), okd n d = true → (toP d).plain = true ∧ (toP d).depth ≤ n
  | n, .non, _ => ⟨rfl, Nat.zero_le _⟩
  | n, .bl _, _ => ⟨rfl, Nat.zero_le _⟩
  | n, .int _, _ => ⟨rfl, Nat.zero_le _⟩
  | n, .str _, _ => ⟨rfl, Nat.zero_le _⟩
  | n, .raw _, h => by simp [okd] at h
  | 0, .tup xs, h => by simp [okd] at h
  | n + 1, .tup xs, h => by
    have h' : okds n xs = true := by simpa [okd] using h
    obtain ⟨a, b⟩ := plain_toPs n xs h'
    refine ⟨?_, ?_⟩
    · show PyData.plainAll (toPs xs) = true
      exact a
    · show PyData.depthAll (toPs xs) + 1 ≤ n + 1
      omega
  | 0, .lst xs, h => by simp [okd] at h
  | n + 1, .lst xs, h => by
    have h' : okds n xs = true := by simpa [okd] using h
    obtain ⟨a, b⟩ := plain_toPs n xs h'
    refine ⟨?_, ?_⟩
    · show PyData.plainAll (toPs xs) = true
      exact a
    · show PyData.depthAll (toPs xs) + 1 ≤ n + 1
      omega
  | 0, .scr _, h => by simp [okd] at h
  | n + 1, .scr ns, _ => by
    refine ⟨?_, ?_⟩
    · show PyData.plainAll (ns.map PyData.int) = true
      exact plain_ints ns
    · show PyData.depthAll (ns.map PyData.int) + 1 ≤ n + 1
      rw [depth_ints]
      omega
  | n, .fn _, h => by simp [okd] at h
  | n, .err _ _, h => by simp [okd] at h
theorem plain_toPs : ∀ (n : Nat) (ds : List D), okds n ds = true → PyData.plainAll (toPs ds) = true ∧ PyData.depthAll (toPs ds) ≤ n
  | n, [], _ => ⟨rfl, by simp [toPs, PyData.depthAll]⟩
  | n, x :: xs, h => by
    have h' : okd n x = true ∧ okds n xs = true := by simpa [okds] using h
    obtain ⟨a, b⟩ := plain_toP n x h'.1
    obtain ⟨c, d⟩ := plain_toPs n xs h'.2
    refine ⟨?_, ?_⟩
    · show ((toP x).plain && PyData.plainAll (toPs xs)) = true
      rw [a, c]
      rfl
    · show max (toP x).depth (PyData.depthAll (toPs xs)) ≤ n
      omega
end
section
variable {K : PySem.W.Frag} {G H : Hp}
theorem sql_up {G H : Hp} {p : Addr} {vs : List V} (e : Same G H) (h : SqL K G p vs) : SqL K H p vs := e.seq h
theorem dpall_ints (H : Hp) : ∀ ns : List Int, L2.DpAll K H (ns.map V.int) (ns.map PyData.int)
  | [] => .nil
  | n :: ns => .cons (.int n) (dpall_ints H ns)
mutual
theorem Dp.l2 (sm : Same G H) : ∀ (n : Nat) (d : D) (v : V), Dp K G v d → okd n d = true → L2.Dp K H v (toP d)
  | n, .non, _, h, _ => by cases h; exact .non
  | n, .bl _, _, h, _ => by cases h; exact .bl _
  | n, .int _, _, h, _ => by cases h; exact .int _
  | n, .str _, _, h, _ => by cases h; exact .str _
  | n, .raw _, _, _, o => by simp [okd] at o
  | 0, .tup _, _, _, o => by simp [okd] at o
  | n + 1, .tup xs, _, h, o => by
    cases h with
    | tup a l r =>
      have o' : okds n xs = true := by simpa [okd] using o
      exact .tup (same_t sm a) (Dps.l2 sm n xs _ r o')
  | 0, .lst _, _, _, o => by simp [okd] at o
  | n + 1, .lst xs, _, h, o => by
    cases h with
    | lst a l r =>
      have o' : okds n xs = true := by simpa [okd] using o
      exact .lst (SqL.of (sm _ _ a)) (Dps.l2 sm n xs _ r o')
  | n, .scr ns, _, h, _ => by
    cases h with
    | scr a => exact .lst (sm.seq a) (dpall_ints H ns)
  | n, .fn _, _, _, o => by simp [okd] at o
  | n, .err _ _, _, _, o => by simp [okd] at o
theorem Dps.l2 (sm : Same G H) : ∀ (n : Nat) (ds : List D) (vs : List V), Dps K G vs ds → okds n ds = true → L2.DpAll K H vs (toPs ds)
  | n, [], _, h, _ => by cases h; exact .nil
  | n, d :: ds, _, h, o => by
    cases h with
    | cons a r =>
      have o' : okd n d = true ∧ okds n ds = true := by simpa [okds] using o
      exact .cons (Dp.l2 sm n d _ a o'.1) (Dps.l2 sm n ds _ r o'.2)
end
end
/-- == by data that are plain -/
def rEqP (K : PySem.W.Frag) : R2 := fun x y H Q => ∃ d e, L2.Dp K H x d ∧ L2.Dp K H y e ∧ d.plain = true ∧ e.plain = true ∧ d.depth ≤ 60 ∧ Q (.bl (PyData.eqv d e)) H
def rNeP (K : PySem.W.Frag) : R2 := fun x y H Q => ∃ d e, L2.Dp K H x d ∧ L2.Dp K H y e ∧ d.plain = true ∧ e.plain = true ∧ d.depth ≤ 60 ∧ Q (.bl (!PyData.eqv d e)) H
section
variable {X : Cx}
theorem op_eqP (hu : X.A.units + 64 < cLine) : OpR X (compareOp .Eq) (rEqP X.K) := by
  intro pins s σ H x y v u Q I rx ry h
  obtain ⟨d, e, hd, he, sd, se, dp, q⟩ := h
  obtain ⟨as_, r1⟩ := L2.Dp.reads I d x v hd rx
  obtain ⟨bs, r2⟩ := L2.Dp.reads I e y u he ry
  have h2 : min d.depth e.depth ≤ d.depth := Nat.min_le_left _ _
  exact SeqAt.eq_plain r1 r2 sd se (by omega) ⟨.bl _, H, I, rfl, q⟩
theorem op_neP (hu : X.A.units + 64 < cLine) : OpR X (compareOp .NotEq) (rNeP X.K) := by
  intro pins s σ H x y v u Q I rx ry h
  obtain ⟨d, e, hd, he, sd, se, dp, q⟩ := h
  obtain ⟨as_, r1⟩ := L2.Dp.reads I d x v hd rx
  obtain ⟨bs, r2⟩ := L2.Dp.reads I e y u he ry
  have h2 : min d.depth e.depth ≤ d.depth := Nat.min_le_left _ _
  exact SeqAt.ne_plain r1 r2 sd se (by omega) ⟨.bl _, H, I, rfl, q⟩
end
def gEq : D → D → (D → Prop) → Prop := fun d e P => okd 60 d = true ∧ okd 60 e = true ∧ P (.bl (deq d e))
def gNe : D → D → (D → Prop) → Prop := fun d e P => okd 60 d = true ∧ okd 60 e = true ∧ P (.bl (!deq d e))
section
variable {K : PySem.W.Frag}
theorem g_eq : GOp K (rEqP K) gEq := by
  intro G H x y d e P Q sm dx dy gp k
  obtain ⟨o1, o2, p⟩ := gp
  exact ⟨toP d, toP e, Dp.l2 sm 60 d x dx o1, Dp.l2 sm 60 e y dy o2, (plain_toP 60 d o1).1, (plain_toP 60 e o2).1, (plain_toP 60 d o1).2, k _ _ _ _ p (Grow.refl sm) (.bl _)⟩
theorem g_ne : GOp K (rNeP K) gNe := by
  intro G H x y d e P Q sm dx dy gp k
  obtain ⟨o1, o2, p⟩ := gp
  exact ⟨toP d, toP e, Dp.l2 sm 60 d x dx o1, Dp.l2 sm 60 e y dy o2, (plain_toP 60 d o1).1, (plain_toP 60 e o2).1, (plain_toP 60 d o1).2, k _ _ _ _ p (Grow.refl sm) (.bl _)⟩
end

/-! ### in -/
def rInP (K : PySem.W.Frag) (neg : Bool) : R2 := fun x y H Q => ∃ d es, L2.Dp K H x d ∧ (L2.Dp K H y (.list es) ∨ L2.Dp K H y (.tuple es)) ∧ d.plain = true ∧ PyData.plainAll es = true ∧ d.depth ≤ 60 ∧ Q (.bl (if neg then !(es.any fun z => PyData.eqv z d) else es.any fun z => PyData.eqv z d)) H
section
variable {X : Cx}
theorem op_inP (hu : X.A.units + 64 < cLine) : OpR X (compareOp .In) (rInP X.K false) := by
  intro pins s σ H x y v u Q I rx ry h
  obtain ⟨d, es, hd, he, sd, se, dp, q⟩ := h
  obtain ⟨as_, r1⟩ := L2.Dp.reads I d x v hd rx
  have h2 : min (PyData.depthAll es) d.depth ≤ d.depth := Nat.min_le_right _ _
  rcases he with he | he
  · obtain ⟨bs, r2⟩ := L2.Dp.reads I _ y u he ry
    exact SeqAt.in_list_data r2 r1 se sd (by omega) ⟨.bl _, H, I, rfl, q⟩
  · obtain ⟨bs, r2⟩ := L2.Dp.reads I _ y u he ry
    exact SeqAt.in_tuple_data r2 r1 se sd (by omega) ⟨.bl _, H, I, rfl, q⟩
theorem op_ninP (hu : X.A.units + 64 < cLine) : OpR X (compareOp .NotIn) (rInP X.K true) := by
  intro pins s σ H x y v u Q I rx ry h
  obtain ⟨d, es, hd, he, sd, se, dp, q⟩ := h
  obtain ⟨as_, r1⟩ := L2.Dp.reads I d x v hd rx
  have h2 : min (PyData.depthAll es) d.depth ≤ d.depth := Nat.min_le_right _ _
  rcases he with he | he
  · obtain ⟨bs, r2⟩ := L2.Dp.reads I _ y u he ry
    exact SeqAt.notIn_list_data r2 r1 se sd (by omega) ⟨.bl _, H, I, rfl, q⟩
  · obtain ⟨bs, r2⟩ := L2.Dp.reads I _ y u he ry
    exact SeqAt.notIn_tuple_data r2 r1 se sd (by omega) ⟨.bl _, H, I, rfl, q⟩
end
/-- whether one of es is equal to d -/
def dmem (d : D) (es : List D) : Bool := es.any fun z => deq z d
def gIn (neg : Bool) : D → D → (D → Prop) → Prop
  | d, .tup es, P => okd 60 d = true ∧ okds 60 es = true ∧ P (.bl (if neg then !dmem d es else dmem d es))
  | d, .lst es, P => okd 60 d = true ∧ okds 60 es = true ∧ P (.bl (if neg then !dmem d es else dmem d es))
  | _, _, _ => False
theorem toPs_any (d : D) : ∀ es : List D, ((toPs es).any fun z => PyData.eqv z (toP d)) = dmem d es
  | [] => rfl
  | e :: es => by
    show (PyData.eqv (toP e) (toP d) || (toPs es).any _) = (deq e d || es.any _)
    rw [toPs_any d es]
    rfl
section
variable {K : PySem.W.Frag}
theorem g_in (neg : Bool) : GOp K (rInP K neg) (gIn neg) := by
  intro G H x y d e P Q sm dx dy gp k
  unfold gIn at gp
  split at gp
  · rename_i es
    obtain ⟨o1, o2, p⟩ := gp
    refine ⟨toP d, toPs es, Dp.l2 sm 60 d x dx o1, .inr (show L2.Dp K H y (toP (.tup es)) from Dp.l2 sm 61 _ y dy (by simpa [okd] using o2)), (plain_toP 60 d o1).1, (plain_toPs 60 es o2).1, (plain_toP 60 d o1).2, ?_⟩
    rw [toPs_any]
    exact k _ _ _ _ p (Grow.refl sm) (.bl _)
  · rename_i es
    obtain ⟨o1, o2, p⟩ := gp
    refine ⟨toP d, toPs es, Dp.l2 sm 60 d x dx o1, .inl (show L2.Dp K H y (toP (.lst es)) from Dp.l2 sm 61 _ y dy (by simpa [okd] using o2)), (plain_toP 60 d o1).1, (plain_toPs 60 es o2).1, (plain_toP 60 d o1).2, ?_⟩
    rw [toPs_any]
    exact k _ _ _ _ p (Grow.refl sm) (.bl _)
  · exact gp.elim
end
end DL
set_option Elab.async false
set_option linter.all false
set_option maxRecDepth 100000
set_option maxHeartbeats 4000000
set_option autoImplicit false
/-! The data level: subscripts, slices, calls. -/
namespace DL
open PySem PySem.Spec PyProof.Rows L2

/-! ### subscripts -/
def gIx : D → D → (D → Prop) → Prop
  | .tup xs, .int i, P => match atI xs i with
    | some d => P d
    | none => False
  | .lst xs, .int i, P => match atI xs i with
    | some d => P d
    | none => False
  | .scr ns, .int i, P => match atI ns i with
    | some n => P (.int n)
    | none => False
  | .str z, .int i, P => z.length ≤ sizeLine ∧ match atI z.cps.toList i with
    | some c => P (.str ⟨#[c]⟩)
    | none => False
  | _, _, _ => False
section
variable {K : PySem.W.Frag} {G H : Hp}
theorem Dps.atI {vs : List V} {ds : List D} {i : Int} {d : D} (h : Dps K G vs ds) (e : atI ds i = some d) : ∃ v, L2.atI vs i = some v ∧ Dp K G v d := by
  unfold L2.atI at e ⊢
  rw [← h.len] at e
  cases q : ixN vs.length i with
  | none =>
    rw [q] at e
    cases e
  | some j =>
    rw [q] at e
    exact h.get e
theorem atI_map {ns : List Int} {i n : Int} (e : atI ns i = some n) : atI (ns.map V.int) i = some (.int n) := by
  unfold L2.atI at e ⊢
  rw [List.length_map]
  cases q : ixN ns.length i with
  | none =>
    rw [q] at e
    cases e
  | some j =>
    rw [q] at e
    show (ns.map V.int)[j]? = _
    rw [List.getElem?_map, show ns[j]? = some n from e]
    rfl
theorem g_ix : GOp K (rIx K) gIx := by
  intro G H x y d e P Q sm dx dy gp k
  unfold gIx at gp
  split at gp
  · cases dy
    cases dx with
    | tup a l r =>
      split at gp
      · rename_i z hz
        obtain ⟨v, hv, dv⟩ := r.atI hz
        exact .inr (.inl ⟨_, _, _, v, rfl, rfl, same_t sm a, hv, k _ _ _ _ gp (Grow.refl sm) dv⟩)
      · exact gp.elim
  · cases dy
    cases dx with
    | lst a l r =>
      split at gp
      · rename_i z hz
        obtain ⟨v, hv, dv⟩ := r.atI hz
        exact .inl ⟨_, _, _, v, rfl, rfl, SqL.of (sm _ _ a), hv, k _ _ _ _ gp (Grow.refl sm) dv⟩
      · exact gp.elim
  · cases dy
    cases dx with
    | scr a =>
      split at gp
      · rename_i z hz
        exact .inl ⟨_, _, _, _, rfl, rfl, sm.seq a, atI_map hz, k _ _ _ _ gp (Grow.refl sm) (.int _)⟩
      · exact gp.elim
  · cases dy
    cases dx
    obtain ⟨lz, gp⟩ := gp
    split at gp
    · rename_i z hz
      exact .inr (.inr ⟨_, _, _, rfl, rfl, lz, hz, k _ _ _ _ gp (Grow.refl sm) (.str _)⟩)
    · exact gp.elim
  · exact gp.elim
end
section
variable {X : Cx} {W : WX}
theorem de_ix {a b : Expr} {fa fb : DE} {pos : Pos} (ha : PE X a (lE X.K W fa)) (hb : PE X b (lE X.K W fb)) (hs : PlainIx b := by exact fun _ _ => rfl) : PE X (.Subscript a b pos) (lE X.K W (dBin gIx fa fb)) :=
  pe_imp (pe_ix ix_seq ha hb hs) (bin_core g_ix)
end

/-! ### slices -/
abbrev DO := XP → Env → (Option Int → Env → Prop) → Prop
def lO (K : PySem.W.Frag) (W : WX) (f : DO) : TO := fun σ H Q => ∃ ρ G la P X, Re K G H la σ ρ ∧ f X ρ P ∧ (∀ b ρ' G' la' H', P b ρ' → Aft K G la σ ρ' G' la' H' → Q b H') ∧ XO K G la W X
def dNo : DO := fun _ ρ Q => Q none ρ
def dSo (f : DE) : DO := fun X ρ Q => f X ρ fun d ρ' => match d with
  | .int i => Q (some i) ρ'
  | _ => False
def cutL {α : Type} (xs : List α) (lo hi : Option Int) : List α := (xs.drop (HT.sIx xs.length 0 lo)).take (HT.sIx xs.length xs.length hi - HT.sIx xs.length 0 lo)
def gSl : D → Option Int → Option Int → (D → Prop) → Prop
  | .tup xs, lo, hi, P => P (.tup (cutL xs lo hi))
  | .lst xs, lo, hi, P => P (.lst (cutL xs lo hi))
  | .str z, lo, hi, P => z.length ≤ sizeLine ∧ P (.str (cutS z lo hi))
  | _, _, _, _ => False
def dSl (fe : DE) (fl fh : DO) : DE := fun X ρ Q => fe X ρ fun d ρ1 => fl X ρ1 fun lo ρ2 => fh X ρ2 fun hi ρ3 => gSl d lo hi fun z => Q z ρ3
section
variable {K : PySem.W.Frag} {G H : Hp}
theorem cutL_len {α : Type} (xs : List α) (lo hi : Option Int) : (cutL xs lo hi).length ≤ xs.length := by
  unfold cutL
  rw [List.length_take, List.length_drop]
  omega
theorem cut_dps {vs : List V} {ds : List D} (h : Dps K G vs ds) (lo hi : Option Int) : Dps K G (cutV vs lo hi) (cutL ds lo hi) := by
  unfold cutV cutL
  rw [h.len]
  exact (h.drop _).take _
theorem cut_all {α : Type} {xs : List α} {lo hi : Option Int} (h : HT.sIx xs.length 0 lo = 0 ∧ HT.sIx xs.length xs.length hi = xs.length) : cutL xs lo hi = xs := by
  unfold cutL
  rw [h.1, h.2, List.drop_zero, Nat.sub_zero, List.take_length]
end
section
variable {X : Cx} {W : WX}
theorem do_none : PO X none (lO X.K W dNo) := ⟨fun pins s σ H Q I h => (po_none (X := X)).run pins s σ H Q I (by
  obtain ⟨ρ, G, la, P, XX, r, f, q, _⟩ := h
  exact q _ _ _ _ _ f (Aft.refl r))⟩
theorem do_some {e : Expr} {f : DE} (h : PE X e (lE X.K W f)) : PO X (some e) (lO X.K W (dSo f)) := ⟨fun pins s σ H Q I hq => (po_some h).run pins s σ H Q I (by
  obtain ⟨ρ, G, la, P, XX, r, f, q, xo⟩ := hq
  exact ⟨ρ, G, la, _, XX, r, f, fun d ρ1 v G1 la1 H1 p1 a1 z1 => by
    cases d with
    | int i =>
      cases z1
      exact ⟨i, rfl, q _ _ _ _ _ (show P (some i) ρ1 from p1) a1⟩
    | _ => exact (show False from p1).elim, xo⟩)⟩
theorem de_sl {e : Expr} {lo hi : Option Expr} {fe : DE} {fl fh : DO} {p2 pos : Pos} (he : PE X e (lE X.K W fe)) (hl : PO X lo (lO X.K W fl)) (hh : PO X hi (lO X.K W fh)) : PE X (.Subscript e (.Slice lo hi none p2) pos) (lE X.K W (dSl fe fl fh)) :=
  pe_imp (pe_slice (sl_list.or (sl_tupA.or sl_str)) he hl hh) fun σ H Q ⟨ρ, G, la, P, XX, r, h, q, xo⟩ => ⟨ρ, G, la, _, XX, r, h, fun d ρ1 v G1 la1 H1 p1 a1 z1 => ⟨ρ1, G1, la1, _, XX, a1.r, p1, fun l ρ2 G2 la2 H2 p2 a2 => ⟨ρ2, G2, la2, _, XX, a2.r, p2, fun u ρ3 G3 la3 H3 p3 a3 => by
    have a4 := (a1.trans a2).trans a3
    have dz := (z1.up a2.g).up a3.g
    have sm := a3.r.ext
    have p3' : gSl d l u fun z => P z ρ3 := p3
    unfold gSl at p3'
    split at p3'
    · cases dz with
      | tup a lz rr =>
        refine .inr (.inl ⟨_, _, rfl, same_t sm a, fun w => ?_, fun w p hp => ?_⟩)
        · rw [rr.len] at w
          rw [cut_all w] at p3'
          exact q _ _ _ _ _ _ p3' a4 (.tup a lz rr)
        · exact q _ _ _ _ _ _ p3' (a4.grow (Grow.new sm hp)) (.tup (.inl (.inl upd_same)) (Nat.le_trans (cutV_length _ _ _) lz) ((cut_dps rr _ _).up (Grow.new sm hp).g))
    · cases dz with
      | lst a lz rr =>
        refine .inl ⟨_, _, rfl, SqL.of (sm _ _ a), fun p hp => ?_⟩
        exact q _ _ _ _ _ _ p3' (a4.grow (Grow.new sm hp)) (.lst upd_same (Nat.le_trans (cutV_length _ _ _) lz) ((cut_dps rr _ _).up (Grow.new sm hp).g))
    · cases dz
      exact .inr (.inr ⟨_, rfl, p3'.1, q _ _ _ _ _ _ p3'.2 a4 (.str _)⟩)
    · exact p3'.elim, xo.up (a1.trans a2).g (a1.trans a2).p⟩, xo.up a1.g a1.p⟩, xo⟩
end

/-! ### built-ins that are called -/
/-- r on values does what g does on data -/
def COp (K : PySem.W.Frag) (r : List V → Hp → VK → Prop) (g : List D → (D → Prop) → Prop) : Prop := ∀ (G H : Hp) (vs : List V) (ds : List D) (P : D → Prop) (Q : VK), Same G H → Dps K G vs ds → g ds P →
  (∀ z v G' H', P z → Grow G H G' H' → Dp K G' v z → Q v H') → r vs H Q
def dCB (g : List D → (D → Prop) → Prop) (fa : DA) : DE := fun X ρ Q => fa X ρ fun xs ρ' => match dats xs with
  | some ds => g ds fun z => Q z ρ'
  | none => False
section
variable {X : Cx} {W : WX} {e : Expr} {es : List Expr} {x : Str} {p pos : Pos} {r : List V → Hp → VK → Prop} {g : List D → (D → Prop) → Prop} {fa : DA}
theorem cb_core {K : PySem.W.Frag} {r : List V → Hp → VK → Prop} {g : List D → (D → Prop) → Prop} {fa : DA} (hg : COp K r g) : ∀ (σ : L2.St) (H : Hp) (Q : VK), lE K W (dCB g fa) σ H Q → tCB r (lA K W fa) σ H Q := fun σ H Q ⟨ρ, G, la, P, XX, re, h, q, xo⟩ =>
  ⟨ρ, G, la, _, XX, re, h, fun xs ρ1 vs G1 la1 H1 p1 a1 z1 => by
    have p1' : (match dats xs with
      | some ds => g ds fun z => P z ρ1
      | none => False) := p1
    split at p1'
    · rename_i ds hd
      exact hg G1 H1 vs ds _ Q a1.r.ext (dats_of z1 hd) p1' fun z w G' H' pz gr dz => q _ _ _ _ _ _ pz (a1.grow gr) dz
    · exact p1'.elim, xo⟩
theorem de_cb {id : String} (hc : CallR X (.builtin id) r) (hg : COp X.K r g) (hm : X.mg x = none) (hv : bootBuiltins x = some (.builtin id)) (ha : PA X (e :: es) (lA X.K W fa)) (hgl : Gl X x := by rfl) (hn : x ≠ "__name__" := by decide) (hdb : (x == ("__debug__" : Str)) = false := by decide)
    (he : starEach (e :: es) X.env = (false, eval e X.env) :: starEach es X.env := by rfl) (hpl : (backTo pos (starEach es X.env)).any (·.1) = false := by rfl) : PE X (.Call (.Name x p) (e :: es) [] pos) (lE X.K W (dCB g fa)) :=
  pe_imp (pe_callB hc hgl hm hv ha hn hdb he hpl) (cb_core hg)
theorem de_cty {T : String} (hc : CallR X (.type T) r) (hg : COp X.K r g) (hm : X.mg x = none) (hv : bootBuiltins x = some (.type T)) (ha : PA X (e :: es) (lA X.K W fa)) (hgl : Gl X x := by rfl) (hn : x ≠ "__name__" := by decide) (hdb : (x == ("__debug__" : Str)) = false := by decide)
    (he : starEach (e :: es) X.env = (false, eval e X.env) :: starEach es X.env := by rfl) (hpl : (backTo pos (starEach es X.env)).any (·.1) = false := by rfl) : PE X (.Call (.Name x p) (e :: es) [] pos) (lE X.K W (dCB g fa)) :=
  pe_imp (pe_callTy hc hgl hm hv ha hn hdb he hpl) (cb_core hg)
end
/-- len -/
def gLen : List D → (D → Prop) → Prop
  | [.tup xs], P => P (.int xs.length)
  | [.lst xs], P => P (.int xs.length)
  | [.scr ns], P => P (.int ns.length)
  | [.str z], P => z.length ≤ sizeLine ∧ P (.int z.length)
  | _, _ => False
def gAbs : List D → (D → Prop) → Prop
  | [.int i], P => P (.int (if i < 0 then -i else i))
  | _, _ => False
def gInt : List D → (D → Prop) → Prop
  | [.int i], P => P (.int i)
  | [.bl k], P => P (.int (if k then 1 else 0))
  | _, _ => False
def gMax2 : List D → (D → Prop) → Prop
  | [.int i, .int j], P => P (.int (if j > i then j else i))
  | _, _ => False
def gMin2 : List D → (D → Prop) → Prop
  | [.int i, .int j], P => P (.int (if j < i then j else i))
  | _, _ => False
def gTuple : List D → (D → Prop) → Prop
  | [.tup xs], P => P (.tup xs)
  | [.lst xs], P => P (.tup xs)
  | _, _ => False
def gList : List D → (D → Prop) → Prop
  | [.tup xs], P => P (.lst xs)
  | [.lst xs], P => P (.lst xs)
  | _, _ => False
/-- the ints of a list of data -/
def intsOf : List D → Option (List Int)
  | [] => some []
  | .int i :: r => (intsOf r).map (i :: ·)
  | _ :: _ => none
def maxOf : Int → List Int → Int
  | m, [] => m
  | m, x :: r => maxOf (if x > m then x else m) r
def minOf : Int → List Int → Int
  | m, [] => m
  | m, x :: r => minOf (if x < m then x else m) r
def gMax : List D → (D → Prop) → Prop
  | [.lst xs], P => match intsOf xs with
    | some (n :: ns) => P (.int (maxOf n ns))
    | _ => False
  | _, _ => False
def gMin : List D → (D → Prop) → Prop
  | [.lst xs], P => match intsOf xs with
    | some (n :: ns) => P (.int (minOf n ns))
    | _ => False
  | _, _ => False
/-- isinstance -/
def tyD : D → Option String
  | .non => some "NoneType"
  | .bl _ => some "bool"
  | .int _ => some "int"
  | .str _ => some "str"
  | .tup _ => some "tuple"
  | .lst _ => some "list"
  | _ => none
def isiD (t : String) (n : String) : Bool := t == n || (t == "bool" && n == "int")
def gIsi : List D → (D → Prop) → Prop
  | [d, .raw (.ty n)], P => match tyD d with
    | some t => (n = "int" ∨ n = "bool" ∨ n = "str" ∨ n = "tuple" ∨ n = "list") ∧ P (.bl (isiD t n))
    | none => False
  | _, _ => False
section
variable {K : PySem.W.Frag} {G H : Hp}
theorem intsOf_of : ∀ {vs : List V} {ds : List D} {ns : List Int}, Dps K G vs ds → intsOf ds = some ns → vs = ns.map V.int
  | _, _, _, .nil, h => by
    have e := Option.some.inj h
    subst e
    rfl
  | _, .int i :: r, _, .cons a s, h => by
    have h' : (intsOf r).map (i :: ·) = some _ := h
    obtain ⟨t, ht, e⟩ := Option.map_eq_some_iff.mp h'
    subst e
    cases a
    rw [intsOf_of s ht]
    rfl
  | _, .non :: _, _, .cons _ _, h => by cases h
  | _, .bl _ :: _, _, .cons _ _, h => by cases h
  | _, .str _ :: _, _, .cons _ _, h => by cases h
  | _, .raw _ :: _, _, .cons _ _, h => by cases h
  | _, .tup _ :: _, _, .cons _ _, h => by cases h
  | _, .lst _ :: _, _, .cons _ _, h => by cases h
  | _, .scr _ :: _, _, .cons _ _, h => by cases h
  | _, .fn _ :: _, _, .cons _ _, h => by cases h
  | _, .err _ _ :: _, _, .cons _ _, h => by cases h
theorem maxOf_ge : ∀ (ns : List Int) (m : Int), m ≤ maxOf m ns ∧ (∀ y ∈ ns, y ≤ maxOf m ns) ∧ (maxOf m ns = m ∨ maxOf m ns ∈ ns)
  | [], m => ⟨Int.le_refl _, fun _ h => by simp at h, .inl rfl⟩
  | x :: r, m => by
    obtain ⟨a, b, c⟩ := maxOf_ge r (if x > m then x else m)
    unfold maxOf
    have hx : x ≤ (if x > m then x else m) ∧ m ≤ (if x > m then x else m) := by split <;> omega
    refine ⟨Int.le_trans hx.2 a, fun y hy => ?_, ?_⟩
    · rcases List.mem_cons.mp hy with e | hy
      · rw [e]
        exact Int.le_trans hx.1 a
      · exact b y hy
    · rcases c with c | c
      · by_cases q : x > m
        · rw [if_pos q] at c
          rw [if_pos q, c]
          exact .inr List.mem_cons_self
        · rw [if_neg q] at c
          rw [if_neg q, c]
          exact .inl rfl
      · exact .inr (List.mem_cons_of_mem _ c)
theorem minOf_le : ∀ (ns : List Int) (m : Int), minOf m ns ≤ m ∧ (∀ y ∈ ns, minOf m ns ≤ y) ∧ (minOf m ns = m ∨ minOf m ns ∈ ns)
  | [], m => ⟨Int.le_refl _, fun _ h => by simp at h, .inl rfl⟩
  | x :: r, m => by
    obtain ⟨a, b, c⟩ := minOf_le r (if x < m then x else m)
    unfold minOf
    have hx : (if x < m then x else m) ≤ x ∧ (if x < m then x else m) ≤ m := by split <;> omega
    refine ⟨Int.le_trans a hx.2, fun y hy => ?_, ?_⟩
    · rcases List.mem_cons.mp hy with e | hy
      · rw [e]
        exact Int.le_trans a hx.1
      · exact b y hy
    · rcases c with c | c
      · by_cases q : x < m
        · rw [if_pos q] at c
          rw [if_pos q, c]
          exact .inr List.mem_cons_self
        · rw [if_neg q] at c
          rw [if_neg q, c]
          exact .inl rfl
      · exact .inr (List.mem_cons_of_mem _ c)
theorem one_of {vs : List V} {d : D} (h : Dps K G vs [d]) : ∃ v, vs = [v] ∧ Dp K G v d := by
  cases h with
  | cons a r =>
    cases r
    exact ⟨_, rfl, a⟩
theorem two_of {vs : List V} {d e : D} (h : Dps K G vs [d, e]) : ∃ v u, vs = [v, u] ∧ Dp K G v d ∧ Dp K G u e := by
  cases h with
  | cons a r =>
    obtain ⟨u, rfl, b⟩ := one_of r
    exact ⟨_, _, rfl, a, b⟩
theorem c_len : COp K (fun xs H Q => ∃ x n, xs = [x] ∧ LenV K x H n ∧ Q (.int n) H) gLen := by
  intro G H vs ds P Q sm h gp k
  unfold gLen at gp
  split at gp
  · obtain ⟨v, rfl, a⟩ := one_of h
    cases a with
    | tup a l r =>
      rw [← r.len] at gp
      exact ⟨_, _, rfl, .inr ⟨_, same_t sm a, rfl⟩, k _ _ _ _ gp (Grow.refl sm) (.int _)⟩
  · obtain ⟨v, rfl, a⟩ := one_of h
    cases a with
    | lst a l r =>
      rw [← r.len] at gp
      exact ⟨_, _, rfl, .inl ⟨_, SqL.of (sm _ _ a), rfl⟩, k _ _ _ _ gp (Grow.refl sm) (.int _)⟩
  · obtain ⟨v, rfl, a⟩ := one_of h
    cases a with
    | scr a =>
      refine ⟨_, _, rfl, .inl ⟨_, sm.seq a, rfl⟩, ?_⟩
      rw [List.length_map]
      exact k _ _ _ _ gp (Grow.refl sm) (.int _)
  · obtain ⟨v, rfl, a⟩ := one_of h
    cases a
    exact ⟨_, _, rfl, ⟨gp.1, rfl⟩, k _ _ _ _ gp.2 (Grow.refl sm) (.int _)⟩
  · exact gp.elim
theorem c_abs : COp K (fun xs H Q => ∃ i, xs = [.int i] ∧ Q (.int (if i < 0 then -i else i)) H) gAbs := by
  intro G H vs ds P Q sm h gp k
  unfold gAbs at gp
  split at gp
  · obtain ⟨v, rfl, a⟩ := one_of h
    cases a
    exact ⟨_, rfl, k _ _ _ _ gp (Grow.refl sm) (.int _)⟩
  · exact gp.elim
theorem c_int : COp K (fun xs H Q => (∃ i, xs = [.int i] ∧ Q (.int i) H) ∨ ∃ k, xs = [.bl k] ∧ Q (.int (if k then 1 else 0)) H) gInt := by
  intro G H vs ds P Q sm h gp k
  unfold gInt at gp
  split at gp
  · obtain ⟨v, rfl, a⟩ := one_of h
    cases a
    exact .inl ⟨_, rfl, k _ _ _ _ gp (Grow.refl sm) (.int _)⟩
  · obtain ⟨v, rfl, a⟩ := one_of h
    cases a
    exact .inr ⟨_, rfl, k _ _ _ _ gp (Grow.refl sm) (.int _)⟩
  · exact gp.elim
theorem c_max2 : COp K (fun xs H Q => ∃ i j, xs = [.int i, .int j] ∧ Q (.int (if j > i then j else i)) H) gMax2 := by
  intro G H vs ds P Q sm h gp k
  unfold gMax2 at gp
  split at gp
  · obtain ⟨v, u, rfl, a, b⟩ := two_of h
    cases a
    cases b
    exact ⟨_, _, rfl, k _ _ _ _ gp (Grow.refl sm) (.int _)⟩
  · exact gp.elim
theorem c_min2 : COp K (fun xs H Q => ∃ i j, xs = [.int i, .int j] ∧ Q (.int (if j < i then j else i)) H) gMin2 := by
  intro G H vs ds P Q sm h gp k
  unfold gMin2 at gp
  split at gp
  · obtain ⟨v, u, rfl, a, b⟩ := two_of h
    cases a
    cases b
    exact ⟨_, _, rfl, k _ _ _ _ gp (Grow.refl sm) (.int _)⟩
  · exact gp.elim
theorem c_tuple : COp K (fun xs H Q => ∃ p ys, xs = [.ref p] ∧ ((SqL K H p ys ∧ ∀ l, H l = none → Q (.ref l) (upd H l (.tup ys))) ∨ (SqT K H p ys ∧ Q (.ref p) H))) gTuple := by
  intro G H vs ds P Q sm h gp k
  unfold gTuple at gp
  split at gp
  · obtain ⟨v, rfl, a⟩ := one_of h
    cases a with
    | tup a l r => exact ⟨_, _, rfl, .inr ⟨same_t sm a, k _ _ _ _ gp (Grow.refl sm) (.tup a l r)⟩⟩
  · obtain ⟨v, rfl, a⟩ := one_of h
    cases a with
    | lst a l r =>
      refine ⟨_, _, rfl, .inl ⟨SqL.of (sm _ _ a), fun p hp => ?_⟩⟩
      exact k _ _ _ _ gp (Grow.new sm hp) (.tup (.inl (.inl upd_same)) l (r.up (Grow.new sm hp).g))
  · exact gp.elim
theorem c_list : COp K (fun xs H Q => ∃ p ys, xs = [.ref p] ∧ (SqL K H p ys ∨ SqT K H p ys) ∧ ∀ l, H l = none → Q (.ref l) (upd H l (.lst ys))) gList := by
  intro G H vs ds P Q sm h gp k
  unfold gList at gp
  split at gp
  · obtain ⟨v, rfl, a⟩ := one_of h
    cases a with
    | tup a l r =>
      refine ⟨_, _, rfl, .inr (same_t sm a), fun p hp => ?_⟩
      exact k _ _ _ _ gp (Grow.new sm hp) (.lst upd_same l (r.up (Grow.new sm hp).g))
  · obtain ⟨v, rfl, a⟩ := one_of h
    cases a with
    | lst a l r =>
      refine ⟨_, _, rfl, .inl (SqL.of (sm _ _ a)), fun p hp => ?_⟩
      exact k _ _ _ _ gp (Grow.new sm hp) (.lst upd_same l (r.up (Grow.new sm hp).g))
  · exact gp.elim
theorem c_max : COp K (rMax K) gMax := by
  intro G H vs ds P Q sm h gp k
  unfold gMax at gp
  split at gp
  · obtain ⟨v, rfl, a⟩ := one_of h
    split at gp
    · rename_i n ns hn
      cases a with
      | lst a l r =>
        have e := intsOf_of r hn
        subst e
        refine ⟨_, n :: ns, rfl, SqL.of (sm _ _ a), Nat.succ_pos _, fun m hm hle => ?_⟩
        obtain ⟨c1, c2, c3⟩ := maxOf_ge ns n
        have em : m = maxOf n ns := by
          have h1 : maxOf n ns ≤ m := by
            rcases c3 with c3 | c3
            · rw [c3]
              exact hle n List.mem_cons_self
            · exact hle _ (List.mem_cons_of_mem _ c3)
          have h2 : m ≤ maxOf n ns := by
            rcases List.mem_cons.mp hm with e | hm
            · rw [e]
              exact c1
            · exact c2 m hm
          omega
        rw [em]
        exact k _ _ _ _ gp (Grow.refl sm) (.int _)
    · exact gp.elim
  · exact gp.elim
theorem c_min : COp K (rMin K) gMin := by
  intro G H vs ds P Q sm h gp k
  unfold gMin at gp
  split at gp
  · obtain ⟨v, rfl, a⟩ := one_of h
    split at gp
    · rename_i n ns hn
      cases a with
      | lst a l r =>
        have e := intsOf_of r hn
        subst e
        refine ⟨_, n :: ns, rfl, SqL.of (sm _ _ a), Nat.succ_pos _, fun m hm hle => ?_⟩
        obtain ⟨c1, c2, c3⟩ := minOf_le ns n
        have em : m = minOf n ns := by
          have h1 : m ≤ minOf n ns := by
            rcases c3 with c3 | c3
            · rw [c3]
              exact hle n List.mem_cons_self
            · exact hle _ (List.mem_cons_of_mem _ c3)
          have h2 : minOf n ns ≤ m := by
            rcases List.mem_cons.mp hm with e | hm
            · rw [e]
              exact c1
            · exact c2 m hm
          omega
        rw [em]
        exact k _ _ _ _ gp (Grow.refl sm) (.int _)
    · exact gp.elim
  · exact gp.elim
theorem tyx_t {H : Hp} {p : Addr} {vs : List V} (h : SqT K H p vs) : TyX K H (.ref p) (.type "tuple") := by
  rcases h with (h | ⟨o, h⟩) | ⟨o, its, n, hk, hc, _⟩
  · exact .base (.tup h)
  · exact .fTuple h
  · exact .kTuple hk hc
theorem kit_isi {K : PySem.W.Frag} : ∀ {t n : String}, (t = "NoneType" ∨ t = "bool" ∨ t = "int" ∨ t = "str" ∨ t = "tuple" ∨ t = "list") → (n = "int" ∨ n = "bool" ∨ n = "str" ∨ n = "tuple" ∨ n = "list") → PySem.W.kitOne K (.type t) (.type n) = some (isiD t n) := by
  intro t n ht hn
  rcases ht with rfl | rfl | rfl | rfl | rfl | rfl <;> rcases hn with rfl | rfl | rfl | rfl | rfl <;> exact kit_ty (by decide +kernel)
theorem c_isi : COp K (rIsi K) gIsi := by
  intro G H vs ds P Q sm h gp k
  unfold gIsi at gp
  split at gp
  · rename_i d n
    obtain ⟨v, u, rfl, a, b⟩ := two_of h
    split at gp
    · rename_i t ht
      cases b
      have key : TyX K H v (.type t) ∧ (t = "NoneType" ∨ t = "bool" ∨ t = "int" ∨ t = "str" ∨ t = "tuple" ∨ t = "list") := by
        cases a with
        | non => have e := Option.some.inj ht; subst e; exact ⟨.base .non, by simp⟩
        | bl b => have e := Option.some.inj ht; subst e; exact ⟨.base (.bl b), by simp⟩
        | int i => have e := Option.some.inj ht; subst e; exact ⟨.base (.int i), by simp⟩
        | str z => have e := Option.some.inj ht; subst e; exact ⟨.base (.str z), by simp⟩
        | tup a l r => have e := Option.some.inj ht; subst e; exact ⟨tyx_t (same_t sm a), by simp⟩
        | lst a l r => have e := Option.some.inj ht; subst e; exact ⟨.base (.lst (sm _ _ a)), by simp⟩
        | raw _ => cases ht
        | scr _ => cases ht
        | fn _ => cases ht
        | err _ _ => cases ht
        | erf _ _ _ => cases ht
      exact ⟨v, .ty n, .type t, .type n, isiD t n, rfl, .ty n, key.1, kit_isi key.2 gp.1, k _ _ _ _ gp.2 (Grow.refl sm) (.bl _)⟩
    · exact gp.elim
  · exact gp.elim
end
section
variable {X : Cx} {W : WX} {e e2 : Expr} {p pos : Pos} {fa : DA}
theorem de_len (hm : X.mg "len" = none) (ha : PA X [e] (lA X.K W fa)) (hgl : Gl X "len" := by rfl) (he : starEach [e] X.env = (false, eval e X.env) :: starEach [] X.env := by rfl) : PE X (.Call (.Name "len" p) [e] [] pos) (lE X.K W (dCB gLen fa)) :=
  de_cb call_len c_len hm PySem.boot_len ha hgl (by decide) (by decide) he rfl
theorem de_ty {x : Str} {n : String} {pos : Pos} (hm : X.mg x = none) (hv : bootBuiltins x = some (.type n)) (hg : Gl X x := by rfl) (hn : x ≠ "__name__" := by decide) (hd : (x == ("__debug__" : Str)) = false := by decide) : PE X (.Name x pos) (lE X.K W (dC (.raw (.ty n)))) :=
  de_c (pe_bltn (v := .ty n) hg hm hv rfl hn hd) fun _ _ => .raw _
end
end DL
set_option Elab.async false
set_option linter.all false
set_option maxRecDepth 100000
set_option maxHeartbeats 4000000
set_option autoImplicit false
/-! The data level: targets, what is walked, comprehensions, statements, calls of defs. -/
namespace DL
open PySem PySem.Spec PyProof.Rows L2

/-! ### targets -/
/-- the slots agree but at is_ -/
def Eqw (is_ : List Nat) (σ σ' : L2.St) : Prop := σ.length = σ'.length ∧ ∀ j : Nat, j ∉ is_ → σ[j]? = σ'[j]?
theorem Eqw.refl (is_ : List Nat) (σ : L2.St) : Eqw is_ σ σ := ⟨rfl, fun _ _ => rfl⟩
theorem Eqw.trans {is_ js : List Nat} {σ σ1 σ2 : L2.St} (a : Eqw is_ σ σ1) (b : Eqw js σ1 σ2) : Eqw (is_ ++ js) σ σ2 :=
  ⟨a.1.trans b.1, fun j hj => (a.2 j fun z => hj (List.mem_append_left _ z)).trans (b.2 j fun z => hj (List.mem_append_right _ z))⟩
theorem wipe_get (σ : L2.St) : ∀ (vs : List Nat) (j : Nat), (wipe σ vs)[j]? = if j ∈ vs ∧ j < σ.length then some none else σ[j]?
  | [], j => by simp [wipe]
  | v :: vs, j => by
    unfold wipe
    rw [List.getElem?_set]
    have ih := wipe_get σ vs j
    by_cases h : v = j
    · subst h
      rw [wipe_length]
      by_cases hl : v < σ.length
      · simp [hl]
      · simp [hl]
    · rw [if_neg h, ih]
      by_cases hm : j ∈ vs ∧ j < σ.length
      · rw [if_pos hm, if_pos ⟨List.mem_cons_of_mem _ hm.1, hm.2⟩]
      · rw [if_neg hm, if_neg]
        rintro ⟨h1, h2⟩
        rcases List.mem_cons.mp h1 with e | h1
        · exact h e.symm
        · exact hm ⟨h1, h2⟩
theorem Eqw.wipe {is_ vs : List Nat} {σ σ' : L2.St} (a : Eqw is_ σ σ') (h : ∀ i ∈ is_, i ∈ vs) : L2.wipe σ' vs = L2.wipe σ vs := by
  apply List.ext_getElem?
  intro j
  rw [wipe_get, wipe_get, ← a.1]
  by_cases hm : j ∈ vs ∧ j < σ.length
  · rw [if_pos hm, if_pos hm]
  · rw [if_neg hm, if_neg hm]
    by_cases hj : j ∈ is_
    · have h1 : ¬ j < σ.length := fun z => hm ⟨h j hj, z⟩
      have h2 := a.1
      rw [List.getElem?_eq_none (by omega), List.getElem?_eq_none (by omega)]
    · exact (a.2 j hj).symm
theorem wipe_wipe {σ σ' : L2.St} {vs : List Nat} (h : L2.wipe σ' vs = L2.wipe (L2.wipe σ vs) vs) : L2.wipe σ' vs = L2.wipe σ vs := by
  rw [h]
  apply List.ext_getElem?
  intro j
  rw [wipe_get, wipe_get, wipe_length]
  by_cases hm : j ∈ vs ∧ j < σ.length
  · rw [if_pos hm, if_pos hm]
  · rw [if_neg hm, if_neg hm]

def lG (K : PySem.W.Frag) (is_ : List Nat) (g : DG) : TG := fun v σ H Q => ∃ ρ G la d P, Re K G H la σ ρ ∧ Dp K G v d ∧ g d ρ P ∧ ∀ ρ' σ', P ρ' → Re K G H la σ' ρ' → Eqw is_ σ σ' → Q σ' H
abbrev DGs := List D → Env → (Env → Prop) → Prop
def lGs (K : PySem.W.Frag) (is_ : List Nat) (g : DGs) : TGs := fun vs σ H Q => ∃ ρ G la ds P, Re K G H la σ ρ ∧ Dps K G vs ds ∧ g ds ρ P ∧ ∀ ρ' σ', P ρ' → Re K G H la σ' ρ' → Eqw is_ σ σ' → Q σ' H
def gNm (i : Nat) : DG := fun d ρ Q => Q ⟨ρ.T, ρ.s.set i (some (.dat d))⟩
def gNl : DGs := fun ds ρ Q => match ds with
  | [] => Q ρ
  | _ => False
def gCs (t : DG) (u : DGs) : DGs := fun ds ρ Q => match ds with
  | d :: r => t d ρ fun ρ' => u r ρ' Q
  | _ => False
/-- (a, b, ..) = a tuple of so many -/
def gTp (n : Nat) (u : DGs) : DG := fun d ρ Q => match d with
  | .tup ds => ds.length = n ∧ u ds ρ Q
  | _ => False
theorem pg_imp {X : Cx} {e : Expr} {t t' : TG} (h : PG X e t) (w : ∀ v σ H Q, t' v σ H Q → t v σ H Q) : PG X e t' := ⟨fun pins s σ H v u Q I r q => h.run pins s σ H v u Q I r (w v σ H Q q)⟩
theorem pgs_imp {X : Cx} {es : List Expr} {t t' : TGs} (h : PGs X es t) (w : ∀ v σ H Q, t' v σ H Q → t v σ H Q) : PGs X es t' := ⟨fun pins s σ H v u Q I r q => h.run pins s σ H v u Q I r (w v σ H Q q)⟩
section
variable {X : Cx}
theorem dg_name (i : Nat) {x : Str} {pos : Pos} (hN : X.N.Nodup) (hi : X.N[i]? = some x := by rfl) (hx : Loc X.env.scope x := by first | exact Or.inl rfl | exact Or.inr rfl) (hf : X.fn x = true ∨ X.env.scope.names.lookup x = some .local := by first | exact .inl rfl | exact .inr rfl | assumption) :
    PG X (.Name x pos) (lG X.K [i] (gNm i)) := pg_imp (pg_name (i := i) hN hi hx hf) fun v σ H Q ⟨ρ, G, la, d, P, r, dp, g, q⟩ => q _ _ g (r.set (x := .dat d) dp) ⟨by simp, fun j hj => by
      have hj' : j ≠ i := by simpa using hj
      rw [List.getElem?_set_ne (Ne.symm hj')]⟩
theorem dgs_nil : PGs X [] (lGs X.K [] gNl) := pgs_imp pgs_nil fun v σ H Q ⟨ρ, G, la, ds, P, r, dp, g, q⟩ => by
  cases dp with
  | nil => exact ⟨rfl, q _ _ (show P ρ from g) r (Eqw.refl _ _)⟩
  | cons _ _ => exact (show False from g).elim
theorem dgs_cons {e : Expr} {es : List Expr} {t : DG} {u : DGs} {is_ js : List Nat} (h1 : PG X e (lG X.K is_ t)) (h2 : PGs X es (lGs X.K js u)) (hs : (assignEach (e :: es) X.env).map (·.2) = assign e X.env :: (assignEach es X.env).map (·.2) := by rfl) :
    PGs X (e :: es) (lGs X.K (is_ ++ js) (gCs t u)) := pgs_imp (pgs_cons h1 h2 hs) fun v σ H Q ⟨ρ, G, la, ds, P, r, dp, g, q⟩ => by
  cases dp with
  | nil => exact (show False from g).elim
  | cons a b =>
    refine ⟨_, _, rfl, ρ, G, la, _, _, r, a, g, fun ρ1 σ1 p1 r1 w1 => ⟨ρ1, G, la, _, P, r1, b, p1, fun ρ2 σ2 p2 r2 w2 => q ρ2 σ2 p2 r2 (w1.trans w2)⟩⟩
theorem dg_tup {es : List Expr} {k : Nat} {u : DGs} {n : Nat} {is_ : List Nat} {pos : Pos} (hc : X.calm = true) (h : PGs X es (lGs X.K is_ u)) (hn : (assignEach es X.env).length = n := by rfl) (hst : (assignEach es X.env).findIdx? (·.1) = none := by rfl) :
    PG X (.Tuple es k pos) (lG X.K is_ (gTp n u)) := pg_imp (pg_tup hc h hn hst) fun v σ H Q ⟨ρ, G, la, d, P, r, dp, g, q⟩ => by
  cases dp with
  | tup a l b =>
    have g' : _ ∧ u _ ρ P := g
    exact ⟨_, _, rfl, same_t r.ext a, by rw [b.len]; exact g'.1, ρ, G, la, _, P, r, b, g'.2, q⟩
  | _ => exact (show False from g).elim
end

/-! ### what is walked -/
/-- J gives the data ds, one a turn -/
structure WalkD (K : PySem.W.Frag) (J : It) (G : Hp) (ds : List D) : Prop where
  goes : ∀ (i : Nat) (H : Hp), i < ds.length → Same G H → J.go i H
  stops : ∀ H, Same G H → J.stop ds.length H
  yields : ∀ (i : Nat) (G' H : Hp) (x : V) (H' : Hp), Same G G' → Same G' H → J.yld i H x H' → ∀ d, ds[i]? = some d → ∃ G1, Grow G' H G1 H' ∧ Dp K G1 x d
def lI (K : PySem.W.Frag) (W : WX) (f : DI) : TI := fun σ H R => ∃ ρ G la P X, Re K G H la σ ρ ∧ f X ρ P ∧ (∀ ds ρ' G' la' H' J, P ds ρ' → Aft K G la σ ρ' G' la' H' → WalkD K J G' ds → ds.length ≤ 2 ^ 62 → R J H') ∧ XO K G la W X
theorem pi_imp {X : Cx} {tg e : Expr} {t t' : TI} (h : PI X tg e t) (w : ∀ σ H R, t' σ H R → t σ H R) : PI X tg e t' := ⟨fun pins s σ H R I q => h.run pins s σ H R I (w σ H R q)⟩
/-- a list or a tuple -/
def iSeq (K : PySem.W.Frag) (tl : TE) : TI := fun σ H R => tl σ H fun x H1 => ∃ a xs, x = .ref a ∧ ((SqL K H1 a xs ∧ R (Itl K a) H1) ∨ (SqT K H1 a xs ∧ R (Itt K a) H1))
theorem pi_seq {X : Cx} {tg l : Expr} {tl : TE} (hl : PE X l tl) : PI X tg l (iSeq X.K tl) := by
  constructor
  intro pins s σ H R I h
  refine thn (hl.run pins s σ H _ I h) ?_
  rintro v s1 ⟨x, H1, I1, r1, a, xs, rfl, q⟩
  cases r1
  have fp : ∀ b ∈ [s1.heap.objs.size], FpOk X pins H1 b := fun b hb => by
    obtain rfl : b = s1.heap.objs.size := by simpa using hb
    exact I1.fpOk (Nat.le_refl _) (I1.hok.fresh (Nat.le_refl _))
  rcases q with ⟨hq, q⟩ | ⟨hq, q⟩
  · obtain ⟨its, rv, p, hz⟩ := I1.list hq
    exact wpAny_pyIter_list p.isList ⟨_, [s1.heap.objs.size], _, _, H1, rfl, I1.kept (t' := s1.toks) fun b o e => Heap.get?_push_of_some _ e, turn_list a _, ⟨_, Heap.get?_push_size _ rfl, rfl, rfl⟩, fp, q⟩
  · obtain ⟨its, rv, p, hz⟩ := I1.tuple hq
    exact wpAny_pyIter_tuple (show s1.heap.IsTuple a its.toArray from p) ⟨_, [s1.heap.objs.size], _, _, H1, rfl, I1.kept (t' := s1.toks) fun b o e => Heap.get?_push_of_some _ e, turn_tuple a _, ⟨_, Heap.get?_push_size _ rfl, rfl, rfl⟩, fp, q⟩
def dSeq (f : DE) : DI := fun X ρ Q => f X ρ fun d ρ' => match d with
  | .tup ds => Q ds ρ'
  | .lst ds => Q ds ρ'
  | _ => False
theorem line62 : sizeLine ≤ 2 ^ 62 := by rw [sizeLine_eq]; decide
section
variable {K : PySem.W.Frag} {G H : Hp}
theorem walkD_l {p : Addr} {vs : List V} {ds : List D} (h : G p = some (.lst vs)) (d : Dps K G vs ds) : WalkD K (Itl K p) G ds := by
  refine ⟨fun i H hi e => ⟨vs, vs[i]'(by rw [d.len]; exact hi), SqL.of (e _ _ h), by simp [d.len, hi]⟩, fun H e => ⟨vs, SqL.of (e _ _ h), by rw [d.len]; exact Nat.le_refl _⟩, fun i G' H x H' e e' y z hz => ?_⟩
  obtain ⟨rfl, y⟩ := y
  have hx := y vs (SqL.of (e' _ _ (e _ _ h)))
  obtain ⟨d', hd, dd⟩ := d.getV hx
  rw [hz] at hd
  have q := Option.some.inj hd
  subst q
  exact ⟨G', Grow.refl e', dd.up e⟩
theorem walkD_t {p : Addr} {vs : List V} {ds : List D} (h : SqT K G p vs) (d : Dps K G vs ds) : WalkD K (Itt K p) G ds := by
  refine ⟨fun i H hi e => ⟨vs, vs[i]'(by rw [d.len]; exact hi), same_t e h, by simp [d.len, hi]⟩, fun H e => ⟨vs, same_t e h, by rw [d.len]; exact Nat.le_refl _⟩, fun i G' H x H' e e' y z hz => ?_⟩
  obtain ⟨rfl, y⟩ := y
  have hx := y vs (same_t (e.trans e') h)
  obtain ⟨d', hd, dd⟩ := d.getV hx
  rw [hz] at hd
  have q := Option.some.inj hd
  subst q
  exact ⟨G', Grow.refl e', dd.up e⟩
end
section
variable {X : Cx} {W : WX} {tg : Expr}
theorem di_seq {e : Expr} {f : DE} (h : PE X e (lE X.K W f)) : PI X tg e (lI X.K W (dSeq f)) :=
  pi_imp (pi_seq h) fun σ H R ⟨ρ, G, la, P, XX, r, h, q, xo⟩ => ⟨ρ, G, la, _, XX, r, h, fun d ρ1 v G1 la1 H1 p1 a1 z1 => by
    cases z1 with
    | tup a l b => exact ⟨_, _, rfl, .inr ⟨same_t a1.r.ext a, q _ _ _ _ _ _ (show P _ ρ1 from p1) a1 (walkD_t a b) (by rw [← b.len]; exact Nat.le_trans l line62)⟩⟩
    | lst a l b => exact ⟨_, _, rfl, .inl ⟨SqL.of (a1.r.ext _ _ a), q _ _ _ _ _ _ (show P _ ρ1 from p1) a1 (walkD_l a b) (by rw [← b.len]; exact Nat.le_trans l line62)⟩⟩
    | _ => exact (show False from p1).elim, xo⟩
/-- the ints from lo to hi - 1 -/
def rangeD (lo hi : Int) : List D := (List.range (hi - lo).toNat).map fun (k : Nat) => .int (lo + k)
theorem rangeD_len (lo hi : Int) : (rangeD lo hi).length = (hi - lo).toNat := by simp [rangeD]
theorem walkD_r {K : PySem.W.Frag} {G : Hp} (lo : Int) (n : Nat) : WalkD K (Itr lo n) G ((List.range n).map fun (k : Nat) => .int (lo + k)) := by
  refine ⟨fun i H hi _ => by show i < n; simpa using hi, fun H _ => by show n ≤ _; simp, fun i G' H x H' e e' y z hz => ?_⟩
  obtain ⟨rfl, rfl⟩ := y
  rw [List.getElem?_map] at hz
  cases q : (List.range n)[i]? with
  | none =>
    rw [q] at hz
    cases hz
  | some j =>
    rw [q] at hz
    have e1 : i = j := by
      have := List.getElem?_range (n := n) (i := i) (by
        obtain ⟨h1, _⟩ := List.getElem?_eq_some_iff.mp q
        simpa using h1)
      rw [q] at this
      exact (Option.some.inj this).symm
    subst e1
    have e2 : D.int (lo + i) = z := Option.some.inj hz
    subst e2
    exact ⟨G', Grow.refl e', .int _⟩
def dRng1 (fa : DA) : DI := fun X ρ Q => fa X ρ fun ss ρ' => match ss with
  | [.dat (.int j)] => (-(2 ^ 62) ≤ j ∧ j < 2 ^ 62) ∧ Q (rangeD 0 j) ρ'
  | _ => False
def dRng2 (fa : DA) : DI := fun X ρ Q => fa X ρ fun ss ρ' => match ss with
  | [.dat (.int i), .dat (.int j)] => (-(2 ^ 61) ≤ i ∧ i < 2 ^ 61 ∧ -(2 ^ 61) ≤ j ∧ j < 2 ^ 61) ∧ Q (rangeD i j) ρ'
  | _ => False
theorem di_range1 {a : Expr} {fa : DA} {p pos : Pos} (hm : X.mg "range" = none) (ha : PA X [a] (lA X.K W fa)) (hg : Gl X "range" := by rfl) (hs : starEach [a] X.env = [(false, eval a X.env)] := by rfl) : PI X tg (.Call (.Name "range" p) [a] [] pos) (lI X.K W (dRng1 fa)) :=
  pi_imp (pi_range1 hg hm ha hs) fun σ H R ⟨ρ, G, la, P, XX, r, h, q, xo⟩ => ⟨ρ, G, la, _, XX, r, h, fun xs ρ1 vs G1 la1 H1 p1 a1 z1 => by
    have p1' : (match (generalizing := false) xs with
      | [.dat (.int j)] => (-(2 ^ 62) ≤ j ∧ j < 2 ^ 62) ∧ P (rangeD 0 j) ρ1
      | _ => False) := p1
    split at p1'
    · rename_i j
      cases z1 with
      | cons a b =>
        cases b
        cases (show Dp _ _ _ (.int j) from a)
        refine ⟨j, rfl, p1'.1.1, p1'.1.2, q _ _ _ _ _ _ p1'.2 a1 ?_ (by rw [rangeD_len]; omega)⟩
        unfold rangeD
        rw [Int.sub_zero]
        exact walkD_r 0 j.toNat
    · exact p1'.elim, xo⟩
theorem di_range2 {a b : Expr} {fa : DA} {p pos : Pos} (hm : X.mg "range" = none) (ha : PA X [a, b] (lA X.K W fa)) (hg : Gl X "range" := by rfl) (hs : starEach [a, b] X.env = [(false, eval a X.env), (false, eval b X.env)] := by rfl) (hs2 : starEach [b] X.env = [(false, eval b X.env)] := by rfl) :
    PI X tg (.Call (.Name "range" p) [a, b] [] pos) (lI X.K W (dRng2 fa)) :=
  pi_imp (pi_range2 hg hm ha hs hs2) fun σ H R ⟨ρ, G, la, P, XX, r, h, q, xo⟩ => ⟨ρ, G, la, _, XX, r, h, fun xs ρ1 vs G1 la1 H1 p1 a1 z1 => by
    have p1' : (match (generalizing := false) xs with
      | [.dat (.int i), .dat (.int j)] => (-(2 ^ 61) ≤ i ∧ i < 2 ^ 61 ∧ -(2 ^ 61) ≤ j ∧ j < 2 ^ 61) ∧ P (rangeD i j) ρ1
      | _ => False) := p1
    split at p1'
    · rename_i i j
      cases z1 with
      | cons a b =>
        cases b with
        | cons b c =>
          cases c
          cases (show Dp _ _ _ (.int i) from a)
          cases (show Dp _ _ _ (.int j) from b)
          obtain ⟨⟨b1, b2, b3, b4⟩, p2⟩ := p1'
          refine ⟨i, j, rfl, ⟨by omega, by omega, by omega, by omega⟩, q _ _ _ _ _ _ p2 a1 (walkD_r i (j - i).toNat) (by rw [rangeD_len]; omega)⟩
    · exact p1'.elim, xo⟩
/-- zip of two lists, of two tuples -/
def zipD : List D → List D → List D
  | x :: xs, y :: ys => .tup [x, y] :: zipD xs ys
  | _, _ => []
theorem zipD_len : ∀ xs ys : List D, (zipD xs ys).length = min xs.length ys.length
  | [], _ => by simp [zipD]
  | _ :: _, [] => by simp [zipD]
  | _ :: xs, _ :: ys => by
    simp only [zipD, List.length_cons, zipD_len xs ys]
    omega
theorem zipD_get : ∀ (xs ys : List D) (i : Nat) (d : D), (zipD xs ys)[i]? = some d → ∃ x y, xs[i]? = some x ∧ ys[i]? = some y ∧ d = .tup [x, y]
  | [], _, i, d, h => by simp [zipD] at h
  | _ :: _, [], i, d, h => by simp [zipD] at h
  | x :: xs, y :: ys, 0, d, h => ⟨x, y, rfl, rfl, (Option.some.inj h).symm⟩
  | _ :: xs, _ :: ys, i + 1, d, h => zipD_get xs ys i d h
def dZip (fa : DA) : DI := fun X ρ Q => fa X ρ fun ss ρ' => match ss with
  | [.dat (.tup a), .dat (.tup b)] => Q (zipD a b) ρ'
  | [.dat (.lst a), .dat (.lst b)] => Q (zipD a b) ρ'
  | _ => False
theorem pair_dp {K : PySem.W.Frag} {G H : Hp} {T : Addr} {x y : V} {d e : D} (sm : Same G H) (hT : H T = none) (a : Dp K G x d) (b : Dp K G y e) : ∃ G1, Grow G H G1 (upd H T (.tup [x, y])) ∧ Dp K G1 (.ref T) (.tup [d, e]) :=
  ⟨_, Grow.new sm hT, .tup (.inl (.inl upd_same)) (by show 2 ≤ sizeLine; decide) (.cons (a.up (Grow.new sm hT).g) (.cons (b.up (Grow.new sm hT).g) .nil))⟩
theorem di_zip {e e2 : Expr} {fa : DA} {p pos tpos : Pos} {elts : List Expr} {kk : Nat} (hm : X.mg "zip" = none) (ha : PA X [e, e2] (lA X.K W fa)) (hg : Gl X "zip" := by rfl) (hs : starEach [e, e2] X.env = (false, eval e X.env) :: starEach [e2] X.env := by rfl) (hpl : (backTo pos (starEach [e2] X.env)).any (·.1) = false := by rfl) :
    PI X (.Tuple elts kk tpos) (.Call (.Name "zip" p) [e, e2] [] pos) (lI X.K W (dZip fa)) :=
  pi_imp (RZ.pi_zipA hg hm ha hs hpl) fun σ H R ⟨ρ, G, la, P, XX, r, h, q, xo⟩ => ⟨ρ, G, la, _, XX, r, h, fun xs ρ1 vs G1 la1 H1 p1 a1 z1 => by
    have p1' : (match (generalizing := false) xs with
      | [.dat (.tup a), .dat (.tup b)] => P (zipD a b) ρ1
      | [.dat (.lst a), .dat (.lst b)] => P (zipD a b) ρ1
      | _ => False) := p1
    split at p1'
    · rename_i da db
      cases z1 with
      | cons a b =>
        cases b with
        | cons b c =>
          cases c
          cases (show Dp _ _ _ (.tup da) from a) with
          | tup ha la_ ra =>
            cases (show Dp _ _ _ (.tup db) from b) with
            | tup hb lb rb =>
              rename_i pa va pb vb
              refine ⟨_, _, va, vb, rfl, .inr ⟨same_t a1.r.ext ha, same_t a1.r.ext hb, q _ _ _ _ _ _ p1' a1 ⟨fun i H hi e => ?_, fun H e => ?_, fun i G' H x H' e e' y z hz => ?_⟩ ?_⟩⟩
              · rw [zipD_len] at hi
                have h1 : i < va.length := by rw [ra.len]; omega
                have h2 : i < vb.length := by rw [rb.len]; omega
                exact ⟨va, vb, va[i], vb[i], same_t e ha, same_t e hb, by simp [h1], by simp [h2]⟩
              · refine ⟨va, vb, same_t e ha, same_t e hb, ?_⟩
                rw [zipD_len, ra.len, rb.len]
                omega
              · obtain ⟨T, u, w, rfl, hT, rfl, f1, f2⟩ := y
                obtain ⟨dx, dy, h1, h2, rfl⟩ := zipD_get _ _ _ _ hz
                obtain ⟨d1, g1, k1⟩ := ra.getV (f1 va (same_t (e.trans e') ha))
                obtain ⟨d2, g2, k2⟩ := rb.getV (f2 vb (same_t (e.trans e') hb))
                rw [h1] at g1
                rw [h2] at g2
                have q1 := Option.some.inj g1
                have q2 := Option.some.inj g2
                subst q1 q2
                exact pair_dp e' hT (k1.up e) (k2.up e)
              · rw [zipD_len, ← ra.len]
                exact Nat.le_trans (Nat.min_le_left _ _) (Nat.le_trans la_ line62)
    · rename_i da db
      cases z1 with
      | cons a b =>
        cases b with
        | cons b c =>
          cases c
          cases (show Dp _ _ _ (.lst da) from a) with
          | lst ha la_ ra =>
            cases (show Dp _ _ _ (.lst db) from b) with
            | lst hb lb rb =>
              rename_i pa va pb vb
              refine ⟨_, _, va, vb, rfl, .inl ⟨SqL.of (a1.r.ext _ _ ha), SqL.of (a1.r.ext _ _ hb), q _ _ _ _ _ _ p1' a1 ⟨fun i H hi e => ?_, fun H e => ?_, fun i G' H x H' e e' y z hz => ?_⟩ ?_⟩⟩
              · rw [zipD_len] at hi
                have h1 : i < va.length := by rw [ra.len]; omega
                have h2 : i < vb.length := by rw [rb.len]; omega
                exact ⟨va, vb, va[i], vb[i], SqL.of (e _ _ ha), SqL.of (e _ _ hb), by simp [h1], by simp [h2]⟩
              · refine ⟨va, vb, SqL.of (e _ _ ha), SqL.of (e _ _ hb), ?_⟩
                rw [zipD_len, ra.len, rb.len]
                omega
              · obtain ⟨T, u, w, rfl, hT, rfl, f1, f2⟩ := y
                obtain ⟨dx, dy, h1, h2, rfl⟩ := zipD_get _ _ _ _ hz
                obtain ⟨d1, g1, k1⟩ := ra.getV (f1 va (SqL.of (e' _ _ (e _ _ ha))))
                obtain ⟨d2, g2, k2⟩ := rb.getV (f2 vb (SqL.of (e' _ _ (e _ _ hb))))
                rw [h1] at g1
                rw [h2] at g2
                have q1 := Option.some.inj g1
                have q2 := Option.some.inj g2
                subst q1 q2
                exact pair_dp e' hT (k1.up e) (k2.up e)
              · rw [zipD_len, ← ra.len]
                exact Nat.le_trans (Nat.min_le_left _ _) (Nat.le_trans la_ line62)
    · exact p1'.elim, xo⟩
end
end DL
set_option Elab.async false
set_option linter.all false
set_option maxRecDepth 100000
set_option maxHeartbeats 4000000
set_option autoImplicit false
/-! The data level: comprehensions, statements, calls of defs, defs. -/
namespace DL
open PySem PySem.Spec PyProof.Rows L2

/-! ### comprehensions -/
def X0 : XP := fun _ _ => False
def W0 : WX := fun _ _ _ _ => False
def wipeS (s : List (Option Sl)) : List Nat → List (Option Sl)
  | [] => s
  | v :: vs => (wipeS s vs).set v none
/-- the turns of a comprehension; the list that is made stands in the table at k -/
def compD (g : DG) (t : DT) (e : DE) (own : List Nat) (k : Nat) : List D → Env → (Env → Prop) → Prop
  | [], ρ, Q => Q ρ
  | d :: ds, ρ, Q => g d ⟨ρ.T, wipeS ρ.s own⟩ fun ρ1 => t X0 ρ1 fun b ρ2 => if b = true then e X0 ρ2 fun y ρ3 => match ρ3.T[k]? with
      | some (.lst acc) => acc.length < sizeLine ∧ compD g t e own k ds ⟨ρ3.T.set k (.lst (acc ++ [y])), ρ3.s⟩ Q
      | _ => False
    else compD g t e own k ds ρ2 Q
def dYes : DT := fun _ ρ Q => Q true ρ
def lTs (K : PySem.W.Frag) (W : WX) (f : DT) : TT := lT K W f

section
variable {K : PySem.W.Frag} {G G' G2 H H' H2 : Hp} {la la' la2 : List Addr} {σ σ' : L2.St} {ρ ρ' ρ2 : Env} {W : WX} {X : XP} {T : List Ob}
theorem wipeS_len (s : List (Option Sl)) : ∀ vs : List Nat, (wipeS s vs).length = s.length
  | [] => rfl
  | v :: vs => by
    unfold wipeS
    rw [List.length_set, wipeS_len s vs]
theorem wipeS_some {s : List (Option Sl)} {i : Nat} {x : Sl} : ∀ {vs : List Nat}, (wipeS s vs)[i]? = some (some x) → s[i]? = some (some x) ∧ i ∉ vs
  | [], h => ⟨h, by simp⟩
  | v :: vs, h => by
    unfold wipeS at h
    by_cases hi : v = i
    · subst hi
      rw [List.getElem?_set] at h
      split at h
      · split at h <;> cases h
      · rename_i n
        exact absurd rfl n
    · rw [List.getElem?_set_ne hi] at h
      obtain ⟨h1, h2⟩ := wipeS_some h
      exact ⟨h1, by simp only [List.mem_cons, not_or]; exact ⟨fun e => hi e.symm, h2⟩⟩
theorem wipe_keep {i : Nat} {v : V} : ∀ {vs : List Nat}, i ∉ vs → (L2.wipe σ vs)[i]? = σ[i]?
  | [], _ => rfl
  | w :: vs, h => by
    unfold L2.wipe
    have h1 : w ≠ i := fun e => h (by rw [e]; exact List.mem_cons_self)
    rw [List.getElem?_set_ne h1]
    exact wipe_keep (v := v) fun z => h (List.mem_cons_of_mem _ z)
/-- the own slots forgotten at both -/
theorem Re.wipe (r : Re K G H la σ ρ) (vs : List Nat) : Re K G H la (L2.wipe σ vs) ⟨ρ.T, wipeS ρ.s vs⟩ :=
  ⟨r.tb, by rw [L2.wipe_length]; exact (wipeS_len _ _).trans r.sl, fun i x h => by
    obtain ⟨h1, h2⟩ := wipeS_some h
    obtain ⟨v, a, b⟩ := r.at_ i x h1
    exact ⟨v, (wipe_keep (v := v) h2).trans a, b⟩⟩
/-- back in the outer slots -/
theorem Re.unwipe {σ : L2.St} {vs : List Nat} (r : Re K G H la (L2.wipe σ vs) ρ) : Re K G H la σ ⟨ρ.T, wipeS ρ.s vs⟩ :=
  ⟨r.tb, (wipeS_len _ _).trans (r.sl.trans (L2.wipe_length _ _)), fun i x h => by
    obtain ⟨h1, h2⟩ := wipeS_some h
    obtain ⟨v, a, b⟩ := r.at_ i x h1
    exact ⟨v, (wipe_keep (v := v) h2).symm.trans a, b⟩⟩
theorem Re.dropS (r : Re K G H la σ ρ) (vs : List Nat) : Re K G H la σ ⟨ρ.T, wipeS ρ.s vs⟩ :=
  ⟨r.tb, (wipeS_len _ _).trans r.sl, fun i x h => r.at_ i x (wipeS_some h).1⟩
theorem wipe_idem (σ : L2.St) (vs : List Nat) : L2.wipe (L2.wipe σ vs) vs = L2.wipe σ vs := by
  apply List.ext_getElem?
  intro j
  rw [wipe_get, wipe_get, wipe_length]
  by_cases hm : j ∈ vs ∧ j < σ.length
  · rw [if_pos hm, if_pos hm]
  · rw [if_neg hm, if_neg hm]
theorem Rl.take (r : Rl K G H la T) (n : Nat) : Rl K G H (la.take n) (T.take n) :=
  ⟨r.ext, r.nd.sublist (List.take_sublist _ _), by simp [r.len], (fun k a o h1 h2 => by
    rw [List.getElem?_take] at h1 h2
    split at h1
    · rename_i hk
      rw [if_pos hk] at h2
      exact r.tab k a o h1 h2
    · cases h1), (fun k a h => by
      rw [List.getElem?_take] at h
      split at h
      · exact r.there k a h
      · cases h), r.nt, r.tbl⟩
theorem pre_take (p : la <+: la') : la'.take la.length = la := by
  obtain ⟨t, rfl⟩ := p
  exact List.take_left
def lowSl (n : Nat) : Sl → Bool
  | .dat _ => true
  | .ob k => decide (k < n)
  | .clo _ _ _ => false
theorem SlR.take {v : V} {n : Nat} : ∀ {x : Sl}, SlR K G la v x → lowSl n x = true → SlR K G (la.take n) v x
  | .dat d, h, _ => h
  | .ob k, ⟨a, h, e⟩, hk => ⟨a, by
    have hk' : k < n := by simpa [lowSl] using hk
    rw [List.getElem?_take, if_pos hk']
    exact h, e⟩
  | .clo _ _ _, _, hk => by simp [lowSl] at hk
/-- the list made so far is done: it is data, the table is what it was -/
theorem comp_done {acc : List D} {n : Nat} {a : Addr} (r : Re K G H la σ ρ) (hn : n < la.length) (ha : la[n]? = some a) (hk : ρ.T[n]? = some (.lst acc)) (hs : ∀ (i : Nat) (x : Sl), ρ.s[i]? = some (some x) → lowSl n x = true) :
    ∃ G', Same G G' ∧ Dp K G' (.ref a) (.lst acc) ∧ Re K G' H (la.take n) σ ⟨ρ.T.take n, ρ.s⟩ := by
  obtain ⟨vs, hH, gn, s1, dp, rl⟩ := r.tb.freeze ha hk
  refine ⟨_, s1, dp, ?_, r.sl, fun i x h => ?_⟩
  · have q := rl.take n
    have e : (ρ.T.set n .dead).take n = ρ.T.take n := by
      rw [List.take_set]
      exact List.set_eq_of_length_le (by rw [List.length_take]; omega)
    rw [e] at q
    exact q
  · obtain ⟨v, b, c⟩ := r.at_ i x h
    exact ⟨v, b, (c.grow s1 List.prefix_rfl).take (hs i x h)⟩
end

/-- own objects that stand in no slot from n on -/
def lowS (n : Nat) (s : List (Option Sl)) : Bool := s.all fun x => match x with
  | some (.ob k) => decide (k < n)
  | some (.clo _ _ _) => false
  | _ => true
def dComp (fi : DI) (g : DG) (t : DT) (e : DE) (own : List Nat) : DE := fun X ρ Q => fi X ρ fun ds ρ1 => compD g t e own ρ1.T.length ds ⟨ρ1.T ++ [.lst []], wipeS ρ1.s own⟩ fun ρ2 => match ρ2.T[ρ1.T.length]? with
  | some (.lst acc) => lowS ρ1.T.length (wipeS ρ2.s own) = true ∧ Q (.lst acc) ⟨ρ2.T.take ρ1.T.length, wipeS ρ2.s own⟩
  | _ => False
theorem lowS_at {n : Nat} {s : List (Option Sl)} (h : lowS n s = true) : ∀ (i : Nat) (x : Sl), s[i]? = some (some x) → lowSl n x = true := fun i x e => by
  have q := List.all_eq_true.mp h _ (List.mem_of_getElem? e)
  cases x <;> simpa [lowSl] using q
section
variable {X : Cx} {W : WX}
theorem comp_core {K : PySem.W.Frag} {fi : DI} {g : DG} {t : DT} {e : DE} {own is_ : List Nat} (hio : ∀ i ∈ is_, i ∈ own) : ∀ (σ : L2.St) (H : Hp) (Q : VK), lE K W (dComp fi g t e own) σ H Q → tLc (lI K W fi) (lG K is_ g) (lT K W0 t) (lE K W0 e) own σ H Q := fun σ H Q ⟨ρ, G, la, P, XX, re, h, q, xo⟩ =>
  ⟨ρ, G, la, _, XX, re, h, fun ds ρ1 G1 la1 H1 J p1 a1 wk lz Dn hD => by
    have l1 : la1.length = ρ1.T.length := a1.r.tb.len
    have fr := a1.r.tb.fresh (xs := []) (vs := []) hD (Nat.zero_le _) .nil
    let fin : Env → Prop := fun ρ2 => match ρ2.T[ρ1.T.length]? with
      | some (.lst acc) => lowS ρ1.T.length (wipeS ρ2.s own) = true ∧ P (.lst acc) ⟨ρ2.T.take ρ1.T.length, wipeS ρ2.s own⟩
      | _ => False
    have p1' : compD g t e own ρ1.T.length ds ⟨ρ1.T ++ [.lst []], wipeS ρ1.s own⟩ fin := p1
    -- the invariant
    let Wt : Nat → Nat → Hp → Prop := fun i m H2 => m + i = ds.length ∧ ∃ ρ2 G2 la2, Aft K G1 (la1 ++ [Dn]) (L2.wipe σ own) ρ2 G2 la2 H2 ∧ compD g t e own ρ1.T.length (ds.drop i) ρ2 fin
    have r0 : Re K G1 (upd H1 Dn (.lst [])) (la1 ++ [Dn]) (L2.wipe σ own) ⟨ρ1.T ++ [.lst []], wipeS ρ1.s own⟩ := by
      have rr : Re K G1 (upd H1 Dn (.lst [])) (la1 ++ [Dn]) σ ⟨ρ1.T ++ [.lst []], ρ1.s⟩ := ⟨fr, a1.r.sl, fun i x hx => by
        obtain ⟨v, b, c⟩ := a1.r.at_ i x hx
        exact ⟨v, b, c.grow (Same.refl _) (List.prefix_append _ _)⟩⟩
      exact rr.wipe own
    refine ⟨Wt, ⟨ds.length, by simp, ⟨ρ1.T ++ [.lst []], wipeS ρ1.s own⟩, G1, la1 ++ [Dn], Aft.refl r0, by simpa using p1'⟩, ?_⟩
    rintro i m H2 ⟨hm, ρ2, G2, la2, a2, c2⟩
    by_cases hi : i < ds.length
    · right
      have ed : ds.drop i = ds[i] :: ds.drop (i + 1) := List.drop_eq_getElem_cons hi
      rw [ed] at c2
      refine ⟨wk.goes i H2 hi (a2.g.trans a2.r.ext), fun H3 => ∃ ρ3 G3 la3, Aft K G1 (la1 ++ [Dn]) (L2.wipe σ own) ρ3 G3 la3 H3 ∧ compD g t e own ρ1.T.length (ds.drop (i + 1)) ρ3 fin, fun H3 ⟨ρ3, G3, la3, a3, c3⟩ => ⟨m - 1, by omega, by omega, ρ3, G3, la3, a3, c3⟩, fun x H3 y => ?_⟩
      obtain ⟨G3, gr, dx⟩ := wk.yields i G2 H2 x H3 a2.g a2.r.ext y ds[i] (List.getElem?_eq_getElem hi)
      have a3 := a2.grow gr
      refine ⟨_, G3, la2, ds[i], _, (a3.r.dropS own), dx, c2, fun ρ4 σ4 p4 r4 w4 => ⟨?_, ρ4, G3, la2, _, X0, r4, p4, fun b ρ5 G5 la5 H5 p5 a5 => ?_, fun _ _ _ _ _ _ _ _ z => z.elim⟩⟩
      · exact (w4.wipe hio).trans (wipe_idem _ _)
      · have wso : L2.wipe σ4 own = L2.wipe σ own := by
          exact (w4.wipe hio).trans (wipe_idem _ _)
        -- behind a turn: the own slots forgotten
        have back : ∀ {ρx : Env} {Gx : Hp} {lx : List Addr} {Hx : Hp}, Same G1 Gx → la1 ++ [Dn] <+: lx → Re K Gx Hx lx σ4 ρx → Aft K G1 (la1 ++ [Dn]) (L2.wipe σ own) ⟨ρx.T, wipeS ρx.s own⟩ Gx lx Hx := fun g1 g2 g3 => ⟨g1, g2, by
          have q := g3.wipe own
          rw [wso] at q
          exact q⟩
        have p5' : if b = true then e X0 ρ5 fun y ρ3 => match ρ3.T[ρ1.T.length]? with
            | some (.lst acc) => acc.length < sizeLine ∧ compD g t e own ρ1.T.length (ds.drop (i + 1)) ⟨ρ3.T.set ρ1.T.length (.lst (acc ++ [y])), ρ3.s⟩ fin
            | _ => False
          else compD g t e own ρ1.T.length (ds.drop (i + 1)) ρ5 fin := p5
        have cw : ∀ {ρx : Env}, compD g t e own ρ1.T.length (ds.drop (i + 1)) ρx fin → compD g t e own ρ1.T.length (ds.drop (i + 1)) ⟨ρx.T, wipeS ρx.s own⟩ fin := by
          intro ρx hx
          have ww : wipeS (wipeS ρx.s own) own = wipeS ρx.s own := by
            have idem : ∀ (s : List (Option Sl)) (vs : List Nat), (∀ v ∈ vs, v < s.length → s[v]? = some none) → wipeS s vs = s := by
              intro s vs
              induction vs with
              | nil => intro _; rfl
              | cons v vs ih =>
                intro hv
                unfold wipeS
                rw [ih fun u hu => hv u (List.mem_cons_of_mem _ hu)]
                apply List.ext_getElem?
                intro j
                rw [List.getElem?_set]
                split
                · rename_i hj
                  split
                  · rename_i hl
                    rw [← hj, hv v List.mem_cons_self hl]
                  · rename_i hl
                    rw [← hj, List.getElem?_eq_none (by omega)]
                · rfl
            have at_ : ∀ (s : List (Option Sl)) (vs : List Nat), ∀ v ∈ vs, v < s.length → (wipeS s vs)[v]? = some none := by
              intro s vs
              induction vs with
              | nil => intro v hv; simp at hv
              | cons u vs ih =>
                intro v hv hl
                unfold wipeS
                rw [List.getElem?_set]
                split
                · rw [if_pos (by rw [wipeS_len]; omega)]
                · rename_i hne
                  rcases List.mem_cons.mp hv with e | hv
                  · exact absurd e.symm hne
                  · exact ih v hv hl
            exact idem _ _ fun v hv hl => at_ _ _ v hv (by rwa [wipeS_len] at hl)
          cases hd : ds.drop (i + 1) with
          | nil =>
            rw [hd] at hx
            have hx' : fin ρx := hx
            show fin ⟨ρx.T, wipeS ρx.s own⟩
            show (match ρx.T[ρ1.T.length]? with
              | some (.lst acc) => lowS ρ1.T.length (wipeS (wipeS ρx.s own) own) = true ∧ P (.lst acc) ⟨ρx.T.take ρ1.T.length, wipeS (wipeS ρx.s own) own⟩
              | _ => False)
            rw [ww]
            exact hx'
          | cons d2 ds2 =>
            rw [hd] at hx
            show g d2 ⟨ρx.T, wipeS (wipeS ρx.s own) own⟩ _
            rw [ww]
            exact hx
        cases b with
        | false =>
          refine iteF ?_
          have p6 : compD g t e own ρ1.T.length (ds.drop (i + 1)) ρ5 fin := p5'
          exact ⟨⟨ρ5.T, wipeS ρ5.s own⟩, G5, la5, back ((a2.g.trans gr.g).trans a5.g) (a2.p.trans a5.p) a5.r, cw p6⟩
        | true =>
          refine iteT ?_
          have p6 : e X0 ρ5 fun y ρ3 => match ρ3.T[ρ1.T.length]? with
            | some (.lst acc) => acc.length < sizeLine ∧ compD g t e own ρ1.T.length (ds.drop (i + 1)) ⟨ρ3.T.set ρ1.T.length (.lst (acc ++ [y])), ρ3.s⟩ fin
            | _ => False := p5'
          refine ⟨ρ5, G5, la5, _, X0, a5.r, p6, fun y ρ7 v7 G7 la7 H7 p7 a7 z7 => ?_, fun _ _ _ _ _ _ _ _ z => z.elim⟩
          have p7' : (match (generalizing := false) ρ7.T[ρ1.T.length]? with
            | some (.lst acc) => acc.length < sizeLine ∧ compD g t e own ρ1.T.length (ds.drop (i + 1)) ⟨ρ7.T.set ρ1.T.length (.lst (acc ++ [y])), ρ7.s⟩ fin
            | _ => False) := p7
          split at p7'
          · rename_i acc hk
            have pp : la1 ++ [Dn] <+: la7 := (a2.p.trans a5.p).trans a7.p
            have hla : la7[ρ1.T.length]? = some Dn := by
              obtain ⟨tl, rfl⟩ := pp
              rw [List.append_assoc, List.getElem?_append_right (by omega), ← l1, Nat.sub_self]
              rfl
            obtain ⟨gn, vs, hH, lv, dv⟩ := a7.r.tb.tab _ _ _ hla hk
            refine ⟨vs, hH, by rw [dv.len]; exact p7'.1, ?_⟩
            have wr := a7.r.tb.write (ws := vs ++ [v7]) (ys := acc ++ [y]) hla hk (by rw [List.length_append, List.length_singleton, dv.len]; exact p7'.1) (dv.app (.cons z7 .nil))
            have r8 : Re K G7 (upd H7 Dn (.lst (vs ++ [v7]))) la7 σ4 ⟨ρ7.T.set ρ1.T.length (.lst (acc ++ [y])), ρ7.s⟩ := ⟨wr, a7.r.sl, a7.r.at_⟩
            exact ⟨⟨ρ7.T.set ρ1.T.length (.lst (acc ++ [y])), wipeS ρ7.s own⟩, G7, la7, back (ρx := ⟨ρ7.T.set ρ1.T.length (.lst (acc ++ [y])), ρ7.s⟩) (((a2.g.trans gr.g).trans a5.g).trans a7.g) pp r8, cw (ρx := ⟨ρ7.T.set ρ1.T.length (.lst (acc ++ [y])), ρ7.s⟩) p7'.2⟩
          · exact p7'.elim
    · left
      have ei : i = ds.length := by omega
      subst ei
      rw [List.drop_length] at c2
      have c3 : fin ρ2 := c2
      refine ⟨wk.stops H2 (a2.g.trans a2.r.ext), ?_⟩
      have c3' : (match (generalizing := false) ρ2.T[ρ1.T.length]? with
        | some (.lst acc) => lowS ρ1.T.length (wipeS ρ2.s own) = true ∧ P (.lst acc) ⟨ρ2.T.take ρ1.T.length, wipeS ρ2.s own⟩
        | _ => False) := c3
      split at c3'
      · rename_i acc hk
        have hla : la2[ρ1.T.length]? = some Dn := by
          obtain ⟨tl, e2⟩ := a2.p
          rw [← e2, List.append_assoc, List.getElem?_append_right (by omega), ← l1, Nat.sub_self]
          rfl
        have hlt : ρ1.T.length < la2.length := (List.getElem?_eq_some_iff.mp hla).1
        obtain ⟨G3, s3, d3, r3⟩ := comp_done (ρ := ⟨ρ2.T, wipeS ρ2.s own⟩) a2.r.unwipe hlt hla hk (lowS_at c3'.1)
        have et : la2.take ρ1.T.length = la1 := by
          rw [← l1]
          exact pre_take ((List.prefix_append _ _).trans a2.p)
        rw [et] at r3
        exact q _ _ _ _ _ _ c3'.2 ⟨(a1.g.trans a2.g).trans s3, a1.p, r3⟩ d3
      · exact c3'.elim, xo⟩
end
end DL
set_option Elab.async false
set_option linter.all false
set_option maxRecDepth 100000
set_option maxHeartbeats 4000000
set_option autoImplicit false
/-! The data level: statements, calls of defs, defs. -/
namespace DL
open PySem PySem.Spec PyProof.Rows L2

/-! ### comprehensions as expressions -/
section
variable {X : Cx} {W : WX}
theorem dts_nil : PTs X [] (lT X.K W dYes) := ⟨fun pins s σ H Q I h => (pts_nil (X := X)).run pins s σ H Q I (by
  obtain ⟨ρ, G, la, P, XX, r, f, q, _⟩ := h
  exact q _ _ _ _ _ f (Aft.refl r))⟩
theorem dts_one {c : Expr} {t : DT} (h : PT X c (lT X.K W t)) : PTs X [c] (lT X.K W t) := pts_one h
theorem takes0' {X : Cx} : Takes X W0 := takes0
theorem de_comp {elt tg iter : Expr} {ifs : List Expr} {scope : Scope} {own : List (Str × Nat)} {pos : Pos} {fi : DI} {g : DG} {t : DT} {e : DE} {is_ : List Nat} (hc : X.calm = true) (hN : X.N.Nodup) (hi : PI X tg iter (lI X.K W fi)) (ok : blkC X.N X.env.scope scope own = true)
    (hg : ∀ (s : Shared) (H : Hp) (C : Addr) (cl : List (Str × Addr)) (fp : List Addr), PG (X.blk s H scope (compEnvC scope cl C X.env) fp) tg (lG X.K is_ g)) (ht : ∀ (s : Shared) (H : Hp) (C : Addr) (cl : List (Str × Addr)) (fp : List Addr), PTs (X.blk s H scope (compEnvC scope cl C X.env) fp) ifs (lT X.K W0 t))
    (he : ∀ (s : Shared) (H : Hp) (C : Addr) (cl : List (Str × Addr)) (fp : List Addr), PE (X.blk s H scope (compEnvC scope cl C X.env) fp) elt (lE X.K W0 e)) (hio : ∀ i ∈ is_, i ∈ own.map (·.2) := by decide) (hs : ∀ x, foldedSetIterable iter X.env x = pure x := by intro _; rfl) :
    PE X (.ListComp elt [⟨tg, iter, ifs, 0⟩] scope pos) (lE X.K W (dComp fi g t e (own.map (·.2)))) :=
  pe_imp (pe_lc hc hN hi (blkOk_by ok) hg ht he hs) (comp_core hio)
end

theorem pre_at {α : Type} {l l' : List α} {i : Nat} {a : α} (p : l <+: l') (h : l[i]? = some a) : l'[i]? = some a := by
  obtain ⟨t, rfl⟩ := p
  rw [List.getElem?_append_left (List.getElem?_eq_some_iff.mp h).1]
  exact h
/-! ### statements -/
def sNil : DS := fun E ρ => E.nx ρ
def sSeq (a b : DS) : DS := fun E ρ => a { E with nx := b E } ρ
def sSet (i : Nat) (f : DL') : DS := fun E ρ => f E.xn ρ fun x ρ' => E.nx ⟨ρ'.T, ρ'.s.set i (some x)⟩
def sRet (f : DL') : DS := fun E ρ => f E.xn ρ E.rt
def sRetN : DS := fun E ρ => E.rt (.dat .non) ρ
def sDrop (f : DL') : DS := fun E ρ => f E.xn ρ fun _ ρ' => E.nx ρ'
def sIf (t : DT) (a b : DS) : DS := fun E ρ => t E.xn ρ fun c ρ' => if c = true then a E ρ' else b E ρ'
def loopD (g : DG) (B : DS) (E : DN) : List D → Env → Prop
  | [], ρ => E.nx ρ
  | d :: ds, ρ => g d ρ fun ρ' => B { E with nx := loopD g B E ds, ct := loopD g B E ds, bk := E.nx } ρ'
def sFor (fi : DI) (g : DG) (B : DS) : DS := fun E ρ => fi E.xn ρ fun ds ρ' => loopD g B E ds ρ'
def sWhile (t : DT) (B : DS) : DS := fun E ρ => ∃ V : Nat → Env → Prop, (∃ m, V m ρ) ∧ ∀ m ρ, V m ρ → t E.xn ρ fun b ρ' => if b = true then B { E with nx := fun ρ2 => ∃ m', m' < m ∧ V m' ρ2, ct := fun ρ2 => ∃ m', m' < m ∧ V m' ρ2, bk := E.nx } ρ' else E.nx ρ'
def sPar2 (i j : Nat) (f g : DL') : DS := fun E ρ => f E.xn ρ fun x ρ1 => g E.xn ρ1 fun y ρ2 => E.nx ⟨ρ2.T, (ρ2.s.set i (some x)).set j (some y)⟩
def sPar3 (i j l : Nat) (f g h : DL') : DS := fun E ρ => f E.xn ρ fun x ρ1 => g E.xn ρ1 fun y ρ2 => h E.xn ρ2 fun z ρ3 => E.nx ⟨ρ3.T, ((ρ3.s.set i (some x)).set j (some y)).set l (some z)⟩
def sTo (f : DE) (g : DG) : DS := fun E ρ => f E.xn ρ fun d ρ' => g d ρ' E.nx
/-- x.append(e), x a name -/
def sApp (i : Nat) (f : DE) : DS := fun E ρ => match ρ.s[i]? with
  | some (some (.ob k)) => match ρ.T[k]? with
    | some (.lst _) => f E.xn ρ fun d ρ' => match ρ'.T[k]? with
      | some (.lst xs) => xs.length < sizeLine ∧ E.nx ⟨ρ'.T.set k (.lst (xs ++ [d])), ρ'.s⟩
      | _ => False
    | _ => False
  | _ => False
/-- x[j] = e, x a name -/
def sSetIx (i : Nat) (fj fv : DE) : DS := fun E ρ => fv E.xn ρ fun d ρ1 => match ρ1.s[i]? with
  | some (some (.ob k)) => fj E.xn ρ1 fun z ρ2 => match z, ρ2.T[k]? with
    | .int j, some (.lst xs) => match ixN xs.length j with
      | some m => E.nx ⟨ρ2.T.set k (.lst (xs.set m d)), ρ2.s⟩
      | none => False
    | _, _ => False
  | _ => False
/-- x[j] of a list that may change, x a name -/
def dIxO (i : Nat) (fj : DE) : DE := fun X ρ Q => match ρ.s[i]? with
  | some (some (.ob k)) => fj X ρ fun z ρ' => match z, ρ'.T[k]? with
    | .int j, some (.lst xs) => match atI xs j with
      | some d => Q d ρ'
      | none => False
    | _, _ => False
  | _ => False
def dLenO (i : Nat) : DE := fun X ρ Q => match ρ.s[i]? with
  | some (some (.ob k)) => match ρ.T[k]? with
    | some (.lst xs) => Q (.int xs.length) ρ
    | _ => False
  | _ => False
def sNever : DS := fun _ _ => False

section
variable {X : Cx} {W : WX} {st : Stmt} {rest : List Stmt} {pos : Pos}
theorem dss_nil : PSs X [] (lS X.K W sNil) := pss_imp pss_nil fun D σ H ⟨ρ, G, la, E, r, f, b⟩ => b.nx _ _ _ _ _ f (Aft.refl r)
theorem dss_cons {f g : DS} (h1 : PS X st (lS X.K W f)) (h2 : PSs X rest (lS X.K W g)) : PSs X (st :: rest) (lS X.K W (sSeq f g)) := pss_imp (pss_cons h1 h2) fun D σ H ⟨ρ, G, la, E, r, f, b⟩ =>
  ⟨ρ, G, la, _, r, f, ⟨fun ρ' σ' G' la' H' p a => ⟨ρ', G', la', E, a.r, p, b.up a.g a.p⟩, b.bk, b.ct, b.rt, b.xn⟩⟩
theorem dss_one {f : DS} (h : PS X st (lS X.K W f)) : PSs X [st] (lS X.K W f) := pss_one h
theorem ds_pass : PS X (.Pass pos) (lS X.K W sNil) := ps_imp ps_pass fun D σ H ⟨ρ, G, la, E, r, f, b⟩ => b.nx _ _ _ _ _ f (Aft.refl r)
theorem set_core {i : Nat} {f : DL'} : ∀ (D : Ends) (σ : L2.St) (H : Hp), lS X.K W (sSet i f) D σ H → tAsg (lL X.K W f) (gName i) D σ H := fun D σ H ⟨ρ, G, la, E, r, f, b⟩ =>
  ⟨ρ, G, la, _, _, r, f, fun x ρ' v G' la' H' p a z => b.nx _ _ _ _ _ p ⟨a.g, a.p, a.r.set z⟩, b.xn⟩
theorem ds_set (i : Nat) {x : Str} {e : Expr} {f : DL'} {pos' : Pos} (hN : X.N.Nodup) (he : PE X e (lL X.K W f)) (hi : X.N[i]? = some x := by rfl) (hx : Loc X.env.scope x := by first | exact Or.inl rfl | exact Or.inr rfl) (hs : swapsWith e (some (.Name x pos')) pos.line X.env = pure false := by rfl)
    (hf : X.fn x = true ∨ X.env.scope.names.lookup x = some .local := by first | exact .inl rfl | exact .inr rfl | assumption) : PS X (.Assign [.Name x pos'] e pos) (lS X.K W (sSet i f)) := ps_imp (ps_set hN hi hx he hs hf) set_core
theorem ds_setC (i : Nat) {y : Str} {py : Pos} {elt tg iter : Expr} {ifs : List Expr} {scope : Scope} {own : List (Str × Nat)} {pos spos : Pos} {fi : DI} {g : DG} {t : DT} {e : DE} {is_ : List Nat} (hc : X.calm = true) (hN : X.N.Nodup) (hi : PI X tg iter (lI X.K W fi)) (ok : blkC X.N X.env.scope scope own = true)
    (hg : ∀ (s : Shared) (H : Hp) (C : Addr) (cl : List (Str × Addr)) (fp : List Addr), PG (X.blk s H scope (compEnvC scope cl C X.env) fp) tg (lG X.K is_ g)) (ht : ∀ (s : Shared) (H : Hp) (C : Addr) (cl : List (Str × Addr)) (fp : List Addr), PTs (X.blk s H scope (compEnvC scope cl C X.env) fp) ifs (lT X.K W0 t))
    (he : ∀ (s : Shared) (H : Hp) (C : Addr) (cl : List (Str × Addr)) (fp : List Addr), PE (X.blk s H scope (compEnvC scope cl C X.env) fp) elt (lE X.K W0 e)) (hy : X.N[i]? = some y := by rfl) (hyl : X.env.scope.names.lookup y = some .local := by rfl)
    (hsw : swapsWith (.ListComp elt [⟨tg, iter, ifs, 0⟩] scope pos) (some (.Name y py)) spos.line X.env = pure true := by exact sw_true rfl rfl rfl (by decide +kernel)) (hio : ∀ i ∈ is_, i ∈ own.map (·.2) := by decide) (hs : ∀ x, foldedSetIterable iter X.env x = pure x := by intro _; rfl) :
    PS X (.Assign [.Name y py] (.ListComp elt [⟨tg, iter, ifs, 0⟩] scope pos) spos) (lS X.K W (sSet i (dDat (dComp fi g t e (own.map (·.2)))))) :=
  ps_imp (ps_setLc hc hN hy hyl hsw hi (blkOk_by ok) hg ht he hs) fun D σ H ⟨ρ, G, la, E, r, f, b⟩ => comp_core hio σ H _ ⟨ρ, G, la, fun d ρ' => E.nx ⟨ρ'.T, ρ'.s.set i (some (.dat d))⟩, _, r, f, fun d ρ' v G' la' H' p a z => b.nx _ _ _ _ _ p ⟨a.g, a.p, a.r.set (x := .dat d) z⟩, b.xn⟩
theorem ds_ret {e : Expr} {f : DL'} (he : PE X e (lL X.K W f)) : PS X (.Return (some e) pos) (lS X.K W (sRet f)) := ps_imp (ps_ret he) fun D σ H ⟨ρ, G, la, E, r, f, b⟩ => ⟨ρ, G, la, _, _, r, f, fun x ρ' v G' la' H' p a z => b.rt _ _ _ _ _ _ _ p a z, b.xn⟩
theorem ds_retN : PS X (.Return none pos) (lS X.K W sRetN) := ps_imp ps_retN fun D σ H ⟨ρ, G, la, E, r, f, b⟩ => b.rt _ _ _ _ _ _ _ f (Aft.refl r) (show Dp _ _ _ .non from .non)
theorem ds_expr {e : Expr} {f : DL'} (he : PE X e (lL X.K W f)) (hs : swapsWith e none pos.line X.env = pure false := by rfl) : PS X (.Expr e pos) (lS X.K W (sDrop f)) := ps_imp (ps_expr he hs) fun D σ H ⟨ρ, G, la, E, r, f, b⟩ => ⟨ρ, G, la, _, _, r, f, fun x ρ' v G' la' H' p a z => b.nx _ _ _ _ _ p a, b.xn⟩
theorem ds_doc {x j pos pos'} : PS X (.Expr (.Constant (.str x) j pos) pos') (lS X.K W sNil) := ps_imp ps_doc fun D σ H ⟨ρ, G, la, E, r, f, b⟩ => b.nx _ _ _ _ _ f (Aft.refl r)
theorem ds_if {c : Expr} {a b : List Stmt} {t : DT} {f g : DS} (hc : PT X c (lT X.K W t)) (ha : PSs X a (lS X.K W f)) (hb : PSs X b (lS X.K W g)) : PS X (.If c a b pos) (lS X.K W (sIf t f g)) := ps_imp (ps_if hc ha hb) fun D σ H ⟨ρ, G, la, E, r, h, b⟩ =>
  ⟨ρ, G, la, _, _, r, h, fun c ρ' G' la' H' p a => by
    cases c with
    | true => exact iteT ⟨ρ', G', la', E, a.r, (show f E ρ' from p), b.up a.g a.p⟩
    | false => exact iteF ⟨ρ', G', la', E, a.r, (show g E ρ' from p), b.up a.g a.p⟩, b.xn⟩
theorem ds_never : PS X st (lS X.K W sNever) := ps_imp ps_never fun D σ H ⟨ρ, G, la, E, r, h, b⟩ => h
theorem dss_never : PSs X rest (lS X.K W sNever) := pss_imp pss_never fun D σ H ⟨ρ, G, la, E, r, h, b⟩ => h
theorem ds_for {tg iter : Expr} {body : List Stmt} {fi : DI} {g : DG} {B : DS} {is_ : List Nat} (po : PassesOwn (model X.prog X.w) X.A X.env X.xe) (hc : X.calm = true) (hi : PI X tg iter (lI X.K W fi)) (hg : PG X tg (lG X.K is_ g)) (hb : PSs X body (lS X.K W B))
    (hs : ∀ x, foldedSetIterable iter X.env x = pure x := by intro _; rfl) : PS X (.For tg iter body [] pos) (lS X.K W (sFor fi g B)) := ps_imp (ps_for po hc hi hg hb hs) fun D σ H ⟨ρ, G, la, E, r, h, b⟩ =>
  ⟨ρ, G, la, _, _, r, h, fun ds ρ1 G1 la1 H1 J p1 a1 wk lz => by
    refine ⟨fun i m σ2 H2 => m + i = ds.length ∧ ∃ ρ2 G2 la2, Aft X.K G1 la1 σ2 ρ2 G2 la2 H2 ∧ loopD g B E (ds.drop i) ρ2, ⟨ds.length, by simp, ρ1, G1, la1, Aft.refl a1.r, by simpa using p1⟩, ?_⟩
    rintro i m σ2 H2 ⟨hm, ρ2, G2, la2, a2, c2⟩
    by_cases hi : i < ds.length
    · right
      have ed : ds.drop i = ds[i] :: ds.drop (i + 1) := List.drop_eq_getElem_cons hi
      rw [ed] at c2
      refine ⟨wk.goes i H2 hi (a2.g.trans a2.r.ext), fun σ3 H3 => ∃ ρ3 G3 la3, Aft X.K G1 la1 σ3 ρ3 G3 la3 H3 ∧ loopD g B E (ds.drop (i + 1)) ρ3, fun σ3 H3 ⟨ρ3, G3, la3, a3, c3⟩ => ⟨m - 1, by omega, by omega, ρ3, G3, la3, a3, c3⟩, fun x H3 y => ?_⟩
      obtain ⟨G3, gr, dx⟩ := wk.yields i G2 H2 x H3 a2.g a2.r.ext y ds[i] (List.getElem?_eq_getElem hi)
      have a3 := a2.grow gr
      refine ⟨ρ2, G3, la2, ds[i], _, a3.r, dx, c2, fun ρ4 σ4 p4 r4 _ => ⟨ρ4, G3, la2, _, r4, p4, ?_⟩⟩
      have b2 : Bk X.K G3 la2 W E D := b.up (a1.g.trans a3.g) (a1.p.trans a3.p)
      exact ⟨fun ρ5 σ5 G5 la5 H5 p5 a5 => ⟨ρ5, G5, la5, ⟨a3.g.trans a5.g, a3.p.trans a5.p, a5.r⟩, p5⟩, b2.nx, fun ρ5 σ5 G5 la5 H5 p5 a5 => ⟨ρ5, G5, la5, ⟨a3.g.trans a5.g, a3.p.trans a5.p, a5.r⟩, p5⟩, b2.rt, b2.xn⟩
    · left
      have ei : i = ds.length := by omega
      subst ei
      rw [List.drop_length] at c2
      exact ⟨wk.stops H2 (a2.g.trans a2.r.ext), b.nx ρ2 σ2 G2 la2 H2 c2 ⟨a1.g.trans a2.g, a1.p.trans a2.p, a2.r⟩⟩, b.xn⟩
theorem ds_while {c : Expr} {body : List Stmt} {t : DT} {B : DS} (po : PassesOwn (model X.prog X.w) X.A X.env X.xe) (hc : PT X c (lT X.K W t)) (hb : PSs X body (lS X.K W B)) : PS X (.While c body [] pos) (lS X.K W (sWhile t B)) := ps_imp (ps_while po hc hb) fun D σ H ⟨ρ, G, la, E, r, h, b⟩ => by
  obtain ⟨V, ⟨m0, v0⟩, turn⟩ := h
  refine ⟨fun m σ2 H2 => ∃ ρ2 G2 la2, Aft X.K G la σ2 ρ2 G2 la2 H2 ∧ V m ρ2, ⟨m0, ρ, G, la, Aft.refl r, v0⟩, ?_⟩
  rintro m σ2 H2 ⟨ρ2, G2, la2, a2, v2⟩
  have b2 := b.up a2.g a2.p
  refine ⟨ρ2, G2, la2, _, _, a2.r, turn m ρ2 v2, fun cc ρ3 G3 la3 H3 p3 a3 => ?_, b2.xn⟩
  have b3 := b2.up a3.g a3.p
  cases cc with
  | true =>
    refine iteT ⟨fun σ4 H4 => ∃ m', m' < m ∧ ∃ ρ4 G4 la4, Aft X.K G la σ4 ρ4 G4 la4 H4 ∧ V m' ρ4, fun σ4 H4 ⟨m', hm, z⟩ => ⟨m', hm, z⟩, ρ3, G3, la3, _, a3.r, p3, ?_⟩
    have next : ∀ (ρ' : Env) (σ' : L2.St) (G' : Hp) (la' : List Addr) (H' : Hp), (∃ m', m' < m ∧ V m' ρ') → Aft X.K G3 la3 σ' ρ' G' la' H' → ∃ m', m' < m ∧ ∃ ρ4 G4 la4, Aft X.K G la σ' ρ4 G4 la4 H' ∧ V m' ρ4 := fun ρ' σ' G' la' H' ⟨m', hm, hv⟩ a => ⟨m', hm, ρ', G', la', ⟨(a2.g.trans a3.g).trans a.g, (a2.p.trans a3.p).trans a.p, a.r⟩, hv⟩
    exact ⟨next, b3.nx, next, b3.rt, b3.xn⟩
  | false => exact iteF (b3.nx _ _ _ _ _ p3 (Aft.refl a3.r))
theorem ds_par2 (i j : Nat) {x y : Str} {a b : Expr} {f g : DL'} {px py pt : Pos} {kt k2 pt2} (hc : X.calm = true) (hN : X.N.Nodup) (ha : PA X [a, b] (lA X.K W (dCons f (dCons g dNil)))) (hw : swappedStores [.Tuple [.Name x px, .Name y py] kt pt] (.Tuple [a, b] k2 pt2) X.env = pure (some [x, y]) := by rfl)
    (hi : X.N[i]? = some x := by rfl) (hj : X.N[j]? = some y := by rfl) (hij : i ≠ j := by decide) (hx : X.env.scope.names.lookup x = some .local := by rfl) (hy : X.env.scope.names.lookup y = some .local := by rfl)
    (hs : swapsWithSole [.Tuple [.Name x px, .Name y py] kt pt] (.Tuple [a, b] k2 pt2) pos.line X.env = pure false := by rfl) : PS X (.Assign [.Tuple [.Name x px, .Name y py] kt pt] (.Tuple [a, b] k2 pt2) pos) (lS X.K W (sPar2 i j f g)) :=
  ps_imp (ps_par hc hN hi hj hij hx hy ha hw hs) fun D σ H ⟨ρ, G, la, E, r, h, b⟩ => ⟨ρ, G, la, fun xs ρ2 => ∃ u v, xs = [u, v] ∧ E.nx ⟨ρ2.T, (ρ2.s.set i (some u)).set j (some v)⟩, _, r, by
    show f E.xn ρ fun x ρ1 => g E.xn ρ1 fun y ρ2 => ∃ u v, [x, y] = [u, v] ∧ E.nx ⟨ρ2.T, (ρ2.s.set i (some u)).set j (some v)⟩
    have e : (fun (x : Sl) (ρ1 : Env) => g E.xn ρ1 fun y ρ2 => ∃ u v, [x, y] = [u, v] ∧ E.nx ⟨ρ2.T, (ρ2.s.set i (some u)).set j (some v)⟩) = fun x ρ1 => g E.xn ρ1 fun y ρ2 => E.nx ⟨ρ2.T, (ρ2.s.set i (some x)).set j (some y)⟩ := by
      funext x ρ1
      congr 1
      funext y ρ2
      apply propext
      constructor
      · rintro ⟨u, v, h1, h2⟩
        cases h1
        exact h2
      · intro h2
        exact ⟨x, y, rfl, h2⟩
    rw [e]
    exact h, fun xs ρ2 vs G2 la2 H2 p a z => by
    obtain ⟨u, v, rfl, p⟩ := p
    cases z with
    | cons z1 z =>
      cases z with
      | cons z2 z =>
        cases z
        exact ⟨_, _, rfl, b.nx _ _ _ _ _ p ⟨a.g, a.p, (a.r.set z1).set (ρ := ⟨ρ2.T, ρ2.s.set i (some u)⟩) z2⟩⟩, b.xn⟩
theorem ds_to {tg e : Expr} {f : DE} {g : DG} {is_ : List Nat} (he : PE X e (lE X.K W f)) (hg : PG X tg (lG X.K is_ g)) (hs : swapsWithSole [tg] e pos.line X.env = pure false := by rfl) (hw : swappedStores [tg] e X.env = pure none := by rfl)
    (h1 : (assignEach [tg] X.env).map (·.2) = [assign tg X.env] := by rfl) : PS X (.Assign [tg] e pos) (lS X.K W (sTo f g)) := ps_imp (ps_asg he hg hs hw h1) fun D σ H ⟨ρ, G, la, E, r, h, b⟩ =>
  ⟨ρ, G, la, _, _, r, h, fun d ρ' v G' la' H' p a z => ⟨ρ', G', la', d, _, a.r, z, p, fun ρ2 σ2 p2 r2 _ => b.nx _ _ _ _ _ p2 ⟨a.g, a.p, r2⟩⟩, b.xn⟩
theorem ds_app (i : Nat) {x : Str} {e : Expr} {f : DE} {p apos cpos : Pos} (he : PE X e (lE X.K W f)) (hN : X.N[i]? = some x := by rfl) (hv : Vis X.env.scope x := by first | exact Or.inl rfl | exact Or.inr (Or.inl rfl) | exact Or.inr (Or.inr rfl)) (hd : (x == ("__debug__" : Str)) = false := by decide)
    (hcd : (x == ("__classdict__" : Str)) = false := by decide) (hbase : attributeBase (.Name x p) "append" X.env (eval (.Name x p) X.env) = eval (.Name x p) X.env := by rfl)
    (hfew : ((backTo cpos (starEach [e] X.env)).all (fun x => !x.1) && (backToKw cpos (keywordEach [] X.env)).all (fun x => x.1.isSome) && decide ([e].length + ([] : List Keyword).length + (if ([] : List Keyword).isEmpty then 0 else 1) < 30)) = true := by rfl)
    (hline : (apos.endLine == cpos.line) = true := by rfl) (hs : starEach [e] X.env = (false, eval e X.env) :: starEach [] X.env := by rfl) (hsw : swapsWith (.Call (.Attribute (.Name x p) "append" apos) [e] [] cpos) none pos.line X.env = pure false := by rfl) :
    PS X (.Expr (.Call (.Attribute (.Name x p) "append" apos) [e] [] cpos) pos) (lS X.K W (sApp i f)) :=
  ps_imp (ps_expr (pe_bm (r := rAppend) PySem.F.plainAttrs_list PySem.F.slot_list_append PySem.F.type_list_append mt_append (pe_var (i := i) hN hv hd hcd) (pa_cons he pa_nil hs) hbase hfew hline hs rfl) hsw) fun D σ H ⟨ρ, G, la, E, r, h, b⟩ => by
    unfold sApp at h
    split at h
    · rename_i k hk
      obtain ⟨v, hv, a, ha, ev⟩ := r.at_ _ _ hk
      subst ev
      refine ⟨_, hv, ?_⟩
      split at h
      · rename_i xs hxs
        obtain ⟨gn, vs, hH, lv, dv⟩ := r.tb.tab k a _ ha hxs
        refine ⟨.inl ⟨rfl, _, SqL.of hH⟩, ρ, G, la, _, _, r, h, fun d ρ1 v1 G1 la1 H1 p1 a1 z1 => ?_, b.xn⟩
        have p1' : (match (generalizing := false) ρ1.T[k]? with
          | some (.lst xs) => xs.length < sizeLine ∧ E.nx ⟨ρ1.T.set k (.lst (xs ++ [d])), ρ1.s⟩
          | _ => False) := p1
        split at p1'
        · rename_i ys hys
          have ha1 := pre_at a1.p ha
          obtain ⟨gn1, ws, hH1, lw, dw⟩ := a1.r.tb.tab k a _ ha1 hys
          refine ⟨a, ws, v1, rfl, rfl, hH1, by rw [dw.len]; exact p1'.1, b.nx _ _ _ _ _ p1'.2 ⟨a1.g, a1.p, ⟨a1.r.tb.write ha1 hys (by rw [List.length_append, List.length_singleton, dw.len]; exact p1'.1) (dw.app (.cons z1 .nil)), a1.r.sl, a1.r.at_⟩⟩⟩
        · exact p1'.elim
      · exact h.elim
    · exact h.elim
theorem ixN_set {n : Nat} {j : Int} {m : Nat} (h : ixN n j = some m) : m < n := (ixN_seq h).2.1
theorem ds_setix (i : Nat) {x : Str} {e ej : Expr} {fj fv : DE} {p spos : Pos} (hv : PE X e (lE X.K W fv)) (hj : PE X ej (lE X.K W fj)) (hN : X.N[i]? = some x := by rfl) (hvis : Vis X.env.scope x := by first | exact Or.inl rfl | exact Or.inr (Or.inl rfl) | exact Or.inr (Or.inr rfl)) (hd : (x == ("__debug__" : Str)) = false := by decide)
    (hcd : (x == ("__classdict__" : Str)) = false := by decide) (ha : ∀ v, assign (.Subscript (.Name x p) ej spos) X.env v = (do
      let ov ← holding [v] (eval (.Name x p) X.env)
      let iv ← holding [v, ov] (eval ej X.env)
      standAt spos
      holding [v, ov, iv] (setItem ov iv v)
      release [v, ov, iv] []) := by intro _; rfl) (hs : swapsWithSole [.Subscript (.Name x p) ej spos] e pos.line X.env = pure false := by rfl) (hw : swappedStores [.Subscript (.Name x p) ej spos] e X.env = pure none := by rfl)
    (h1 : (assignEach [.Subscript (.Name x p) ej spos] X.env).map (·.2) = [assign (.Subscript (.Name x p) ej spos) X.env] := by rfl) : PS X (.Assign [.Subscript (.Name x p) ej spos] e pos) (lS X.K W (sSetIx i fj fv)) :=
  ps_imp (ps_asg hv (pg_sub (pe_var (i := i) hN hvis hd hcd) hj set_list ha) hs hw h1) fun D σ H ⟨ρ, G, la, E, r, h, b⟩ =>
  ⟨ρ, G, la, _, _, r, h, fun d ρ1 v G1 la1 H1 p1 a1 z1 => by
    have p1' : (match (generalizing := false) ρ1.s[i]? with
      | some (some (.ob k)) => fj E.xn ρ1 fun z ρ2 => match z, ρ2.T[k]? with
        | .int j, some (.lst xs) => match ixN xs.length j with
          | some m => E.nx ⟨ρ2.T.set k (.lst (xs.set m d)), ρ2.s⟩
          | none => False
        | _, _ => False
      | _ => False) := p1
    split at p1'
    · rename_i k hk
      obtain ⟨u, hu, a, hla, ev⟩ := a1.r.at_ _ _ hk
      subst ev
      refine ⟨_, hu, ρ1, G1, la1, _, _, a1.r, p1', fun z ρ2 w G2 la2 H2 p2 a2 z2 => ?_, b.xn.up a1.g a1.p⟩
      have p2' : (match (generalizing := false) z, ρ2.T[k]? with
        | .int j, some (.lst xs) => match ixN xs.length j with
          | some m => E.nx ⟨ρ2.T.set k (.lst (xs.set m d)), ρ2.s⟩
          | none => False
        | _, _ => False) := p2
      split at p2'
      · rename_i j xs hz
        cases z2
        split at p2'
        · rename_i m hm
          have ha2 := pre_at a2.p hla
          obtain ⟨gn1, ws, hH1, lw, dw⟩ := a2.r.tb.tab k a _ ha2 hz
          refine ⟨a, ws, j, m, rfl, rfl, hH1, by rw [dw.len]; exact hm, b.nx _ _ _ _ _ p2' ⟨a1.g.trans a2.g, a1.p.trans a2.p, ⟨a2.r.tb.write ha2 hz (by rw [List.length_set]; exact lw) (Dps.set (z1.up a2.g) m dw), a2.r.sl, a2.r.at_⟩⟩⟩
        · exact p2'.elim
      · exact p2'.elim
    · exact p1'.elim, b.xn⟩
theorem de_ixO (i : Nat) {x : Str} {ej : Expr} {fj : DE} {p : Pos} (hj : PE X ej (lE X.K W fj)) (hN : X.N[i]? = some x := by rfl) (hvis : Vis X.env.scope x := by first | exact Or.inl rfl | exact Or.inr (Or.inl rfl) | exact Or.inr (Or.inr rfl)) (hd : (x == ("__debug__" : Str)) = false := by decide)
    (hcd : (x == ("__classdict__" : Str)) = false := by decide) (hs : PlainIx ej := by exact fun _ _ => rfl) : PE X (.Subscript (.Name x p) ej pos) (lE X.K W (dIxO i fj)) :=
  pe_imp (pe_ix ix_list (pe_var (i := i) hN hvis hd hcd) hj hs) fun σ H Q ⟨ρ, G, la, P, XX, r, h, q, xo⟩ => by
    unfold dIxO at h
    split at h
    · rename_i k hk
      obtain ⟨v, hv, a, ha, ev⟩ := r.at_ _ _ hk
      subst ev
      refine ⟨_, hv, ρ, G, la, _, XX, r, h, fun z ρ2 w G2 la2 H2 p2 a2 z2 => ?_, xo⟩
      have p2' : (match (generalizing := false) z, ρ2.T[k]? with
        | .int j, some (.lst xs) => match atI xs j with
          | some d => P d ρ2
          | none => False
        | _, _ => False) := p2
      split at p2'
      · rename_i j xs hz
        cases z2
        split at p2'
        · rename_i d hd
          have ha2 := pre_at a2.p ha
          obtain ⟨gn1, ws, hH1, lw, dw⟩ := a2.r.tb.tab k a _ ha2 hz
          obtain ⟨v', hv', dv⟩ := dw.atI hd
          exact ⟨a, ws, j, v', rfl, rfl, SqL.of hH1, hv', q _ _ _ _ _ _ p2' a2 dv⟩
        · exact p2'.elim
      · exact p2'.elim
    · exact h.elim
theorem de_lenO (i : Nat) {x : Str} {p p2 : Pos} (hm : X.mg "len" = none) (hN : X.N[i]? = some x := by rfl) (hvis : Vis X.env.scope x := by first | exact Or.inl rfl | exact Or.inr (Or.inl rfl) | exact Or.inr (Or.inr rfl)) (hd : (x == ("__debug__" : Str)) = false := by decide)
    (hcd : (x == ("__classdict__" : Str)) = false := by decide) (hgl : Gl X "len" := by rfl) (he : starEach [.Name x p2] X.env = (false, eval (.Name x p2) X.env) :: starEach [] X.env := by rfl) : PE X (.Call (.Name "len" p) [.Name x p2] [] pos) (lE X.K W (dLenO i)) :=
  pe_imp (pe_callB call_len hgl hm PySem.boot_len (pa_cons (pe_var (i := i) hN hvis hd hcd) pa_nil he) (by decide) (by decide) he rfl) fun σ H Q ⟨ρ, G, la, P, XX, r, h, q, xo⟩ => by
    unfold dLenO at h
    split at h
    · rename_i k hk
      obtain ⟨v, hv, a, ha, ev⟩ := r.at_ _ _ hk
      subst ev
      split at h
      · rename_i xs hxs
        obtain ⟨gn, vs, hH, lv, dv⟩ := r.tb.tab k a _ ha hxs
        rw [← dv.len] at h
        exact ⟨_, hv, _, _, rfl, .inl ⟨_, SqL.of hH, rfl⟩, q _ _ _ _ _ _ h (Aft.refl r) (.int _)⟩
      · exact h.elim
    · exact h.elim
end

/-! ### calls of defs -/
abbrev DF := List Sl → List Ob → (Sl → List Ob → Prop) → (Xn → List Ob → Prop) → Prop
/-- a def's promise, by data: n arguments -/
def spD (K : PySem.W.Frag) (n : Nat) (F : DF) : Sp := fun vs H Q E => vs.length = n ∧ ∃ ss G la T P PX, Rl K G H la T ∧ SlsR K G la vs ss ∧ F ss T P PX ∧
  (∀ r T' v G' la' H', P r T' → Same G G' → la <+: la' → Rl K G' H' la' T' → SlR K G' la' v r → Q v H') ∧ (∀ x T' G' la' H' cls od, PX x T' → Same G G' → la <+: la' → Rl K G' H' la' T' → XR K G' H' x cls od → E cls od H')
def dCall (n : Nat) (F : DF) (fa : DA) : DL' := fun X ρ Q => fa X ρ fun ss ρ1 => ss.length = n ∧ F ss ρ1.T (fun r T' => Q r ⟨T', ρ1.s⟩) (fun x T' => X x ⟨T', ρ1.s⟩)
section
variable {X : Cx} {W : WX} {x : Str} {p pos : Pos} {e : Expr} {es : List Expr} {fa : DA} {k n : Nat} {f : Addr} {fd : FuncData} {ps : List Str} {F : DF}
theorem call_core {K : PySem.W.Frag} : ∀ (σ : L2.St) (H : Hp) (Q : VK), lL K W (dCall n F fa) σ H Q → tCallS (spD K n F) (WE W) (lA K W fa) σ H Q := fun σ H Q ⟨ρ, G, la, P, XX, r, h, q, xo⟩ =>
  ⟨ρ, G, la, _, XX, r, h, fun ss ρ1 vs G1 la1 H1 p1 a1 z1 => ⟨z1.len.trans p1.1, ss, G1, la1, ρ1.T, _, _, a1.r.tb, z1, p1.2, fun r2 T' v G' la' H' pr g pp rl sr => q _ _ _ _ _ _ pr ⟨a1.g.trans g, a1.p.trans pp, ⟨rl, a1.r.sl, fun i y hy => by
      obtain ⟨u, hu, ru⟩ := a1.r.at_ i y hy
      exact ⟨u, hu, ru.grow g pp⟩⟩⟩ sr, fun y T' G' la' H' cls od px g pp rl xr => xo y ⟨T', ρ1.s⟩ σ G' la' H' cls od px ⟨a1.g.trans g, a1.p.trans pp, ⟨rl, a1.r.sl, fun i y hy => by
      obtain ⟨u, hu, ru⟩ := a1.r.at_ i y hy
      exact ⟨u, hu, ru.grow g pp⟩⟩⟩ xr⟩, xo⟩
theorem dl_call (Fk : FnOk X.prog X.w X.K X.mg X.base (L2.CX X.prog X.w) k f fd ps (spD X.K n F)) (hr : Room k X.A) (hm : X.mg x = some (.ref f)) (hk : PySem.W.keepIn X.K (.ref f) = true) (hb : Binds X.K fd ps []) (tk : Takes X W) (ha : PA X (e :: es) (lA X.K W fa)) (hg : Gl X x := by rfl)
    (hdb : (x == ("__debug__" : Str)) = false := by decide) (he : starEach (e :: es) X.env = (false, eval e X.env) :: starEach es X.env := by rfl) (hpl : (backTo pos (starEach es X.env)).any (·.1) = false := by rfl) : PE X (.Call (.Name x p) (e :: es) [] pos) (lL X.K W (dCall n F fa)) :=
  pe_imp (pe_callS Fk hr hg hm hk hb (fun σ => passAt tk σ) ha hdb he hpl) call_core
end

/-! ### defs -/
def retD (n : Nat) (P : Sl → List Ob → Prop) : Sl → Env → Prop := fun x ρ => match x with
  | .dat d => P (.dat d) (ρ.T.take n)
  | .ob k => if k < n then P (.ob k) (ρ.T.take n) else match ρ.T[k]? with
    | some o => P (.ob n) (ρ.T.take n ++ [o])
    | none => False
  | .clo _ _ _ => False
def endsOf (n : Nat) (P : Sl → List Ob → Prop) (PX : Xn → List Ob → Prop) : DN := { nx := fun ρ => P (.dat .non) (ρ.T.take n), rt := retD n P, xn := fun x ρ => PX x (ρ.T.take n) }
def startD (m n : Nat) (ss : List Sl) (T : List Ob) : Env := ⟨T, ss.map some ++ List.replicate (m - n) none⟩
section
variable {P : Program} {w : World} {K : PySem.W.Frag} {mg : Str → Option Value} {base : Heap}
theorem start_re {G H : Hp} {la : List Addr} {T : List Ob} {vs : List V} {ss : List Sl} {m n : Nat} {N : List Str} (hm : m = N.length) (hn : n = ss.length) (rl : Rl K G H la T) (sr : SlsR K G la vs ss) : Re K G H la (L2.start N vs) (startD m n ss T) := by
  subst hm
  refine ⟨rl, ?_, fun i y hy => ?_⟩
  · show (ss.map some ++ List.replicate (N.length - n) none).length = (vs.map some ++ List.replicate (N.length - vs.length) none).length
    have e1 := sr.len
    simp only [List.length_append, List.length_map, List.length_replicate]
    omega
  · have hy' : (ss.map some ++ List.replicate (N.length - n) none)[i]? = some (some y) := hy
    by_cases hi : i < ss.length
    · rw [List.getElem?_append_left (by simpa using hi), List.getElem?_map] at hy'
      obtain ⟨z, hz, e⟩ := Option.map_eq_some_iff.mp hy'
      have e' := Option.some.inj e
      subst e'
      obtain ⟨v, hv, rv⟩ := sr.get hz
      refine ⟨v, ?_, rv⟩
      show (vs.map some ++ List.replicate (N.length - vs.length) none)[i]? = _
      rw [List.getElem?_append_left (by rw [List.length_map, sr.len]; exact hi), List.getElem?_map, hv]
      rfl
    · rw [List.getElem?_append_right (by simpa using hi), List.getElem?_replicate] at hy'
      split at hy' <;> cases hy'
theorem ends_bk {G : Hp} {la : List Addr} {T : List Ob} {Pd : Sl → List Ob → Prop} {PX : Xn → List Ob → Prop} {Q : VK} {E : XK} (lT : la.length = T.length)
    (q : ∀ r T' v G' la' H', Pd r T' → Same G G' → la <+: la' → Rl K G' H' la' T' → SlR K G' la' v r → Q v H') (qx : ∀ x T' G' la' H' cls od, PX x T' → Same G G' → la <+: la' → Rl K G' H' la' T' → XR K G' H' x cls od → E cls od H') :
    Bk K G la (fun cls d _ H => E cls d H) (endsOf T.length Pd PX) { nx := fun _ H' => Q .non H', rt := Q } := by
  have tr : ∀ {ρ' : Env} {σ' : L2.St} {G' : Hp} {la' : List Addr} {H' : Hp}, Aft K G la σ' ρ' G' la' H' → la'.take T.length = la ∧ Rl K G' H' la (ρ'.T.take T.length) := fun {ρ' σ' G' la' H'} a => by
    have e : la'.take T.length = la := by
      rw [← lT]
      exact pre_take a.p
    have z := a.r.tb.take T.length
    rw [e] at z
    exact ⟨e, z⟩
  refine ⟨fun ρ' σ' G' la' H' p a => ?_, fun ρ' σ' G' la' H' p a => p.elim, fun ρ' σ' G' la' H' p a => p.elim, fun y ρ' v σ' G' la' H' p a z => ?_, fun y ρ' σ' G' la' H' cls od p a xr => ?_⟩
  · exact q _ _ _ G' la H' p a.g List.prefix_rfl (tr a).2 (show Dp K G' .non .non from .non)
  · cases y with
    | dat d => exact q _ _ _ G' la H' p a.g List.prefix_rfl (tr a).2 z
    | clo _ _ _ => exact (show False from p).elim
    | ob j =>
      obtain ⟨b, hb, ev⟩ := z
      subst ev
      have p' : if j < T.length then Pd (.ob j) (ρ'.T.take T.length) else match ρ'.T[j]? with
        | some o => Pd (.ob T.length) (ρ'.T.take T.length ++ [o])
        | none => False := p
      by_cases hj : j < T.length
      · rw [if_pos hj] at p'
        refine q _ _ _ G' la H' p' a.g List.prefix_rfl (tr a).2 ⟨b, ?_, rfl⟩
        rw [← (tr a).1, List.getElem?_take, if_pos hj]
        exact hb
      · rw [if_neg hj] at p'
        split at p'
        · rename_i o ho
          obtain ⟨e1, r1⟩ := tr a
          have nb : b ∉ la := fun hm => by
            obtain ⟨i, hi, e2⟩ := List.getElem_of_mem hm
            have h1 : la'[i]? = some b := pre_at a.p (by rw [List.getElem?_eq_getElem hi, e2])
            obtain ⟨l1, x1⟩ := List.getElem?_eq_some_iff.mp h1
            obtain ⟨l2, x2⟩ := List.getElem?_eq_some_iff.mp hb
            have := (List.getElem_inj a.r.tb.nd).mp (x1.trans x2.symm)
            omega
          have lt2 : (ρ'.T.take T.length).length = T.length := by rw [← r1.len, lT]
          refine q _ _ _ G' (la ++ [b]) H' p' a.g (List.prefix_append _ _) ⟨r1.ext, ?_, by simp [lt2, lT], fun i c u h1 h2 => ?_, fun i c h1 => ?_, r1.nt, r1.tbl⟩ ⟨b, ?_, rfl⟩
          · rw [List.nodup_append]
            exact ⟨r1.nd, by simp, fun c hc d hd => by
              have e3 : d = b := by simpa using hd
              rw [e3]
              intro z
              exact nb (z ▸ hc)⟩
          · by_cases hi : i < la.length
            · rw [List.getElem?_append_left hi] at h1
              rw [List.getElem?_append_left (by omega)] at h2
              exact r1.tab i c u h1 h2
            · rw [List.getElem?_append_right (by omega)] at h1
              rw [List.getElem?_append_right (by omega), lt2, ← lT] at h2
              cases e4 : i - la.length with
              | zero =>
                rw [e4] at h1 h2
                have q1 := Option.some.inj h1
                have q2 := Option.some.inj h2
                subst q1 q2
                exact a.r.tb.tab j _ _ hb ho
              | succ m =>
                rw [e4] at h1
                simp at h1
          · by_cases hi : i < la.length
            · rw [List.getElem?_append_left hi] at h1
              exact r1.there i c h1
            · rw [List.getElem?_append_right (by omega)] at h1
              cases e4 : i - la.length with
              | zero =>
                rw [e4] at h1
                have q1 := Option.some.inj h1
                subst q1
                exact a.r.tb.there j _ hb
              | succ m =>
                rw [e4] at h1
                simp at h1
          · rw [← lT, List.getElem?_append_right (Nat.le_refl _)]
            simp
        · exact p'.elim
  · exact qx _ _ G' la H' cls od p a.g List.prefix_rfl (tr a).2 xr
theorem fn_D {x qual : Str} {st : Stmt} {f : Addr} {fd : FuncData} {N ps : List Str} {k n : Nat} {F : DF} {B : DS} (Fn : Fun K x qual st f fd) (S : FnScope N ps (defScope st)) (hn : ps.length = n)
    (hB : ∀ (cdv : Value) (A : Around) (outer : List PySem.Env) (s : Shared) (H : Hp) (E : XK), Room k (A.deeper (envOfC qual (defScope st) s.heap.objs.size f cdv)) →
      PSs (cxOf (L2.CX P w) P w K mg base N qual (defScope st) f cdv A outer s H E) (defBody st) (lS K (fun cls d _ H => E cls d H) B))
    (hF : ∀ (ss : List Sl) (T : List Ob) (Q : Sl → List Ob → Prop) (QX : Xn → List Ob → Prop), ss.length = n → F ss T Q QX → B (endsOf T.length Q QX) (startD N.length n ss T)) :
    FnOk P w K mg base (L2.CX P w) (k + 1) f fd ps (spD K n F) := by
  refine Fn.okX S (fun vs H Q E h => h.1.trans hn.symm) (fun cdv A outer s H vs Q E hr h => ⟨_, hB cdv A outer s H E hr, ?_⟩)
  obtain ⟨hl, ss, G, la, T, Pd, PX, rl, sr, fp, q, qx⟩ := h
  exact ⟨startD N.length n ss T, G, la, endsOf T.length Pd PX, start_re rfl (hl.symm.trans sr.len) rl sr, hF ss T Pd PX (sr.len.symm.trans hl) fp, ends_bk rl.len q qx⟩
/-- the same, the def's code object being known -/
theorem fn_DC {x qual : Str} {st : Stmt} {f : Addr} {N ps : List Str} {k n : Nat} {F : DF} {B : DS} {oc kV doc pm cdv ct : Value} {od an : Option Addr} {osl : Array (Option Value)}
    (lk : K.lookup f = some ⟨oc, od, .func (PySem.W.fnOf x qual (defArgs st) (defBody st) (defScope st) .none kV doc pm an cdv ct), osl⟩) (hcd : PySem.W.codeIn K cdv qual = true) (S : FnScope N ps (defScope st)) (hn : ps.length = n)
    (hB : ∀ (A : Around) (outer : List PySem.Env) (s : Shared) (H : Hp) (E : XK), Room k (A.deeper (envOfC qual (defScope st) s.heap.objs.size f cdv)) →
      PSs (cxOf (L2.CX P w) P w K mg base N qual (defScope st) f cdv A outer s H E) (defBody st) (lS K (fun cls d _ H => E cls d H) B))
    (hF : ∀ (ss : List Sl) (T : List Ob) (Q : Sl → List Ob → Prop) (QX : Xn → List Ob → Prop), ss.length = n → F ss T Q QX → B (endsOf T.length Q QX) (startD N.length n ss T)) :
    FnOk P w K mg base (L2.CX P w) (k + 1) f (PySem.W.fnOf x qual (defArgs st) (defBody st) (defScope st) .none kV doc pm an cdv ct) ps (spD K n F) := by
  refine fn_of lk hcd S (fun vs H Q E h => h.1.trans hn.symm) (fun A outer s H vs Q E hr h => ⟨_, hB A outer s H E hr, ?_⟩)
  obtain ⟨hl, ss, G, la, T, Pd, PX, rl, sr, fp, q, qx⟩ := h
  exact ⟨startD N.length n ss T, G, la, endsOf T.length Pd PX, start_re rfl (hl.symm.trans sr.len) rl sr, hF ss T Pd PX (sr.len.symm.trans hl) fp, ends_bk rl.len q qx⟩
end
end DL
set_option Elab.async false
set_option linter.all false
set_option maxRecDepth 100000
set_option maxHeartbeats 4000000
set_option autoImplicit false
/-! The data level: tuple * int of any size; enumerate of a tuple. -/
namespace DL
open PySem PySem.Spec PyProof.Rows L2

/-! ### tuple * int -/
theorem tmul_same (l : Addr) (items : Array Value) (n : Nat) (dd : Option Addr) (sl : Array (Option Value)) (x : Int) (u : Tok) (c0 : (decide (x < -(2 ^ 63)) || decide (x ≥ 2 ^ 63)) = false) (c1 : (items.isEmpty || x == 1) = true) :
    Meets (Builtin.«tuple.__mul__» ⟨[.ref l, .int x u], []⟩) (fun _ R s => s.heap.get? l = some { cls := .type "tuple", dict := dd, data := .seq items n, slots := sl } ∧ R (.ok (.ret (Value.ref l))) s) :=
  .of_wp fun prog w A R s h => by
    obtain ⟨hp, g, d, tk, os⟩ := s
    obtain ⟨hl, h⟩ := h
    have f1 := AutoSeq1.idx_int
    wp_walk using AutoSeq1.wpAny_loadPart' hl
    repeat (first
      | (refine wpAny_ite_false (decide_eq_false (by rw [c0]; exact Bool.false_ne_true)) ?_; wp_walk using AutoSeq1.wpAny_loadPart' hl)
      | (refine wpAny_ite_true (decide_eq_true c1) ?_; wp_walk using AutoSeq1.wpAny_loadPart' hl))
    exact ⟨_, rfl, h⟩
theorem tmul_none (l : Addr) (items : Array Value) (n : Nat) (dd : Option Addr) (sl : Array (Option Value)) (x : Int) (u : Tok) (c0 : (decide (x < -(2 ^ 63)) || decide (x ≥ 2 ^ 63)) = false) (c1 : (items.isEmpty || x == 1) = false) (c2 : (decide (x ≤ 0) || items.isEmpty) = true) :
    Meets (Builtin.«tuple.__mul__» ⟨[.ref l, .int x u], []⟩) (fun _ R s => s.heap.get? l = some { cls := .type "tuple", dict := dd, data := .seq items n, slots := sl } ∧
      R (.ok (.ret (Value.ref s.heap.objs.size))) { s with heap := s.heap.push { cls := Value.type "tuple", data := Data.seq #[] }, toks := s.toks }) :=
  .of_wp fun prog w A R s h => by
    obtain ⟨hp, g, d, tk, os⟩ := s
    obtain ⟨hl, h⟩ := h
    have f1 := AutoSeq1.idx_int
    wp_walk using AutoSeq1.wpAny_loadPart' hl
    repeat (first
      | (refine wpAny_ite_false (decide_eq_false (by rw [c0]; exact Bool.false_ne_true)) ?_; wp_walk using AutoSeq1.wpAny_loadPart' hl)
      | (refine wpAny_ite_false (decide_eq_false (by rw [c1]; exact Bool.false_ne_true)) ?_; wp_walk using AutoSeq1.wpAny_loadPart' hl)
      | (refine wpAny_ite_true (decide_eq_true c2) ?_; wp_walk using AutoSeq1.wpAny_loadPart' hl))
    exact ⟨_, rfl, h⟩
/-- t * k: k = 1 gives t itself, k ≤ 0 the empty one -/
def rRepA (K : PySem.W.Frag) : R2 := fun x y H Q => ∃ l k xs, x = .ref l ∧ y = .int k ∧ SqT K H l xs ∧ -1000 ≤ k ∧ k ≤ 1000 ∧ xs.length ≤ 1000 ∧ ((xs = [] ∨ k = 1) → Q (.ref l) H) ∧ (¬ (xs = [] ∨ k = 1) → ∀ p, H p = none → Q (.ref p) (upd H p (.tup (List.replicate k.toNat xs).flatten)))
section
variable {X : Cx}
theorem op_repA : OpR X (binaryOp .Mult) (rRepA X.K) := by
  intro pins s σ H x y v u Q I rx ry h
  obtain ⟨l, k, xs, rfl, rfl, hT, h0, h1, hz, q1, q2⟩ := h
  by_cases big : xs ≠ [] ∧ 2 ≤ k
  · exact op_repT pins s σ H _ _ v u Q I rx ry ⟨l, k, xs, rfl, rfl, hT, big.1, big.2, h1, hz, q2 fun z => z.elim big.1 fun e => by omega⟩
  cases rx
  obtain ⟨t, rfl⟩ := ry
  obtain ⟨its, r, ⟨⟨cls, dd, data, sl⟩, ho, hc, n, hd⟩, hs⟩ := I.tuple hT
  simp only at hc hd
  subst hc hd
  have nil_eq : its = [] ↔ xs = [] := r.nil_iff
  have c0 : (decide (k < -(2 ^ 63)) || decide (k ≥ 2 ^ 63)) = false := by
    rw [decide_eq_false (by omega), decide_eq_false (by omega)] <;> rfl
  have emp : its.toArray.isEmpty = decide (xs = []) := by
    cases its with
    | nil => rw [decide_eq_true (nil_eq.mp rfl)]; rfl
    | cons a b => rw [decide_eq_false fun z => nomatch nil_eq.mpr z]; rfl
  by_cases same : xs = [] ∨ k = 1
  · have c1 : (its.toArray.isEmpty || k == 1) = true := by
      rw [emp]
      rcases same with e | e
      · rw [decide_eq_true e, Bool.true_or]
      · rw [e]
        simp
    exact wpAny_binaryOp_repeat_ref (T := "tuple") (U := "int") (by decide) ⟨_, ho, rfl⟩ (fun s' => typeIs_int s' k t) noFill_tuple_mul F.fills_int_mul F.slot_int_rmul repeat_tuple F.slot_int_index.lookup
      (call_meets F.slot_int_rmul (typeIs_int s k t) F.entry_int_rmul (F.args_int_rmul_2 _ _) (int_rmul_tuple k t l its.toArray n dd sl)
        ⟨ho, rfl, ⟨_, ho, rfl⟩, call_meets F.slot_tuple_mul ⟨_, ho, rfl⟩ F.entry_tuple_mul (F.args_tuple_mul_2 _ _) (tmul_same l its.toArray n dd sl k t c0 c1) ⟨ho, ⟨.ref l, H, I, rfl, q1 same⟩⟩⟩)
  · have hk : k ≤ 0 := by
      have n1 : xs ≠ [] := fun e => same (.inl e)
      have n2 : ¬ 2 ≤ k := fun e => big ⟨n1, e⟩
      have n3 : k ≠ 1 := fun e => same (.inr e)
      omega
    have c1 : (its.toArray.isEmpty || k == 1) = false := by
      rw [emp, decide_eq_false fun e => same (.inl e), Bool.false_or]
      exact beq_eq_false_iff_ne.mpr fun e => same (.inr e)
    have c2 : (decide (k ≤ 0) || its.toArray.isEmpty) = true := by rw [decide_eq_true hk, Bool.true_or]
    have ek : (List.replicate k.toNat xs).flatten = [] := by
      rw [show k.toNat = 0 by omega]
      rfl
    rw [ek] at q2
    refine wpAny_binaryOp_repeat_ref (T := "tuple") (U := "int") (by decide) ⟨_, ho, rfl⟩ (fun s' => typeIs_int s' k t) noFill_tuple_mul F.fills_int_mul F.slot_int_rmul repeat_tuple F.slot_int_index.lookup
      (call_meets F.slot_int_rmul (typeIs_int s k t) F.entry_int_rmul (F.args_int_rmul_2 _ _) (int_rmul_tuple k t l its.toArray n dd sl)
        ⟨ho, rfl, ⟨_, ho, rfl⟩, call_meets F.slot_tuple_mul ⟨_, ho, rfl⟩ F.entry_tuple_mul (F.args_tuple_mul_2 _ _) (tmul_none l its.toArray n dd sl k t c0 c1 c2) ⟨ho, ?_⟩⟩)
    refine ⟨.ref s.heap.objs.size, _, I.laid (t' := s.toks) (o := .tup []) (fun b ob q => Heap.get?_push_of_some _ q) (Nat.le_refl _) ⟨Nat.zero_le _, [], .nil, IsTup.new _ _⟩, rfl, q2 same _ (I.hok.fresh (Nat.le_refl _))⟩
/-- * of ints, tuple * int -/
def rMulA (K : PySem.W.Frag) : R2 := fun x y H Q => rI CMulW (fun i j => .int (i * j)) x y H Q ∨ rRepA K x y H Q
theorem op_mulA : OpR X (binaryOp .Mult) (rMulA X.K) := op_mulW.or op_repA
end
def gMulA : D → D → (D → Prop) → Prop
  | .int i, .int j, P => CMulW i j ∧ P (.int (i * j))
  | .tup xs, .int k, P => (-1000 ≤ k ∧ k ≤ 1000 ∧ xs.length ≤ 1000) ∧ P (.tup (List.replicate k.toNat xs).flatten)
  | _, _, _ => False
theorem rep_len {xs : List V} {k : Int} (h1 : k ≤ 1000) (hz : xs.length ≤ 1000) : (List.replicate k.toNat xs).flatten.length ≤ sizeLine := by
  rw [PyProof.Rows.lm_len_rep_flat, sizeLine_eq]
  have a1 : k.toNat * xs.length ≤ 1000 * 1000 := Nat.mul_le_mul (by omega) hz
  omega
theorem g_mulA {K : PySem.W.Frag} : GOp K (rMulA K) gMulA := by
  intro G H x y d e P Q sm dx dy gp k
  unfold gMulA at gp
  split at gp
  · cases dx
    cases dy
    exact .inl ⟨_, _, rfl, rfl, gp.1, k _ _ _ _ gp.2 (Grow.refl sm) (.int _)⟩
  · cases dy
    cases dx with
    | tup a l r =>
      rename_i xs kk p vs
      obtain ⟨⟨b1, b2, b3⟩, p1⟩ := gp
      refine .inr ⟨_, kk, vs, rfl, rfl, same_t sm a, b1, b2, by rw [r.len]; exact b3, fun z => ?_, fun z q hq => ?_⟩
      · have e1 : (List.replicate kk.toNat xs).flatten = xs := by
          rcases z with z | z
          · rw [(nil_iff r).mp z]
            simp
          · rw [z]
            simp
        rw [e1] at p1
        exact k _ _ _ _ p1 (Grow.refl sm) (.tup a l r)
      · exact k _ _ _ _ p1 (Grow.new sm hq) (.tup (.inl (.inl upd_same)) (rep_len b2 (by rw [r.len]; exact b3)) ((r.rep _).up (Grow.new sm hq).g))
  · exact gp.elim

/-! ### enumerate of a tuple -/
section
variable {prog : Program} {w : World} {A : Around} {E : Value → Shared → Prop} {s : Shared}
theorem en_new (l : Addr) (items : Array Value) :
    Meets (Builtin.«enumerate.__new__» ⟨[.type "enumerate", .ref l], []⟩) (fun _ R s => s.heap.IsTuple l items ∧
      R (.ok (.ret (.ref (s.heap.push { cls := .type "tuple_iterator", data := .fields #[.ref l, .int 0 0] }).objs.size)))
        { s with heap := (s.heap.push { cls := .type "tuple_iterator", data := .fields #[.ref l, .int 0 0] }).push { cls := .type "enumerate", data := .fields #[.none, .bool false, .ref s.heap.objs.size, rawInt 0, .none, .none] } }) :=
  .of_wp fun prog w A R s h => by
    obtain ⟨hp, g, d, tk, os⟩ := s
    obtain ⟨hT, h⟩ := h
    have hsub := sub_enumerate
    have hL : Heap.IsTuple (Shared.heap ⟨hp, g, d, tk, os⟩) l items := hT
    wp_walk
    refine wpAny_stack_any fun st => wpAny_pure ?_
    split
    · rename_i c _ _ _ _ _
      cases (c == Value.type "enumerate") <;> (wp_walk using wpAny_pyIter_tuple hL; exact ⟨_, rfl, h⟩)
    · wp_walk using wpAny_pyIter_tuple hL
      exact ⟨_, rfl, h⟩
theorem en_call {l : Addr} {items : Array Value} {Q : Value → Shared → Prop} (hT : s.heap.IsTuple l items)
    (h : ∀ h', IsEnum h' (s.heap.objs.size + 1) s.heap.objs.size 0 .none → h'.IsTupleIter s.heap.objs.size l 0 → h'.objs.size = s.heap.objs.size + 2 → (∀ b o, s.heap.get? b = some o → h'.get? b = some o) → Q (.ref (s.heap.objs.size + 1)) { s with heap := h' }) :
    wpAny (model prog w) A (call (.type "enumerate") [.ref l]) Q E s := by
  refine callType_new F.called_enumerate (by decide) (F.typeCall_enumerate_1 _) (F.newCall_enumerate_1 _) (fun obj => F.args_object_init_2 obj _) F.entry_enumerate_new (en_new l items) ⟨hT, ?_⟩
  generalize e1 : s.heap.push { cls := .type "tuple_iterator", data := .fields #[.ref l, .int 0 0] } = h1
  have z1 : h1.objs.size = s.heap.objs.size + 1 := by rw [← e1]; exact Heap.size_push ..
  have g1 : h1.get? s.heap.objs.size = some { cls := .type "tuple_iterator", data := .fields #[.ref l, .int 0 0] } := by rw [← e1]; exact Heap.get?_push_size _ rfl
  have k1 : ∀ b o, s.heap.get? b = some o → h1.get? b = some o := fun b o x => by rw [← e1]; exact Heap.get?_push_of_some _ x
  have g2 : (h1.push { cls := .type "enumerate", data := .fields #[.none, .bool false, .ref s.heap.objs.size, rawInt 0, .none, .none] }).get? h1.objs.size = some _ := Heap.get?_push_size _ rfl
  rw [z1] at g2
  show _ ∧ _
  rw [z1]
  exact ⟨⟨_, g2, rfl⟩, h _ g2 ⟨_, Heap.get?_push_of_some _ g1, rfl, rfl⟩ (by rw [Heap.size_push, z1]) fun b o x => Heap.get?_push_of_some _ (k1 b o x)⟩
theorem en_item {e it l : Addr} {i : Nat} {items : Array Value} {x old : Value} {Q : Option Value → Shared → Prop} (he : IsEnum s.heap e it i old) (hit : s.heap.IsTupleIter it l i) (hl : s.heap.IsTuple l items) (hx : items[i]? = some x) (hne : e ≠ it)
    (hQ : ∀ h', IsEnumOut h' e it ((i : Int) + 1) x s.heap.objs.size → h'.IsTupleIter it l (i + 1) → h'.get? s.heap.objs.size = some { cls := .type "tuple", data := .seq #[.int i s.toks, x] } → h'.objs.size = s.heap.objs.size + 1 →
      (∀ b o, b ≠ e → b ≠ it → s.heap.get? b = some o → h'.get? b = some o) → Q (some (.ref s.heap.objs.size)) { s with heap := h', toks := s.toks + 1 }) :
    wpAny (model prog w) A (pyNext (.ref e)) Q E s := by
  have hT : s.TypeIs (.ref e) "enumerate" := ⟨_, he, rfl⟩
  have core : ∀ E' : Value → Shared → Prop, wpAny (model prog w) A.in1 (Builtin.«enumerate.__next__» ⟨[.ref e], []⟩) (fun fin s' => ∃ v, fin = .done (.ret v) ∧ Q (some v) s') E' s := by
    intro E'
    obtain ⟨hp, g, d, tk, os⟩ := s
    show wpAny _ _ (field (.ref e) 2 >>= _) _ _ _
    refine wpAny_bind (wpAny_field he rfl (x := .ref it) rfl ?_)
    refine wpAny_bind (RZ.nextOf_tuple_item hit hl hx fun m1 it1 b1 => ?_)
    have b1' : Heap.SameBut it hp m1 := b1
    have e1 : IsEnum m1 e it i old := (b1'.2 e hne).trans he
    show wpAny _ _ (field (.ref e) 3 >>= _) _ _ ⟨m1, g, d, tk, os⟩
    refine wpAny_bind (wpAny_field e1 rfl (x := rawInt i) rfl ?_)
    show wpAny _ _ (field (.ref e) 4 >>= _) _ _ ⟨m1, g, d, tk, os⟩
    refine wpAny_bind (wpAny_field e1 rfl (x := .none) rfl ?_)
    show wpAny _ _ (mkInt i >>= _) _ _ ⟨m1, g, d, tk, os⟩
    refine wpAny_bind (wpAny_mkInt ?_)
    show wpAny _ _ (setField (.ref e) 3 (rawInt ((i : Int) + 1)) >>= _) _ _ ⟨m1, g, d, tk + 1, os⟩
    refine wpAny_bind (wpAny_setField_rec e1 (by simp) fun m2 e2 b2 => ?_)
    have b2' : Heap.SameBut e m1 m2 := b2
    have e2' : IsEnum m2 e it ((i : Int) + 1) old := e2
    show wpAny _ _ (setField (.ref e) 4 .none >>= _) _ _ ⟨m2, g, d, tk + 1, os⟩
    refine wpAny_bind (wpAny_setField_rec e2' (by simp) fun m3 e3 b3 => ?_)
    have b3' : Heap.SameBut e m2 m3 := b3
    have e3' : IsEnum m3 e it ((i : Int) + 1) old := e3
    show wpAny _ _ (newTuple [.int i tk, x] >>= _) _ _ ⟨m3, g, d, tk + 1, os⟩
    refine wpAny_bind (wpAny_newTuple ?_)
    have sz3 : m3.objs.size = hp.objs.size := by rw [b3'.1, b2'.1, b1'.1]
    have elt : e < hp.objs.size := Heap.lt_size he
    have up3 : ∀ b o, b ≠ e → b ≠ it → hp.get? b = some o → m3.get? b = some o := fun b o n1 n2 q => b3'.extBut b o n1 (b2'.extBut b o n1 (b1'.extBut b o n2 q))
    have it3 : m3.IsTupleIter it l (i + 1) := (it1.extBut b2'.extBut (Ne.symm hne)).extBut b3'.extBut (Ne.symm hne)
    generalize q4 : m3.push { cls := .type "tuple", data := .seq #[.int i tk, x] } = m4
    have e4 : IsEnum m4 e it ((i : Int) + 1) old := by rw [← q4]; exact Heap.get?_push_of_some _ e3'
    have t4 : m4.get? hp.objs.size = some { cls := .type "tuple", data := .seq #[.int i tk, x] } := by rw [← q4, ← sz3]; exact Heap.get?_push_size _ rfl
    have sz4 : m4.objs.size = hp.objs.size + 1 := by rw [← q4, Heap.size_push, sz3]
    have up4 : ∀ b o, b ≠ e → b ≠ it → hp.get? b = some o → m4.get? b = some o := fun b o n1 n2 q => by rw [← q4]; exact Heap.get?_push_of_some _ (up3 b o n1 n2 q)
    have it4 : m4.IsTupleIter it l (i + 1) := by
      obtain ⟨o, ho, rr⟩ := it3
      exact ⟨o, by rw [← q4]; exact Heap.get?_push_of_some _ ho, rr⟩
    show wpAny _ _ (Builtin.SmallTypes.ownedTupleIsFree (.ref e) >>= _) _ _ ⟨m4, g, d, tk + 1, os⟩
    rw [sz3]
    refine wpAny_bind ?_
    unfold Builtin.SmallTypes.ownedTupleIsFree
    refine wpAny_bind (wpAny_field e4 rfl (x := .none) rfl (wpAny_pure ?_))
    simp only [if_true]
    refine wpAny_bind (wpAny_rule ?_)
    refine wpAny_bind (wpAny_field e4 rfl (x := old) rfl ?_)
    refine wpAny_bind (wpAny_setField_rec e4 (by simp) fun m5 e5 b5 => ?_)
    have b5' : Heap.SameBut e m4 m5 := b5
    have e5' : IsEnum m5 e it ((i : Int) + 1) x := e5
    show wpAny _ _ (Builtin.SmallTypes.ownedTupleHandOut (.ref e) (.ref hp.objs.size) >>= _) _ _ ⟨m5, g, d, tk + 1, os⟩
    refine wpAny_bind ?_
    unfold Builtin.SmallTypes.ownedTupleHandOut
    refine wpAny_bind (wpAny_setField_rec e5' (by simp) fun m6 e6 b6 => ?_)
    have b6' : Heap.SameBut e m5 m6 := b6
    have e6' : IsEnumOut m6 e it ((i : Int) + 1) x hp.objs.size := e6
    refine wpAny_setField_rec e6' (by simp) fun m7 e7 b7 => ?_
    have b7' : Heap.SameBut e m6 m7 := b7
    have e7' : IsEnumOut m7 e it ((i : Int) + 1) x hp.objs.size := e7
    have up7 : ∀ b o, b ≠ e → m4.get? b = some o → m7.get? b = some o := fun b o n q => b7'.extBut b o n (b6'.extBut b o n (b5'.extBut b o n q))
    refine wpAny_bind (wpAny_letGo (wpAny_pure ⟨_, rfl, hQ m7 e7' (it4.at fun o q => up7 it o (Ne.symm hne) q) (up7 _ _ (Nat.ne_of_gt elt) t4) (by rw [b7'.1, b6'.1, b5'.1, sz4]) fun b o n1 n2 q => up7 b o n1 (up4 b o n1 n2 q)⟩))
  unfold pyNext
  refine wpAny_bind (wpAny_attempt (wpAny_callSpecial?_slot (name := Str.ofString "__next__") hT F.slot_enumerate_next (wpAny_call_entry F.slot_enumerate_next hT F.entry_enumerate_next ?_ (F.args_enumerate_next_1 _))))
  exact wpAny_mono (core _) (fun fin s' ⟨v, e1, q⟩ => ⟨v, e1, wpAny_pure q⟩) fun _ _ z => z
theorem en_end {e it l : Addr} {i : Nat} {items : Array Value} {old : Value} {Q : Option Value → Shared → Prop} (hh : A.handled = none) (he : IsEnum s.heap e it i old) (hit : s.heap.IsTupleIter it l i) (hl : s.heap.IsTuple l items) (hx : items[i]? = none)
    (hQ : ∀ h', Heap.ExtBut it s.heap h' → Q none { s with heap := h' }) : wpAny (model prog w) A (pyNext (.ref e)) Q E s := by
  have hT : s.TypeIs (.ref e) "enumerate" := ⟨_, he, rfl⟩
  unfold pyNext
  refine wpAny_bind (wpAny_attempt (wpAny_callSpecial?_slot (name := Str.ofString "__next__") hT F.slot_enumerate_next (wpAny_call_entry F.slot_enumerate_next hT F.entry_enumerate_next ?_ (F.args_enumerate_next_1 _))))
  show wpAny _ _ (field (.ref e) 2 >>= _) _ _ _
  refine wpAny_bind (wpAny_field he rfl (x := .ref it) rfl ?_)
  refine wpAny_bind (RZ.nextOf_tuple_end hh hit hl hx fun h' x he' ⟨o, ho, hc⟩ => ?_)
  exact wpAny_bind (wpAny_isInstance (T := "StopIteration") (b := true) ⟨o, ho, hc⟩ isSubtype_stop (wpAny_pure (hQ _ he')))
end
/-- the tuple at a, each item with its number in a new pair -/
def IteT (K : PySem.W.Frag) (a : Addr) : It :=
  ⟨fun i H => ∃ (xs : List V) (x : V), SqT K H a xs ∧ xs[i]? = some x, fun i H v H' => ∃ T x, v = .ref T ∧ H T = none ∧ H' = upd H T (.tup [.int (i : Nat), x]) ∧ ∀ xs, SqT K H a xs → xs[i]? = some x, fun i H => ∃ xs : List V, SqT K H a xs ∧ xs.length ≤ i⟩
theorem en_turn {P : Program} {w : World} {K : PySem.W.Frag} {elts : List Expr} {kk : Nat} {tpos : Pos} (a e it : Addr) : Turn P w K (.Tuple elts kk tpos) (IteT K a) [e, it] e (fun i h => (∃ old, IsEnum h e it ((i : Nat) : Int) old) ∧ h.IsTupleIter it a i ∧ e ≠ it) where
  mem := by simp
  obj := fun i h st b hb => by
    obtain ⟨⟨old, he⟩, ⟨o, ho, hc, hd⟩, _⟩ := st
    rcases (show b = e ∨ b = it by simpa using hb) with rfl | rfl
    · exact ⟨_, he, fun v q => nomatch q⟩
    · exact ⟨o, ho, fun v q => by rw [hd] at q; cases q⟩
  keep := fun i h h' ⟨⟨old, he⟩, hi, hne⟩ k => ⟨⟨old, k e (by simp) _ he⟩, hi.at fun o q => k it (by simp) o q, hne⟩
  item := by
    intro X hP hw hK hc i pins s σ H E I hf st hg
    subst hP hw hK
    obtain ⟨⟨old, he⟩, hit, hne⟩ := st
    obtain ⟨xs, x, hq, hx⟩ := hg
    obtain ⟨its, rv, p, hz⟩ := I.tuple hq
    obtain ⟨u, hu, ru⟩ := rv.get hx
    have hel : e < s.heap.objs.size := Heap.lt_size he
    have hil : it < s.heap.objs.size := by obtain ⟨_, q, _⟩ := hit; exact Heap.lt_size q
    refine en_item he hit (show s.heap.IsTuple a its.toArray from p) (x := u) (by simpa using hu) hne fun h1 ho hit' hT hsz hk => ⟨_, rfl, wpAny_letOwnedTupleGo_enum (s := { s with heap := h1, toks := s.toks + 1 }) ho fun h2 he' sb => ?_⟩
    have hT2 : h2.get? s.heap.objs.size = some { cls := .type "tuple", data := .seq #[.int i s.toks, u] } := (sb.2 _ (Nat.ne_of_gt hel)).trans hT
    have new : ObjOk X.prog X.w (upd H s.heap.objs.size (.tup [.int (i : Nat), x])) h2 s.heap.objs.size (.tup [.int (i : Nat), x]) := ⟨by show 2 ≤ sizeLine; decide, [.int i s.toks, u], .cons ⟨_, rfl⟩ (.cons ru .nil), ⟨_, hT2, rfl, _, rfl⟩⟩
    have I1 : Inv X pins σ (upd H s.heap.objs.size (.tup [.int (i : Nat), x])) { s with heap := h2, toks := s.toks + 1 } :=
      I.turnedNew (ch := [e, it]) (fun b ob hb q => (sb.2 b (fun z => hb (by simp [z]))).trans (hk b ob (fun z => hb (by simp [z])) (fun z => hb (by simp [z])) q)) hf (Nat.le_refl _) new
    refine ⟨.ref s.heap.objs.size, _, I1, rfl, ⟨_, x, rfl, I.hok.fresh (Nat.le_refl _), rfl, fun ys hy => by rw [I.tuple_inj hy hq]; exact hx⟩, ⟨⟨u, ?_⟩, hit'.at fun o q => (sb.2 it (Ne.symm hne)).trans q, hne⟩, fun b hb => ?_⟩
    · have e1 : ((i + 1 : Nat) : Int) = (i : Int) + 1 := by omega
      rw [e1]
      exact he'
    · have hb' : b < s.heap.objs.size := by
        rcases (show b = e ∨ b = it by simpa using hb) with rfl | rfl
        · exact hel
        · exact hil
      rw [upd_ne (Nat.ne_of_lt hb')]
      exact (hf b hb).1
  done := by
    intro X hP hw hK hc i pins s σ H E I hf st hg
    subst hP hw hK
    obtain ⟨⟨old, he⟩, hit, hne⟩ := st
    obtain ⟨xs, hq, hx⟩ := hg
    obtain ⟨its, rv, p, hz⟩ := I.tuple hq
    obtain ⟨f0, f1, f2, f3, f4, f5⟩ := hf it (by simp)
    have hl := rv.length
    exact en_end (I.ok.hd hc) he hit (show s.heap.IsTuple a its.toArray from p) (by simp; omega) fun h' eb => ⟨rfl, I.turned (t' := s.toks) (fun b o hb q => eb b o hb q) f0 f1 f3 f4 f5⟩
  self := fun A i s Q E ⟨⟨_, he⟩, _⟩ h => wpAny_pyIter_enum he h
/-- enumerate of a list, of a tuple -/
def iEnA (K : PySem.W.Frag) (ta : TA) : TI := fun σ H R => ta σ H fun vs H1 => ∃ a xs, vs = [.ref a] ∧ ((SqL K H1 a xs ∧ R (Ite K a) H1) ∨ (SqT K H1 a xs ∧ R (IteT K a) H1))
theorem pi_enA {X : Cx} {e : Expr} {ta : TA} {p pos tpos : Pos} {elts : List Expr} {kk : Nat} (hg : Gl X "enumerate") (hm : X.mg "enumerate" = none) (ha : PA X [e] ta) (hs : starEach [e] X.env = [(false, eval e X.env)] := by rfl) : PI X (.Tuple elts kk tpos) (.Call (.Name "enumerate" p) [e] [] pos) (iEnA X.K ta) := by
  constructor
  intro pins s σ H R I h
  refine Call_ (ld_blt I hg hm boot_enumerate (PyProof.Rows.callWith_type1 (thn (ha.run pos pins s σ H _ I h) ?_) hs rfl))
  rintro us s1 ⟨vs, H1, I1, r1, a, xs, rfl, q⟩
  cases r1 with
  | cons r rr =>
    cases rr
    cases r
    have fp : ∀ b ∈ [s1.heap.objs.size + 1, s1.heap.objs.size], FpOk X pins H1 b := fun b hb => by
      have hle : s1.heap.objs.size ≤ b := by
        rcases (show b = s1.heap.objs.size + 1 ∨ b = s1.heap.objs.size by simpa using hb) with z | z <;> omega
      exact I1.fpOk hle (I1.hok.fresh hle)
    rcases q with ⟨hq, q⟩ | ⟨hq, q⟩
    · obtain ⟨its, rv, p', hz⟩ := I1.list hq
      exact call_enumerate_list p'.isList fun h' he hit hsz hk => wpAny_pyIter_enum he ⟨_, _, _, _, H1, rfl, I1.kept (t' := s1.toks) hk, turn_enum a (s1.heap.objs.size + 1) s1.heap.objs.size, ⟨⟨.none, he⟩, hit, Nat.succ_ne_self _⟩, fp, q⟩
    · obtain ⟨its, rv, p', hz⟩ := I1.tuple hq
      exact en_call (show s1.heap.IsTuple a its.toArray from p') fun h' he hit hsz hk => wpAny_pyIter_enum he ⟨_, _, _, _, H1, rfl, I1.kept (t' := s1.toks) hk, en_turn a (s1.heap.objs.size + 1) s1.heap.objs.size, ⟨⟨.none, he⟩, hit, Nat.succ_ne_self _⟩, fp, q⟩
/-- pairs of a number and an item -/
def enumD : Nat → List D → List D
  | _, [] => []
  | n, x :: xs => .tup [.int n, x] :: enumD (n + 1) xs
theorem enumD_len : ∀ (xs : List D) (n : Nat), (enumD n xs).length = xs.length
  | [], _ => rfl
  | _ :: xs, n => congrArg (· + 1) (enumD_len xs (n + 1))
theorem enumD_get : ∀ (xs : List D) (n i : Nat) (d : D), (enumD n xs)[i]? = some d → ∃ x, xs[i]? = some x ∧ d = .tup [.int ((n + i : Nat) : Int), x]
  | [], n, i, d, h => by simp [enumD] at h
  | x :: xs, n, 0, d, h => ⟨x, rfl, (Option.some.inj h).symm⟩
  | x :: xs, n, i + 1, d, h => by
    obtain ⟨y, h1, h2⟩ := enumD_get xs (n + 1) i d h
    exact ⟨y, h1, by rw [h2, show n + 1 + i = n + (i + 1) by omega]⟩
def dEnum (fa : DA) : DI := fun X ρ Q => fa X ρ fun ss ρ' => match ss with
  | [.dat (.tup a)] => Q (enumD 0 a) ρ'
  | [.dat (.lst a)] => Q (enumD 0 a) ρ'
  | _ => False
theorem di_enum {X : Cx} {W : WX} {e : Expr} {fa : DA} {p pos tpos : Pos} {elts : List Expr} {kk : Nat} (hm : X.mg "enumerate" = none) (ha : PA X [e] (lA X.K W fa)) (hg : Gl X "enumerate" := by rfl) (hs : starEach [e] X.env = [(false, eval e X.env)] := by rfl) :
    PI X (.Tuple elts kk tpos) (.Call (.Name "enumerate" p) [e] [] pos) (lI X.K W (dEnum fa)) :=
  pi_imp (pi_enA hg hm ha hs) fun σ H R ⟨ρ, G, la, P, XX, r, h, q, xo⟩ => ⟨ρ, G, la, _, XX, r, h, fun xs ρ1 vs G1 la1 H1 p1 a1 z1 => by
    have p1' : (match (generalizing := false) xs with
      | [.dat (.tup a)] => P (enumD 0 a) ρ1
      | [.dat (.lst a)] => P (enumD 0 a) ρ1
      | _ => False) := p1
    split at p1'
    · rename_i da
      cases z1 with
      | cons a b =>
        cases b
        cases (show Dp _ _ _ (.tup da) from a) with
        | tup ha lz ra =>
          rename_i pa va
          refine ⟨pa, va, rfl, .inr ⟨same_t a1.r.ext ha, q _ _ _ _ _ _ p1' a1 ⟨fun i H hi e => ?_, fun H e => ?_, fun i G' H x H' e e' y z hz => ?_⟩ ?_⟩⟩
          · rw [enumD_len] at hi
            have h1 : i < va.length := by rw [ra.len]; exact hi
            exact ⟨va, va[i], same_t e ha, by simp [h1]⟩
          · exact ⟨va, same_t e ha, by rw [enumD_len, ra.len]; exact Nat.le_refl _⟩
          · obtain ⟨T, u, rfl, hT, rfl, f1⟩ := y
            obtain ⟨dx, h1, rfl⟩ := enumD_get _ _ _ _ hz
            obtain ⟨d1, g1, k1⟩ := ra.getV (f1 va (same_t (e.trans e') ha))
            rw [h1] at g1
            have q1 := Option.some.inj g1
            subst q1
            rw [Nat.zero_add]
            exact pair_dp e' hT (.int _) (k1.up e)
          · rw [enumD_len, ← ra.len]
            exact Nat.le_trans lz line62
    · rename_i da
      cases z1 with
      | cons a b =>
        cases b
        cases (show Dp _ _ _ (.lst da) from a) with
        | lst ha lz ra =>
          rename_i pa va
          refine ⟨pa, va, rfl, .inl ⟨SqL.of (a1.r.ext _ _ ha), q _ _ _ _ _ _ p1' a1 ⟨fun i H hi e => ?_, fun H e => ?_, fun i G' H x H' e e' y z hz => ?_⟩ ?_⟩⟩
          · rw [enumD_len] at hi
            have h1 : i < va.length := by rw [ra.len]; exact hi
            exact ⟨va, va[i], SqL.of (e _ _ ha), by simp [h1]⟩
          · exact ⟨va, SqL.of (e _ _ ha), by rw [enumD_len, ra.len]; exact Nat.le_refl _⟩
          · obtain ⟨T, u, rfl, hT, rfl, f1⟩ := y
            obtain ⟨dx, h1, rfl⟩ := enumD_get _ _ _ _ hz
            obtain ⟨d1, g1, k1⟩ := ra.getV (f1 va (SqL.of (e' _ _ (e _ _ ha))))
            rw [h1] at g1
            have q1 := Option.some.inj g1
            subst q1
            rw [Nat.zero_add]
            exact pair_dp e' hT (.int _) (k1.up e)
          · rw [enumD_len, ← ra.len]
            exact Nat.le_trans lz line62
    · exact p1'.elim, xo⟩
end DL
set_option Elab.async false
set_option linter.all false
set_option maxRecDepth 100000
set_option maxHeartbeats 4000000
set_option autoImplicit false
/-! The data level: what was left: - of ints, is of bools, list * int, max with a default, fresh lists, three names at once; names of built-ins. -/
namespace DL
open PySem PySem.Spec PyProof.Rows L2

theorem bt_int : bootBuiltins "int" = some (.type "int") := by decide +kernel
theorem bt_bool : bootBuiltins "bool" = some (.type "bool") := by decide +kernel
theorem bt_str : bootBuiltins "str" = some (.type "str") := by decide +kernel
theorem bt_tuple : bootBuiltins "tuple" = some (.type "tuple") := by decide +kernel
theorem bt_list : bootBuiltins "list" = some (.type "list") := by decide +kernel
theorem bt_isinstance : bootBuiltins "isinstance" = some (.builtin "isinstance") := by decide +kernel
theorem bt_abs : bootBuiltins "abs" = some (.builtin "abs") := by decide +kernel
theorem bt_max : bootBuiltins "max" = some (.builtin "max") := by decide +kernel
theorem bt_min : bootBuiltins "min" = some (.builtin "min") := by decide +kernel

section
variable {X : Cx} {W : WX}
theorem de_neg {a : Expr} {fa : DE} {pos : Pos} (ha : PE X a (lE X.K W fa)) : PE X (.UnaryOp .USub a pos) (lE X.K W (dUn gNeg fa)) := de_un un_neg (fun G H x d P Q sm dx gp k => by
  unfold gNeg at gp
  split at gp
  · cases dx
    exact ⟨_, rfl, k _ _ _ _ gp (Grow.refl sm) (.int _)⟩
  · exact gp.elim) ha
end
/-! ### is, is not of bools -/
def gIsB : D → D → (D → Prop) → Prop
  | .bl a, .bl b, P => P (.bl (decide (a = b)))
  | _, _, _ => False
def gNotB : D → D → (D → Prop) → Prop
  | .bl a, .bl b, P => P (.bl (!decide (a = b)))
  | _, _, _ => False
theorem g_isB {K : PySem.W.Frag} : GOp K rIsB gIsB := by
  intro G H x y d e P Q sm dx dy gp k
  unfold gIsB at gp
  split at gp
  · cases dx
    cases dy
    exact ⟨_, _, rfl, rfl, k _ _ _ _ gp (Grow.refl sm) (.bl _)⟩
  · exact gp.elim
theorem g_notB {K : PySem.W.Frag} : GOp K rNotB gNotB := by
  intro G H x y d e P Q sm dx dy gp k
  unfold gNotB at gp
  split at gp
  · cases dx
    cases dy
    exact ⟨_, _, rfl, rfl, k _ _ _ _ gp (Grow.refl sm) (.bl _)⟩
  · exact gp.elim
/-! ### * : ints, tuples, lists -/
def rMulB (K : PySem.W.Frag) : R2 := fun x y H Q => rMulA K x y H Q ∨ rRep x y H Q
theorem op_mulB {X : Cx} : OpR X (binaryOp .Mult) (rMulB X.K) := op_mulA.or op_rep
def gMulB : D → D → (D → Prop) → Prop
  | .int i, .int j, P => CMulW i j ∧ P (.int (i * j))
  | .tup xs, .int k, P => (-1000 ≤ k ∧ k ≤ 1000 ∧ xs.length ≤ 1000) ∧ P (.tup (List.replicate k.toNat xs).flatten)
  | .lst xs, .int k, P => (-1000 ≤ k ∧ k ≤ 1000 ∧ xs.length ≤ 1000) ∧ P (.lst (List.replicate k.toNat xs).flatten)
  | _, _, _ => False
theorem g_mulB {K : PySem.W.Frag} : GOp K (rMulB K) gMulB := by
  intro G H x y d e P Q sm dx dy gp k
  unfold gMulB at gp
  split at gp
  · exact .inl (g_mulA G H x y _ _ P Q sm dx dy gp k)
  · exact .inl (g_mulA G H x y _ _ P Q sm dx dy gp k)
  · cases dy
    cases dx with
    | lst a l r =>
      rename_i xs kk p vs
      obtain ⟨⟨b1, b2, b3⟩, p1⟩ := gp
      have lz := rep_len (xs := vs) b2 (by rw [r.len]; exact b3)
      refine .inr ⟨_, kk, vs, rfl, rfl, sm _ _ a, by omega, by omega, ?_, fun q hq => k _ _ _ _ p1 (Grow.new sm hq) (.lst upd_same lz ((r.rep _).up (Grow.new sm hq).g))⟩
      rw [PyProof.Rows.lm_len_rep_flat, Nat.mul_comm] at lz
      exact lz
  · exact gp.elim
/-! ### a list that may be changed, by list(..) -/
def dNewOf (fa : DA) : DL' := fun X ρ Q => fa X ρ fun xs ρ' => match xs with
  | [.dat (.tup ds)] => Q (.ob ρ'.T.length) ⟨ρ'.T ++ [.lst ds], ρ'.s⟩
  | [.dat (.lst ds)] => Q (.ob ρ'.T.length) ⟨ρ'.T ++ [.lst ds], ρ'.s⟩
  | _ => False
section
variable {X : Cx} {W : WX}
theorem newOf_core {K : PySem.W.Frag} {G1 H1 : Hp} {la1 : List Addr} {σ : L2.St} {ρ1 : Env} {p : Addr} {vs : List V} {ds : List D} (r : Re K G1 H1 la1 σ ρ1) (hp : H1 p = none) (l : vs.length ≤ sizeLine) (d : Dps K G1 vs ds) :
    Re K G1 (upd H1 p (.lst vs)) (la1 ++ [p]) σ ⟨ρ1.T ++ [.lst ds], ρ1.s⟩ ∧ SlR K G1 (la1 ++ [p]) (.ref p) (.ob ρ1.T.length) := by
  refine ⟨⟨r.tb.fresh hp l d, r.sl, fun j y hj => ?_⟩, p, ?_, rfl⟩
  · obtain ⟨u, hu, ru⟩ := r.at_ j y hj
    exact ⟨u, hu, ru.grow (Same.refl _) (List.prefix_append _ _)⟩
  · rw [← r.tb.len, List.getElem?_append_right (Nat.le_refl _)]
    simp
theorem dl_listN {e : Expr} {p pos : Pos} {fa : DA} (hm : X.mg "list" = none) (ha : PA X [e] (lA X.K W fa)) (hgl : Gl X "list" := by rfl) (he : starEach [e] X.env = (false, eval e X.env) :: starEach [] X.env := by rfl) (hpl : (backTo pos (starEach [] X.env)).any (·.1) = false := by rfl) :
    PE X (.Call (.Name "list" p) [e] [] pos) (lL X.K W (dNewOf fa)) :=
  pe_imp (pe_callTy call_list_of hgl hm bt_list ha (by decide) (by decide) he hpl) fun σ H Q ⟨ρ, G, la, P, XX, re, h, q, xo⟩ =>
  ⟨ρ, G, la, _, XX, re, h, fun xs ρ1 vs G1 la1 H1 p1 a1 z1 => by
    have p1' : (match (generalizing := false) xs with
      | [.dat (.tup ds)] => P (.ob ρ1.T.length) ⟨ρ1.T ++ [.lst ds], ρ1.s⟩
      | [.dat (.lst ds)] => P (.ob ρ1.T.length) ⟨ρ1.T ++ [.lst ds], ρ1.s⟩
      | _ => False) := p1
    split at p1'
    · rename_i ds
      cases z1 with
      | cons a b =>
        cases b
        cases (show Dp _ _ _ (.tup ds) from a) with
        | tup ha l r =>
          refine ⟨_, _, rfl, .inr (same_t a1.r.ext ha), fun p hp => ?_⟩
          obtain ⟨c1, c2⟩ := newOf_core a1.r hp l r
          exact q _ _ _ G1 (la1 ++ [p]) _ p1' ⟨a1.g, a1.p.trans (List.prefix_append _ _), c1⟩ c2
    · rename_i ds
      cases z1 with
      | cons a b =>
        cases b
        cases (show Dp _ _ _ (.lst ds) from a) with
        | lst ha l r =>
          refine ⟨_, _, rfl, .inl (SqL.of (a1.r.ext _ _ ha)), fun p hp => ?_⟩
          obtain ⟨c1, c2⟩ := newOf_core a1.r hp l r
          exact q _ _ _ G1 (la1 ++ [p]) _ p1' ⟨a1.g, a1.p.trans (List.prefix_append _ _), c1⟩ c2
    · exact p1'.elim, xo⟩
/-- three names at once -/
theorem ds_par3 (i j l : Nat) {x y z : Str} {a b c : Expr} {f g h : DL'} {px py pz pt pos : Pos} {kt k2 pt2} (hc : X.calm = true) (hN : X.N.Nodup) (ha : PA X [a, b, c] (lA X.K W (dCons f (dCons g (dCons h dNil))))) (hw : swappedStores [.Tuple [.Name x px, .Name y py, .Name z pz] kt pt] (.Tuple [a, b, c] k2 pt2) X.env = pure (some [x, y, z]) := by rfl)
    (hi : X.N[i]? = some x := by rfl) (hj : X.N[j]? = some y := by rfl) (hl : X.N[l]? = some z := by rfl) (hij : i ≠ j := by decide) (hil : i ≠ l := by decide) (hjl : j ≠ l := by decide) (hx : X.env.scope.names.lookup x = some .local := by rfl) (hy : X.env.scope.names.lookup y = some .local := by rfl) (hz : X.env.scope.names.lookup z = some .local := by rfl)
    (hs : swapsWithSole [.Tuple [.Name x px, .Name y py, .Name z pz] kt pt] (.Tuple [a, b, c] k2 pt2) pos.line X.env = pure false := by rfl) : PS X (.Assign [.Tuple [.Name x px, .Name y py, .Name z pz] kt pt] (.Tuple [a, b, c] k2 pt2) pos) (lS X.K W (sPar3 i j l f g h)) :=
  ps_imp (ps_par3 hc hN hi hj hl hij hil hjl hx hy hz ha hw hs) fun D σ H ⟨ρ, G, la, E, r, hh, b⟩ => ⟨ρ, G, la, fun xs ρ2 => ∃ u v w, xs = [u, v, w] ∧ E.nx ⟨ρ2.T, ((ρ2.s.set i (some u)).set j (some v)).set l (some w)⟩, _, r, by
    show f E.xn ρ fun x ρ1 => g E.xn ρ1 fun y ρ2 => h E.xn ρ2 fun z ρ3 => ∃ u v w, [x, y, z] = [u, v, w] ∧ E.nx ⟨ρ3.T, ((ρ3.s.set i (some u)).set j (some v)).set l (some w)⟩
    have e : (fun (x : Sl) (ρ1 : Env) => g E.xn ρ1 fun y ρ2 => h E.xn ρ2 fun z ρ3 => ∃ u v w, [x, y, z] = [u, v, w] ∧ E.nx ⟨ρ3.T, ((ρ3.s.set i (some u)).set j (some v)).set l (some w)⟩) = fun x ρ1 => g E.xn ρ1 fun y ρ2 => h E.xn ρ2 fun z ρ3 => E.nx ⟨ρ3.T, ((ρ3.s.set i (some x)).set j (some y)).set l (some z)⟩ := by
      funext x ρ1
      congr 1
      funext y ρ2
      congr 1
      funext z ρ3
      apply propext
      constructor
      · rintro ⟨u, v, w, h1, h2⟩
        cases h1
        exact h2
      · intro h2
        exact ⟨x, y, z, rfl, h2⟩
    rw [e]
    exact hh, fun xs ρ2 vs G2 la2 H2 p a z => by
    obtain ⟨u, v, w, rfl, p⟩ := p
    cases z with
    | cons z1 z =>
      cases z with
      | cons z2 z =>
        cases z with
        | cons z3 z =>
          cases z
          exact ⟨_, _, _, rfl, b.nx _ _ _ _ _ p ⟨a.g, a.p, ((a.r.set z1).set (ρ := ⟨ρ2.T, ρ2.s.set i (some u)⟩) z2).set (ρ := ⟨ρ2.T, (ρ2.s.set i (some u)).set j (some v)⟩) z3⟩⟩, b.xn⟩
end
end DL
set_option Elab.async false
set_option linter.all false
set_option maxRecDepth 100000
set_option maxHeartbeats 4000000
set_option autoImplicit false
/-! The data level: lemmas for walking by simp. -/
namespace DL
open PySem PySem.Spec PyProof.Rows L2
theorem valK_dat (Q : D → Env → Prop) (d : D) (ρ : Env) : @valK ⟨Q⟩ (.dat d) ρ = Q d ρ := rfl
theorem valK_ob (Q : D → Env → Prop) (k : Nat) (ρ : Env) : @valK ⟨Q⟩ (.ob k) ρ = match ρ.T[k]? with
    | some (.lst xs) => Q (.lst xs) ⟨ρ.T.set k .dead, ρ.s⟩
    | _ => False := rfl
/-! ### places of short lists -/
section
variable {α : Type}
theorem atI_nat (xs : List α) (i : Nat) : atI xs (i : Int) = xs[i]? := by
  unfold atI ixN
  by_cases h : (i : Int) < xs.length
  · rw [if_pos (by omega), if_pos h]
    rfl
  · rw [if_pos (by omega), if_neg h]
    show none = _
    rw [List.getElem?_eq_none (by omega)]
theorem atI_0 (x : α) (r : List α) : atI (x :: r) 0 = some x := atI_nat (x :: r) 0
theorem atI_1 (x y : α) (r : List α) : atI (x :: y :: r) 1 = some y := atI_nat (x :: y :: r) 1
theorem atI_2 (x y z : α) (r : List α) : atI (x :: y :: z :: r) 2 = some z := atI_nat (x :: y :: z :: r) 2
theorem atI_last (xs : List α) (x : α) : atI (xs ++ [x]) (-1) = some x := by
  unfold atI ixN
  rw [if_neg (by omega), if_pos (by simp; omega)]
  show (xs ++ [x])[(((xs ++ [x]).length : Int) + -1).toNat]? = some x
  rw [show (((xs ++ [x]).length : Int) + -1).toNat = xs.length by simp; omega]
  simp
theorem atI_pos {xs : List α} {i : Int} (h : 0 ≤ i) : atI xs i = xs[i.toNat]? := by
  have := atI_nat xs i.toNat
  rwa [Int.toNat_of_nonneg h] at this
theorem atI_some {xs : List α} {i : Int} (h : 0 ≤ i) (h2 : i < xs.length) : atI xs i = some (xs[i.toNat]'(by omega)) := by
  rw [atI_pos h, List.getElem?_eq_getElem]
theorem ixN_pos {n : Nat} {i : Int} (h : 0 ≤ i) (h2 : i < n) : ixN n i = some i.toNat := by
  unfold ixN
  rw [if_pos h, if_pos h2]
theorem ixN_20 : ixN 2 0 = some 0 := rfl
theorem ixN_21 : ixN 2 1 = some 1 := rfl
theorem atI_map' (f : Int → D) (xs : List Int) (i : Int) : atI (xs.map f) i = (atI xs i).map f := by
  unfold atI
  rw [List.length_map]
  cases ixN xs.length i with
  | none => rfl
  | some j => simp
theorem set_last (T : List α) (x y : α) : (T ++ [x]).set T.length y = T ++ [y] := by simp
theorem get_last (T : List α) (x : α) : (T ++ [x])[T.length]? = some x := by simp
theorem take_last (T : List α) (x : α) : (T ++ [x]).take T.length = T := by simp
end
/-! ### equality of data -/
theorem deq_str (a b : Str) : deq (.str a) (.str b) = (a == b) := by simp [deq, toP, PyData.eqv]
theorem deq_int (a b : Int) : deq (.int a) (.int b) = (a == b) := by simp [deq, toP, PyData.eqv]
theorem deq_non : deq .non .non = true := by simp [deq, toP, PyData.eqv]
theorem deq_bl (a b : Bool) : deq (.bl a) (.bl b) = (a == b) := by simp [deq, toP, PyData.eqv]
theorem deq_tt (a b : List D) : deq (.tup a) (.tup b) = deqs a b := by simp [deq, deqs, toP, PyData.eqv]
theorem deq_ll (a b : List D) : deq (.lst a) (.lst b) = deqs a b := by simp [deq, deqs, toP, PyData.eqv]
theorem deqs_nn : deqs [] [] = true := by simp [deqs, toPs, PyData.eqvAll]
theorem deqs_cc (a b : D) (r s : List D) : deqs (a :: r) (b :: s) = (deq a b && deqs r s) := by simp [deq, deqs, toPs, PyData.eqvAll]
theorem deqs_nc (b : D) (s : List D) : deqs [] (b :: s) = false := by simp [deqs, toPs, PyData.eqvAll]
theorem deqs_cn (b : D) (s : List D) : deqs (b :: s) [] = false := by simp [deqs, toPs, PyData.eqvAll]
theorem deq_sn (a : Str) : deq (.str a) .non = false := by simp [deq, toP, PyData.eqv]
theorem deq_ni (a : Int) : deq .non (.int a) = false := by simp [deq, toP, PyData.eqv]
theorem deq_in (a : Int) : deq (.int a) .non = false := by simp [deq, toP, PyData.eqv]
theorem deq_tn (a : List D) : deq (.tup a) .non = false := by simp [deq, toP, PyData.eqv]
theorem deq_nt (a : List D) : deq .non (.tup a) = false := by simp [deq, toP, PyData.eqv]
mutual
theorem eqvP_refl : ∀ (n : Nat) (d : D), okd n d = true → PyData.eqv (toP d) (toP d) = true
  | _, .non, _ => by simp [toP, PyData.eqv]
  | _, .bl b, _ => by simp [toP, PyData.eqv]
  | _, .int b, _ => by simp [toP, PyData.eqv]
  | _, .str b, _ => by simp [toP, PyData.eqv]
  | n, .raw _, h => by simp [okd] at h
  | 0, .tup xs, h => by simp [okd] at h
  | n + 1, .tup xs, h => by
    simp only [okd] at h
    simp only [toP, PyData.eqv]
    exact eqvPs_refl n xs h
  | 0, .lst xs, h => by simp [okd] at h
  | n + 1, .lst xs, h => by
    simp only [okd] at h
    simp only [toP, PyData.eqv]
    exact eqvPs_refl n xs h
  | n, .scr ns, h => by
    simp only [toP, PyData.eqv]
    clear h
    induction ns with
    | nil => simp [PyData.eqvAll]
    | cons x r ih => simp [PyData.eqvAll, PyData.eqv, ih]
theorem eqvPs_refl : ∀ (n : Nat) (ds : List D), okds n ds = true → PyData.eqvAll (toPs ds) (toPs ds) = true
  | _, [], _ => by simp [toPs, PyData.eqvAll]
  | n, d :: ds, h => by
    simp only [okds, Bool.and_eq_true] at h
    simp only [toPs, PyData.eqvAll, Bool.and_eq_true]
    exact ⟨eqvP_refl n d h.1, eqvPs_refl n ds h.2⟩
end
theorem deq_refl {d : D} (n : Nat) (h : okd n d = true) : deq d d = true := eqvP_refl n d h
mutual
theorem okd_up : ∀ (n : Nat) (d : D), okd n d = true → okd (n + 1) d = true
  | _, .non, _ => by simp [okd]
  | _, .bl b, _ => by simp [okd]
  | _, .int b, _ => by simp [okd]
  | _, .str b, _ => by simp [okd]
  | n, .raw _, h => by simp [okd] at h
  | 0, .tup xs, h => by simp [okd] at h
  | n + 1, .tup xs, h => by
    simp only [okd] at h ⊢
    exact okds_up n xs h
  | 0, .lst xs, h => by simp [okd] at h
  | n + 1, .lst xs, h => by
    simp only [okd] at h ⊢
    exact okds_up n xs h
  | n, .scr ns, h => by simp [okd] at h
theorem okds_up : ∀ (n : Nat) (ds : List D), okds n ds = true → okds (n + 1) ds = true
  | _, [], _ => by simp [okds]
  | n, d :: ds, h => by
    simp only [okds, Bool.and_eq_true] at h ⊢
    exact ⟨okd_up n d h.1, okds_up n ds h.2⟩
end
theorem okd_le {n m : Nat} {d : D} (h : okd n d = true) (l : n ≤ m) : okd m d = true := by
  induction l with
  | refl => exact h
  | step _ ih => exact okd_up _ _ ih
theorem okds_iff (n : Nat) : ∀ ds : List D, okds n ds = true ↔ ∀ d ∈ ds, okd n d = true
  | [] => by simp [okds]
  | d :: ds => by simp [okds, okds_iff n ds]
theorem okd_item {n : Nat} {ds : List D} {d : D} (h : okd (n + 1) (.tup ds) = true) (m : d ∈ ds) : okd (n + 1) d = true := by
  simp only [okd] at h
  exact okd_up _ _ ((okds_iff n ds).mp h d m)
theorem okd_itemL {n : Nat} {ds : List D} {d : D} (h : okd (n + 1) (.lst ds) = true) (m : d ∈ ds) : okd (n + 1) d = true := by
  simp only [okd] at h
  exact okd_up _ _ ((okds_iff n ds).mp h d m)
theorem okd_non (n : Nat) : okd n .non = true := by simp [okd]
theorem okd_bl (n : Nat) (b : Bool) : okd n (.bl b) = true := by simp [okd]
theorem okd_int (n : Nat) (i : Int) : okd n (.int i) = true := by simp [okd]
theorem okd_str (n : Nat) (x : Str) : okd n (.str x) = true := by simp [okd]
theorem okds_nil (n : Nat) : okds n [] = true := by simp [okds]
theorem okds_cons (n : Nat) (d : D) (r : List D) : okds n (d :: r) = (okd n d && okds n r) := by simp [okds]
theorem okd_60t (xs : List D) : okd 60 (.tup xs) = okds 59 xs := by simp [okd]
theorem okd_59t (xs : List D) : okd 59 (.tup xs) = okds 58 xs := by simp [okd]
theorem okd_58t (xs : List D) : okd 58 (.tup xs) = okds 57 xs := by simp [okd]
theorem okd_60l (xs : List D) : okd 60 (.lst xs) = okds 59 xs := by simp [okd]
theorem okd_59l (xs : List D) : okd 59 (.lst xs) = okds 58 xs := by simp [okd]
theorem okd_58l (xs : List D) : okd 58 (.lst xs) = okds 57 xs := by simp [okd]
theorem st_tk : (("to" : Str) == ("bark" : Str)) = false := by decide
theorem st_tb : (("to" : Str) == ("back" : Str)) = false := by decide
theorem st_tf : (("to" : Str) == ("front" : Str)) = false := by decide
theorem st_kt : (("bark" : Str) == ("to" : Str)) = false := by decide
theorem st_kb : (("bark" : Str) == ("back" : Str)) = false := by decide
theorem st_kf : (("bark" : Str) == ("front" : Str)) = false := by decide
theorem st_bt : (("back" : Str) == ("to" : Str)) = false := by decide
theorem st_bk : (("back" : Str) == ("bark" : Str)) = false := by decide
theorem st_bf : (("back" : Str) == ("front" : Str)) = false := by decide
theorem st_ft : (("front" : Str) == ("to" : Str)) = false := by decide
theorem st_fk : (("front" : Str) == ("bark" : Str)) = false := by decide
theorem st_fb : (("front" : Str) == ("back" : Str)) = false := by decide
theorem nat_num (n : Nat) : ((@OfNat.ofNat Nat n (instOfNatNat n) : Nat) : Int) = (@OfNat.ofNat Int n (@instOfNat n)) := rfl
/-! ### tuples of whole numbers -/
def tupI (xs : List Int) : D := .tup (xs.map .int)
theorem okds_ints (n : Nat) (xs : List Int) : okds n (xs.map .int) = true := by
  rw [okds_iff]
  intro d hd
  obtain ⟨x, _, rfl⟩ := List.mem_map.mp hd
  simp [okd]
theorem okd_tupI (n : Nat) (xs : List Int) : okd (n + 1) (tupI xs) = true := by
  simp only [tupI, okd]
  exact okds_ints n xs
theorem okd_tI (n : Nat) (xs : List Int) : okd (n + 1) (.tup (xs.map .int)) = true := okd_tupI n xs
theorem dat_tI (xs : List Int) : D.tup (xs.map .int) = tupI xs := rfl
theorem intsOf_map : ∀ xs : List Int, intsOf (xs.map .int) = some xs
  | [] => rfl
  | x :: r => by
    show (intsOf (r.map .int)).map (x :: ·) = _
    rw [intsOf_map r]
    rfl
theorem gIx_tupI (xs : List Int) (i : Int) (P : D → Prop) : gIx (tupI xs) (.int i) P = (match atI xs i with | some n => P (.int n) | none => False) := by
  show (match atI (xs.map .int) i with | some d => P d | none => False) = _
  rw [atI_map']
  cases atI xs i <;> rfl
theorem gLen_tupI (xs : List Int) (P : D → Prop) : gLen [tupI xs] P = P (.int xs.length) := by
  show P (.int (xs.map D.int).length) = _
  rw [List.length_map]
theorem cutL_map {α β : Type} (f : α → β) (xs : List α) (lo hi : Option Int) : cutL (xs.map f) lo hi = (cutL xs lo hi).map f := by
  unfold cutL
  rw [List.length_map, List.map_take, List.map_drop]
theorem gSl_tupI (xs : List Int) (lo hi : Option Int) (P : D → Prop) : gSl (tupI xs) lo hi P = P (tupI (cutL xs lo hi)) := by
  show P (.tup (cutL (xs.map D.int) lo hi)) = _
  rw [cutL_map]
  rfl
theorem gAdd_tupI (xs ys : List Int) (P : D → Prop) : gAdd (tupI xs) (tupI ys) P = (xs.length + ys.length ≤ sizeLine ∧ P (tupI (xs ++ ys))) := by
  show ((xs.map D.int).length + (ys.map D.int).length ≤ sizeLine ∧ P (.tup (xs.map D.int ++ ys.map D.int))) = _
  rw [List.length_map, List.length_map, ← List.map_append]
  rfl
theorem cut_to {α : Type} (xs : List α) {i : Int} (h : 0 ≤ i) (h2 : i ≤ xs.length) : cutL xs none (some i) = xs.take i.toNat := by
  unfold cutL
  rw [HT.sIx_none, show HT.sIx xs.length xs.length (some i) = min i.toNat xs.length by
    have := HT.sIx_nat xs.length xs.length i.toNat
    rwa [Int.toNat_of_nonneg h] at this]
  rw [show min i.toNat xs.length = i.toNat by omega]
  simp
theorem cut_from {α : Type} (xs : List α) {i : Int} (h : 0 ≤ i) : cutL xs (some i) none = xs.drop i.toNat := by
  unfold cutL
  rw [HT.sIx_none, show HT.sIx xs.length 0 (some i) = min i.toNat xs.length by
    have := HT.sIx_nat xs.length 0 i.toNat
    rwa [Int.toNat_of_nonneg h] at this]
  by_cases q : i.toNat ≤ xs.length
  · rw [Nat.min_eq_left q]
    rw [List.take_of_length_le]
    simp
  · rw [Nat.min_eq_right (by omega)]
    simp
    omega
/-! ### walks -/
theorem loop_inv {g : DG} {B : DS} {E : DN} (I : List D → Env → Prop) (step : ∀ d r ρ, I (d :: r) ρ → ∀ N : Env → Prop, (∀ ρ', I r ρ' → N ρ') → g d ρ fun ρ' => B { E with nx := N, ct := N, bk := E.nx } ρ') (done : ∀ ρ, I [] ρ → E.nx ρ) : ∀ (ds : List D) (ρ : Env), I ds ρ → loopD g B E ds ρ
  | [], ρ, h => done ρ h
  | d :: ds, ρ, h => step d ds ρ h (loopD g B E ds) fun ρ' h' => loop_inv I step done ds ρ' h'
theorem comp_inv {g : DG} {t : DT} {e : DE} {own : List Nat} {k : Nat} {T : List Ob} {s0 : List (Option Sl)} {Q : Env → Prop} (hk : k = T.length) (I : List D → List D → List Ob → Prop)
    (step : ∀ d r acc T', T'.length = k → acc.length + (d :: r).length ≤ sizeLine → I (d :: r) acc T' → ∀ R : Option D → Env → Prop, (∀ o T'' s', T''.length = k → I r (acc ++ o.toList) T'' → wipeS s' own = s0 → R o ⟨T'' ++ [.lst acc], s'⟩) →
      g d ⟨T' ++ [.lst acc], s0⟩ fun ρ1 => t X0 ρ1 fun b ρ2 => if b = true then e X0 ρ2 fun y ρ3 => R (some y) ρ3 else R none ρ2)
    (done : ∀ acc T' s', T'.length = k → I [] acc T' → wipeS s' own = s0 → Q ⟨T' ++ [.lst acc], s'⟩) : ∀ (ds acc : List D) (T' : List Ob) (s' : List (Option Sl)), T'.length = k → acc.length + ds.length ≤ sizeLine → I ds acc T' → wipeS s' own = s0 → compD g t e own k ds ⟨T' ++ [.lst acc], s'⟩ Q
  | [], acc, T', s', hl, _, h, hs => done acc T' s' hl h hs
  | d :: ds, acc, T', s', hl, hz, h, hs => by
    unfold compD
    simp only
    rw [hs]
    refine step d ds acc T' hl hz h (fun o ρ3 => match o with
      | some y => match ρ3.T[k]? with
        | some (.lst acc) => acc.length < sizeLine ∧ compD g t e own k ds ⟨ρ3.T.set k (.lst (acc ++ [y])), ρ3.s⟩ Q
        | _ => False
      | none => compD g t e own k ds ρ3 Q) ?_
    intro o T'' s'' hl2 h2 hs2
    rw [List.length_cons] at hz
    cases o with
    | none => exact comp_inv hk I step done ds acc T'' s'' hl2 (by omega) (by simpa using h2) hs2
    | some y =>
      show (match (T'' ++ [Ob.lst acc])[k]? with
        | some (.lst acc) => acc.length < sizeLine ∧ compD g t e own k ds ⟨(T'' ++ [Ob.lst _]).set k (.lst (acc ++ [y])), s''⟩ Q
        | _ => False)
      rw [← hl2, get_last]
      simp only
      rw [set_last, hl2]
      exact ⟨by omega, comp_inv hk I step done ds (acc ++ [y]) T'' s'' hl2 (by rw [List.length_append]; simp; omega) h2 hs2⟩
/-- a comprehension whose turns change nothing else -/
theorem dComp_pure {fi : DI} {g : DG} {t : DT} {e : DE} {own : List Nat} {X : XP} {ρ : Env} {Q : D → Env → Prop} (h : D → Option D) (ds : List D) (T : List Ob) (s s0 : List (Option Sl)) (hfi : ∀ P : List D → Env → Prop, P ds ⟨T, s⟩ → fi X ρ P)
    (hs : wipeS s own = s0) (hs2 : wipeS s0 own = s0) (hlow : lowS T.length s0 = true) (hz : ds.length ≤ sizeLine)
    (step : ∀ d ∈ ds, ∀ acc, ∀ R : Option D → Env → Prop, (∀ s', wipeS s' own = s0 → R (h d) ⟨T ++ [.lst acc], s'⟩) → g d ⟨T ++ [.lst acc], s0⟩ fun ρ1 => t X0 ρ1 fun b ρ2 => if b = true then e X0 ρ2 fun y ρ3 => R (some y) ρ3 else R none ρ2)
    (q : Q (.lst (ds.filterMap h)) ⟨T, s0⟩) : dComp fi g t e own X ρ Q := by
  unfold dComp
  apply hfi
  simp only
  rw [hs]
  refine comp_inv rfl (fun r acc T' => T' = T ∧ (∀ d ∈ r, d ∈ ds) ∧ acc ++ r.filterMap h = ds.filterMap h) ?_ ?_ ds [] T s0 rfl (by simpa using hz) ⟨rfl, fun d h => h, rfl⟩ hs2
  · rintro d r acc T' hl hz ⟨rfl, hm, he⟩ R hR
    refine step d (hm d List.mem_cons_self) acc R fun s' hs' => hR _ _ _ rfl ⟨rfl, fun d' m => hm d' (List.mem_cons_of_mem _ m), ?_⟩ hs'
    rw [← he, List.filterMap_cons]
    cases h d <;> simp
  · rintro acc T' s' hl ⟨rfl, hm, he⟩ hs'
    simp only [List.filterMap_nil, List.append_nil] at he
    rw [get_last]
    simp only
    rw [hs', take_last, he]
    exact ⟨hlow, q⟩
/-- a comprehension whose turns change lists -/
theorem dComp_any {fi : DI} {g : DG} {t : DT} {e : DE} {own : List Nat} {X : XP} {ρ : Env} {Q : D → Env → Prop} (I : List D → List D → List Ob → Prop) (ds : List D) (T : List Ob) (s s0 : List (Option Sl)) (hfi : ∀ P : List D → Env → Prop, P ds ⟨T, s⟩ → fi X ρ P)
    (hs : wipeS s own = s0) (hs2 : wipeS s0 own = s0) (hlow : lowS T.length s0 = true) (hz : ds.length ≤ sizeLine) (h0 : I ds [] T)
    (step : ∀ d r acc T', T'.length = T.length → acc.length + (d :: r).length ≤ sizeLine → I (d :: r) acc T' → ∀ R : Option D → Env → Prop, (∀ o T'' s', T''.length = T.length → I r (acc ++ o.toList) T'' → wipeS s' own = s0 → R o ⟨T'' ++ [.lst acc], s'⟩) →
      g d ⟨T' ++ [.lst acc], s0⟩ fun ρ1 => t X0 ρ1 fun b ρ2 => if b = true then e X0 ρ2 fun y ρ3 => R (some y) ρ3 else R none ρ2)
    (q : ∀ acc T', T'.length = T.length → I [] acc T' → Q (.lst acc) ⟨T', s0⟩) : dComp fi g t e own X ρ Q := by
  unfold dComp
  apply hfi
  simp only
  rw [hs]
  refine comp_inv rfl I step ?_ ds [] T s0 rfl (by simpa using hz) h0 hs2
  intro acc T' s' hl hI hs'
  simp only
  rw [← hl, get_last]
  simp only
  rw [hs', take_last, hl]
  exact ⟨hlow, q acc T' hl hI⟩
def compK (g : DG) (t : DT) (e : DE) (own : List Nat) (Q : D → Env → Prop) : List D → Env → Prop := fun ds ρ1 => compD g t e own ρ1.T.length ds ⟨ρ1.T ++ [.lst []], wipeS ρ1.s own⟩ fun ρ2 => match ρ2.T[ρ1.T.length]? with
  | some (.lst acc) => lowS ρ1.T.length (wipeS ρ2.s own) = true ∧ Q (.lst acc) ⟨ρ2.T.take ρ1.T.length, wipeS ρ2.s own⟩
  | _ => False
def compC [h : Kept (D → Env → Prop)] (g : DG) (t : DT) (e : DE) (own : List Nat) : List D → Env → Prop := compK g t e own h.q
theorem dComp_eq (fi : DI) (g : DG) (t : DT) (e : DE) (own : List Nat) (X : XP) (ρ : Env) (Q : D → Env → Prop) : dComp fi g t e own X ρ Q = fi X ρ (@compC ⟨Q⟩ g t e own) := rfl
theorem compK_any {g : DG} {t : DT} {e : DE} {own : List Nat} {Q : D → Env → Prop} (I : List D → List D → List Ob → Prop) {ds : List D} {T : List Ob} {s : List (Option Sl)} (s0 : List (Option Sl))
    (hs : wipeS s own = s0) (hs2 : wipeS s0 own = s0) (hlow : lowS T.length s0 = true) (hz : ds.length ≤ sizeLine) (h0 : I ds [] T)
    (step : ∀ d r acc T', T'.length = T.length → acc.length + (d :: r).length ≤ sizeLine → I (d :: r) acc T' → ∀ R : Option D → Env → Prop, (∀ o T'' s', T''.length = T.length → I r (acc ++ o.toList) T'' → wipeS s' own = s0 → R o ⟨T'' ++ [.lst acc], s'⟩) →
      g d ⟨T' ++ [.lst acc], s0⟩ fun ρ1 => t X0 ρ1 fun b ρ2 => if b = true then e X0 ρ2 fun y ρ3 => R (some y) ρ3 else R none ρ2)
    (q : ∀ acc T', T'.length = T.length → I [] acc T' → Q (.lst acc) ⟨T', s0⟩) : compK g t e own Q ds ⟨T, s⟩ :=
  dComp_any (fi := fun _ ρ P => P ds ⟨T, s⟩) (X := X0) (ρ := ⟨T, s⟩) I ds T s s0 (fun _ h => h) hs hs2 hlow hz h0 step q
theorem compK_pure {g : DG} {t : DT} {e : DE} {own : List Nat} {Q : D → Env → Prop} (h : D → Option D) {ds : List D} {T : List Ob} {s : List (Option Sl)} (s0 : List (Option Sl))
    (hs : wipeS s own = s0) (hs2 : wipeS s0 own = s0) (hlow : lowS T.length s0 = true) (hz : ds.length ≤ sizeLine)
    (step : ∀ d ∈ ds, ∀ acc, ∀ R : Option D → Env → Prop, (∀ s', wipeS s' own = s0 → R (h d) ⟨T ++ [.lst acc], s'⟩) → g d ⟨T ++ [.lst acc], s0⟩ fun ρ1 => t X0 ρ1 fun b ρ2 => if b = true then e X0 ρ2 fun y ρ3 => R (some y) ρ3 else R none ρ2)
    (q : Q (.lst (ds.filterMap h)) ⟨T, s0⟩) : compK g t e own Q ds ⟨T, s⟩ :=
  dComp_pure (fi := fun _ ρ P => P ds ⟨T, s⟩) (X := X0) (ρ := ⟨T, s⟩) h ds T s s0 (fun _ h => h) hs hs2 hlow hz step q
theorem take_len {α : Type} {T T' : List α} (h : T'.length = T.length) : T'.take T.length = T' := List.take_of_length_le (by omega)
end DL
set_option Elab.async false
set_option linter.all false
set_option maxRecDepth 100000
set_option maxHeartbeats 4000000
set_option autoImplicit false
/-! max(xs, default=d). -/
namespace PySem
theorem mxd_args (a d : Value) : argsOk "max" ⟨[a], [("default", d)]⟩ := by
  unfold argsOk
  kernel_rfl
section
variable {prog : Program} {w : World} {A : Around} {R : Result → Shared → Prop} {I : Addr} {fp wr : List Addr} {n : Nat} {P : Nat → Value → Prop} {St : Nat → Heap → Prop}
theorem mxd_loop (Wk : Walks prog w A.in1 I fp wr n P St) (lt : Nat → Nat → Bool) (cmp : CmpOf prog w A.in1 .Gt P lt) (S : Addr) (nS : S ∉ fp) (d : Value) :
    ∀ (m j : Nat) (s : Shared) (its : Array Value) (cc : Nat), n - j = m → j ≤ n → St j s.heap → ((j = 0 ∧ its = #[]) ∨ (∃ vb, 0 < j ∧ P (argBest lt (j - 1)) vb ∧ its = #[vb, vb])) → s.heap.get? S = some { cls := .type "list", dict := none, data := .seq its cc, slots := #[] } →
    (∀ (v : Value) (h2 : Heap) (tk : Nat), ((n = 0 ∧ v = d) ∨ (0 < n ∧ P (argBest lt (n - 1)) v)) → (∀ b o, b ∉ wr → b ≠ S → s.heap.get? b = some o → h2.get? b = some o) → R (.ok (.ret v)) { s with heap := h2, toks := tk }) →
    codeAny (model prog w) A (.builtin "max.loop" ⟨[.ref I, .none, .ref S], [("default", d)]⟩) R s := by
  have nw : S ∉ wr := fun z => nS (Wk.sub _ z)
  have nm : (toString "max" ++ toString ".loop" : String) = "max.loop" := by decide
  intro m
  induction m with
  | zero =>
    intro j s its cc hm hj st hb hS hR
    have hn : j = n := by omega
    subst hn
    refine codeAny_builtin F.entry_max_loop ?_
    rw [Around.under_plainId F.plain_max_loop _]
    show wpAny _ A.in1 (seqItems? (.ref S) >>= _) _ _ s
    refine wpAny_bind (wpAny_seqItems hS rfl ?_)
    show wpAny _ A.in1 (tryCatch (pyNext (.ref I)) _ >>= _) _ _ s
    refine wpAny_bind (wpAny_tryCatch (Wk.done s _ _ st fun h2 tk kp => ?_))
    have hS2 := kp S _ nw hS
    rcases hb with ⟨rfl, rfl⟩ | ⟨vb, j0, hp, rfl⟩
    · show wpAny _ A.in1 (rule _ >>= _) _ _ _
      refine wpAny_bind (wpAny_rule (wpAny_pure ?_))
      exact hR d h2 tk (.inl ⟨rfl, rfl⟩) fun b o x1 x2 e => kp b o x1 e
    · show wpAny _ A.in1 (updateSeq S (fun _ => #[]) >>= _) _ _ _
      refine wpAny_bind ?_
      refine wpAny_updateSeq hS2 rfl (wpAny_bind (wpAny_letGo (wpAny_pure ?_)))
      exact hR vb _ tk (.inr ⟨j0, hp⟩) fun b o x1 x2 e => (Heap.get?_update_other _ _ (Ne.symm x2)).trans (kp b o x1 e)
  | succ m ih =>
    intro j s its cc hm hj st hb hS hR
    have jn : j < n := by omega
    refine codeAny_builtin F.entry_max_loop ?_
    rw [Around.under_plainId F.plain_max_loop _]
    show wpAny _ A.in1 (seqItems? (.ref S) >>= _) _ _ s
    refine wpAny_bind (wpAny_seqItems hS rfl ?_)
    show wpAny _ A.in1 (tryCatch (pyNext (.ref I)) _ >>= _) _ _ s
    refine wpAny_bind (wpAny_tryCatch (Wk.item j s _ _ jn st fun v h2 tk pv st2 kp => ?_))
    have hS2 := kp S _ nw hS
    rcases hb with ⟨rfl, rfl⟩ | ⟨vb, j0, hp, rfl⟩
    · show wpAny _ A.in1 (updateSeq S (fun _ => #[v, v]) >>= _) _ _ _
      refine wpAny_bind ?_
      refine wpAny_updateSeq hS2 rfl ?_
      rw [nm]
      refine wpAny_pure ⟨plainId_quiet F.plain_max_loop _, ih 1 _ #[v, v] _ (by omega) (by omega) (Wk.frame _ _ _ st2 fun b hbf o e => ?_) (.inr ⟨v, Nat.one_pos, pv, rfl⟩) (Heap.get?_update_self _ hS2 rfl) fun u h3 tk3 hu kp3 => ?_⟩
      · exact (Heap.get?_update_other _ _ (fun z : S = b => nS (z ▸ hbf))).trans e
      · exact hR u h3 tk3 hu fun b o x1 x2 e => kp3 b o x1 x2 ((Heap.get?_update_other _ _ (Ne.symm x2)).trans (kp b o x1 e))
    · show wpAny _ A.in1 (tryCatch (holding [v, v] (richCompare .Gt v vb >>= _)) _ >>= _) _ _ _
      refine wpAny_bind (wpAny_tryCatch (wpAny_holding (wpAny_bind (cmp j (argBest lt (j - 1)) v vb _ _ _ pv hp ?_))))
      refine wpAny_bind (wpAny_holding (wpAny_truthy_bool ?_))
      refine wpAny_bind (wpAny_letGo (wpAny_pure ?_))
      obtain ⟨i, rfl⟩ : ∃ i, j = i + 1 := ⟨j - 1, by omega⟩
      simp only [Nat.add_sub_cancel] at hp ⊢
      cases hq : lt (i + 1) (argBest lt i) with
      | true =>
        simp only [if_true]
        refine wpAny_bind ?_
        refine wpAny_updateSeq hS2 rfl (wpAny_bind (wpAny_letGo ?_))
        rw [nm]
        refine wpAny_pure ⟨plainId_quiet F.plain_max_loop _, ih (i + 2) _ #[v, v] _ (by omega) (by omega) (Wk.frame _ _ _ st2 fun b hbf o e => ?_) (.inr ⟨v, by omega, (show P (argBest lt (i + 1)) v by simp only [argBest, hq, if_true]; exact pv), rfl⟩) (Heap.get?_update_self _ hS2 rfl) fun u h3 tk3 hu kp3 => ?_⟩
        · exact (Heap.get?_update_other _ _ (fun z : S = b => nS (z ▸ hbf))).trans e
        · exact hR u h3 tk3 hu fun b o x1 x2 e => kp3 b o x1 x2 ((Heap.get?_update_other _ _ (Ne.symm x2)).trans (kp b o x1 e))
      | false =>
        simp only [Bool.false_eq_true, if_false]
        refine wpAny_bind (wpAny_letGo ?_)
        rw [nm]
        refine wpAny_pure ⟨plainId_quiet F.plain_max_loop _, ih (i + 2) _ #[vb, vb] cc (by omega) (by omega) st2 (.inr ⟨vb, by omega, (show P (argBest lt (i + 1)) vb by simp only [argBest, hq, Bool.false_eq_true, if_false]; exact hp), rfl⟩) hS2 fun u h3 tk3 hu kp3 => ?_⟩
        exact hR u h3 tk3 hu fun b o x1 x2 e => kp3 b o x1 x2 (kp b o x1 e)
end
section
variable {prog : Program} {w : World} {A : Around} {E : Value → Shared → Prop} {s : Shared} {l : Addr} {xs : Array (Int × Tok)}
theorem mxd_call {Q : Value → Shared → Prop} (a d : Value) (hc : wpAny (model prog w) A.in1 (Builtin.«max» ⟨[a], [("default", d)]⟩) (fun fin s' => match fin with
      | .done f => (match (Except.ok f : Result) with
        | .ok (.ret v) => Q v s'
        | .ok _ => False
        | .error e => E e s')
      | .again c' => c'.quiet = true ∧ codeAny (model prog w) A c' (fun r s' => match r with
        | .ok (.ret v) => Q v s'
        | .ok _ => False
        | .error e => E e s') s') E s) : wpAny (model prog w) A (call (.builtin "max") [a] [("default", d)]) Q E s := by
  refine wpAny_call (codeAny_call_builtin F.plain_max F.entry_max ?_)
  have ha := mxd_args a d
  simp only [checkBuiltinCall, F.kind_max]
  cases hsig : Manifest.signature? "max" with
  | none => exact wpAny_pure hc
  | some sg =>
    have ha2 : Bind.checkArgs "max" sg ⟨[a], [("default", d)]⟩ = pure () := by simpa only [argsOk, hsig] using ha
    simp only [ha2]
    exact wpAny_pure hc
theorem mxd_ints {Q : Value → Shared → Prop} (d : Value) (hh : A.handled = none) (hl : s.heap.IsList l (intItems xs))
    (h : ∀ v h' tk, ((xs.size = 0 ∧ v = d) ∨ (0 < xs.size ∧ (intItems xs)[argBest (fun i j => decide (numAt xs i > numAt xs j)) (xs.size - 1)]? = some v)) → (∀ b o, s.heap.get? b = some o → h'.get? b = some o) → Q v { s with heap := h', toks := tk }) :
    wpAny (model prog w) A (call (.builtin "max") [.ref l] [("default", d)]) Q E s := by
  have nm : (toString "max" ++ toString ".loop" : String) = "max.loop" := by decide
  refine mxd_call _ d ?_
  show wpAny _ A.in1 (Builtin.Builtins.bindParams "max" ["key", "default"] 0 ⟨[], [("default", d)]⟩ >>= _) _ _ s
  refine wpAny_bind (wpAny_of_eq (show Builtin.Builtins.bindParams "max" ["key", "default"] 0 ⟨[], [("default", d)]⟩ = pure [none, some d] from rfl) ?_)
  refine wpAny_bind (wpAny_pure ?_)
  refine wpAny_bind (iter_intList hl fun s2 e st hfp hlI => ?_)
  subst e
  have Wk := Walks.list (prog := prog) (w := w) (A := A.in1) hh s.heap.objs.size l hlI (intItems xs)
  refine wpAny_bind (wpAny_newObj_type ?_)
  have nS : (s.heap.push { cls := .type "list_iterator", data := .fields #[.ref l, .int 0 0] }).objs.size ∉ [s.heap.objs.size, l] := fun hm => Nat.lt_irrefl _ (hfp _ hm)
  rw [nm]
  refine wpAny_pure ⟨plainId_quiet F.plain_max_loop _, mxd_loop Wk (fun i j => decide (numAt xs i > numAt xs j)) (CmpOf.ints_gt (numAt xs) (fun _ _ => intItems_at)) _ nS d _ 0 _ #[] _ rfl (Nat.zero_le _) (Wk.frame _ _ _ st fun b _ o e => Heap.get?_push_of_some _ e) (.inl ⟨rfl, rfl⟩) (Heap.get?_push_size _ rfl) fun v h2 tk hv kp => ?_⟩
  refine h v h2 tk (by simpa [intItems] using hv) fun b o e => ?_
  exact old_kept (fun b o hbw e => kp b o hbw (Nat.ne_of_lt (Heap.lt_size e)) (Heap.get?_push_of_some _ e)) b o e
end
end PySem
namespace DL
open PySem PySem.Spec PyProof.Rows L2
def rMaxDef (K : PySem.W.Frag) : List V → List V → Hp → VK → Prop := fun vs zs H Q => ∃ (a : Addr) (ns : List Int) (d : V), vs = [V.ref a] ∧ zs = [d] ∧ SqL K H a (ns.map V.int) ∧ (ns = [] → Q d H) ∧ (0 < ns.length → ∀ m, m ∈ ns → (∀ y ∈ ns, y ≤ m) → Q (.int m) H)
theorem cr_maxDef {X : Cx} (hc : X.calm = true) : CallRK X (.builtin "max") [Str.ofString "default"] (rMaxDef X.K) := by
  intro pins s σ H vs zs us ws Q I r rz h
  obtain ⟨a, ns, d, rfl, rfl, hs, q0, q1⟩ := h
  obtain rfl := Vals.ref1 r
  obtain ⟨w1, rfl, e1⟩ := vals1 rz
  obtain ⟨its, rv, hl, _⟩ := I.list hs
  have hi := rv.ints
  obtain ⟨xs, e⟩ := hi.allInts.items
  have hn : numsOf (intItems xs).toList = ns := by rw [← e]; exact hi.numsOf
  rw [nums_intItems] at hn
  have hl' := hl.isList
  rw [e] at hl'
  refine mxd_ints w1 (I.ok.hd hc) hl' fun v h' tk hv kp => ?_
  rcases hv with ⟨h0, rfl⟩ | ⟨h0, hv⟩
  · refine ⟨d, H, I.kept kp, e1, q0 ?_⟩
    rw [← hn]
    simpa using h0
  · obtain ⟨t, rfl⟩ := intItems_at hv
    obtain ⟨h1, h2⟩ := argBest_gt (numAt xs) (xs.size - 1)
    refine ⟨.int _, H, I.kept kp, ⟨_, rfl⟩, q1 (by rw [← hn]; simpa using h0) _ ?_ fun y hy => ?_⟩
    · rw [numAt_eq, ← hn]
      exact PySem.getD_mem (by rw [List.length_map, Array.length_toList]; omega)
    · rw [← hn] at hy
      obtain ⟨j, hj, rfl⟩ := mem_getD hy
      rw [List.length_map, Array.length_toList] at hj
      rw [← numAt_eq]
      exact h2 j (by omega)
def dMaxD (fa : DA) (fd : DE) : DE := fun X ρ Q => fa X ρ fun xs ρ1 => match dats xs with
  | some [.lst ds] => fd X ρ1 fun e ρ2 => match intsOf ds with
    | some [] => Q e ρ2
    | some (n :: ns) => Q (.int (maxOf n ns)) ρ2
    | none => False
  | _ => False
section
variable {X : Cx} {W : WX}
theorem de_maxd {e d : Expr} {p pos kpos : Pos} {fa : DA} {fd : DE} (hc : X.calm = true) (hm : X.mg "max" = none) (ha : PA X [e] (lA X.K W fa)) (hd : PE X d (lE X.K W fd)) (hg : Gl X "max" := by rfl)
    (he : backTo pos (starEach [e] X.env) = (false, eval e X.env) :: backTo pos (starEach [] X.env) := by rfl) (hpl : (backTo pos (starEach [e] X.env)).any (·.1) = false := by rfl)
    (hall : (backToKw pos (keywordEach [⟨some "default", d, kpos⟩] X.env)).all (·.1.isSome) = true := by rfl) (hnone : (backToKw pos (keywordEach [⟨some "default", d, kpos⟩] X.env)).any (·.1.isNone) = false := by rfl) (hks : (backToKw pos (keywordEach [⟨some "default", d, kpos⟩] X.env)).filterMap (·.1) = [Str.ofString "default"] := by rfl) :
    PE X (.Call (.Name "max" p) [e] [⟨some "default", d, kpos⟩] pos) (lE X.K W (dMaxD fa fd)) :=
  pe_imp (pe_callBK (cr_maxDef hc) hg hm bt_max ha (pk_cons hd pk_nil) (by decide) (by decide) he hpl hall hnone hks) fun σ H Q ⟨ρ, G, la, P, XX, re, h, q, xo⟩ =>
  ⟨ρ, G, la, _, XX, re, h, fun xs ρ1 vs G1 la1 H1 p1 a1 z1 => by
    have p1' : (match (generalizing := false) dats xs with
      | some [.lst ds] => fd XX ρ1 fun e ρ2 => match intsOf ds with
        | some [] => P e ρ2
        | some (n :: ns) => P (.int (maxOf n ns)) ρ2
        | none => False
      | _ => False) := p1
    split at p1'
    · rename_i ds hds
      have dp := dats_of z1 hds
      cases dp with
      | cons a b =>
        cases b
        cases a with
        | lst a l r =>
          refine ⟨ρ1, G1, la1, _, XX, a1.r, p1', fun e2 ρ2 v G2 la2 H2 p2 a2 z2 => ?_, xo.up a1.g a1.p⟩
          have p2' : (match (generalizing := false) intsOf ds with
            | some [] => P e2 ρ2
            | some (n :: ns) => P (.int (maxOf n ns)) ρ2
            | none => False) := p2
          split at p2'
          · rename_i hn
            have e := intsOf_of r hn
            subst e
            exact ⟨_, [], v, rfl, rfl, SqL.of (a2.r.ext _ _ (a2.g _ _ a)), fun _ => q _ _ _ _ _ _ p2' (a1.trans a2) z2, fun h0 => absurd h0 (by simp)⟩
          · rename_i n ns hn
            have e := intsOf_of r hn
            subst e
            refine ⟨_, n :: ns, v, rfl, rfl, SqL.of (a2.r.ext _ _ (a2.g _ _ a)), fun h0 => (nomatch h0), fun _ m hm2 hle => ?_⟩
            obtain ⟨c1, c2, c3⟩ := maxOf_ge ns n
            have em : m = maxOf n ns := by
              have h1 : maxOf n ns ≤ m := by
                rcases c3 with c3 | c3
                · rw [c3]
                  exact hle _ (by simp)
                · exact hle _ (by simp [c3])
              have h2 : m ≤ maxOf n ns := by
                rcases List.mem_cons.mp hm2 with z | z
                · rw [z]
                  exact c1
                · exact c2 _ z
              omega
            rw [em]
            exact q _ _ _ _ _ _ p2' (a1.trans a2) (.int _)
          · exact p2'.elim
    · exact p1'.elim, xo⟩
end
end DL
set_option Elab.async false
set_option linter.all false
set_option maxRecDepth 100000
set_option maxHeartbeats 4000000
set_option autoImplicit false
/-! {"a": i, "b": j}.get(e, d). -/
namespace DL
open PySem PySem.Spec PyProof.Rows L2
def dGetP (k1 k2 : Str) (i1 i2 : Int) (fe fd : DE) : DE := fun X ρ Q => fe X ρ fun k ρ1 => fd X ρ1 fun z ρ2 => match k with
  | .str w => if w = k1 then Q (.int i1) ρ2 else if w = k2 then Q (.int i2) ρ2 else Q z ρ2
  | _ => False
theorem fn_none {P : Program} {w : World} {K : PySem.W.Frag} {mg : Str → Option Value} {base : Heap} {CX : CXT} {k n : Nat} {f : Addr} {fd : FuncData} {ps : List Str} {F : DF} (h : ∀ ss T Q QX, F ss T Q QX → False) : FnOk P w K mg base CX k f fd ps (spD K n F) :=
  ⟨fun vs H Q E ⟨_, ss, G, la, T, Pd, PX, _, _, fp, _⟩ => (h _ _ _ _ fp).elim, fun A outer s H args us vs Q E _ _ _ _ ⟨_, ss, G, la, T, Pd, PX, _, _, fp, _⟩ => (h _ _ _ _ fp).elim⟩
theorem upd_twice {H : Hp} {p : Addr} {x y : HO} : upd (upd H p x) p y = upd H p y := by
  funext b
  by_cases hb : b = p
  · subst hb
    rw [upd_same, upd_same]
  · rw [upd_ne hb, upd_ne hb, upd_ne hb]
theorem Grow.hid {G H : Hp} {p : Addr} {o : HO} (e : Same G H) (h : H p = none) : Grow G H G (upd H p o) :=
  ⟨Same.refl _, same_new h, e.trans (same_new h), fun _ ga _ => ga, fun h => h⟩
section
variable {X : Cx} {W : WX}
theorem de_getP {k1 k2 : Str} {i1 i2 : Int} {a1 a2 b1 b2 : Nat} {p1 p2 q1 q2 dpos apos cpos : Pos} {e f : Expr} {fe fd : DE} (hu : X.A.units + 1 < cLine) (hk : k1 ≠ k2) (he : PE X e (lE X.K W fe)) (hf : PE X f (lE X.K W fd))
    (m : M2 X (.Dict [some (.Constant (.str k1) a1 p1), some (.Constant (.str k2) a2 p2)] [.Constant (.int i1) b1 q1, .Constant (.int i2) b2 q2] dpos) "get" apos e f cpos := by exact ⟨rfl, rfl, rfl, rfl⟩) :
    PE X (.Call (.Attribute (.Dict [some (.Constant (.str k1) a1 p1), some (.Constant (.str k2) a2 p2)] [.Constant (.int i1) b1 q1, .Constant (.int i2) b2 q2] dpos) "get" apos) [e, f] [] cpos) (lE X.K W (dGetP k1 k2 i1 i2 fe fd)) :=
  pe_imp (pe_dget2 hu (pe_disp (pps_cons pe_str pe_int (pps_cons pe_str pe_int pps_nil)) rfl rfl (by simp) (by simp)) he hf m) fun σ H Q ⟨ρ, G, la, P, XX, re, h, q, xo⟩ => by
  intro p hp
  refine ⟨upd_same, [(.inr k1, .int i1), (.inr k2, .int i2)], rfl, by simp, ?_⟩
  rw [upd_twice]
  have hm : mergeK [] [((.inr k1 : Key), V.int i1), (.inr k2, .int i2)] = [(.inr k1, .int i1), (.inr k2, .int i2)] := by
    have hne : ¬ ((Sum.inr k1 : Key) = .inr k2) := fun z => hk (Sum.inr.inj z)
    simp [mergeK, putK, hne]
  rw [hm]
  refine ⟨p, rfl, .inl ⟨_, .inl upd_same⟩, ?_⟩
  have w0 : Grow G H (upd G p (.dK [(.inr k1, .int i1), (.inr k2, .int i2)])) (upd H p (.dK [(.inr k1, .int i1), (.inr k2, .int i2)])) := Grow.new re.tb.ext hp
  have gp : upd G p (.dK [(.inr k1, .int i1), (.inr k2, .int i2)]) p = some (.dK [(.inr k1, .int i1), (.inr k2, .int i2)]) := upd_same
  have rg := re.grow w0
  have s0 := w0.g
  generalize upd G p (.dK [(.inr k1, .int i1), (.inr k2, .int i2)]) = G0 at gp rg s0
  refine ⟨ρ, G0, la, _, XX, rg, h, fun k ρ1 v G1 la1 H1 e1 r1 z1 => ⟨ρ1, G1, la1, _, XX, r1.r, e1, fun z ρ2 u G2 la2 H2 e2 r2 z2 => ?_, xo.up (s0.trans r1.g) r1.p⟩, xo.up s0 List.prefix_rfl⟩
  have e2' : (match (generalizing := false) k with
    | .str w => if w = k1 then P (.int i1) ρ2 else if w = k2 then P (.int i2) ρ2 else P z ρ2
    | _ => False) := e2
  cases k with
  | str w =>
    cases z1
    have hp2 : H2 p = some (.dK [(.inr k1, .int i1), (.inr k2, .int i2)]) := r2.r.ext _ _ (r2.g _ _ (r1.g _ _ gp))
    have af : Aft X.K G la σ ρ2 G2 la2 H2 := ⟨s0.trans (r1.g.trans r2.g), r1.p.trans r2.p, r2.r⟩
    refine ⟨_, DGet.k (k := .inr w) hp2, ?_⟩
    by_cases w1 : w = k1
    · subst w1
      rw [valV_pos rfl]
      simp only [if_true] at e2'
      exact q _ _ _ _ _ _ e2' af (.int _)
    · rw [valV_neg (fun z => w1 (Sum.inr.inj z).symm)]
      simp only [if_neg w1] at e2'
      by_cases w2 : w = k2
      · subst w2
        rw [valV_pos rfl]
        simp only [if_true] at e2'
        exact q _ _ _ _ _ _ e2' af (.int _)
      · rw [valV_neg (fun z => w2 (Sum.inr.inj z).symm), valV_nil]
        simp only [if_neg w2] at e2'
        exact q _ _ _ _ _ _ e2' af z2
  | _ => exact e2'.elim
end
end DL
set_option Elab.async false
set_option linter.all false
set_option maxRecDepth 100000
set_option maxHeartbeats 4000000
set_option autoImplicit false
/-! The data level: raise, try, defs as values, lambdas that are handed to a def. -/
namespace DL
open PySem PySem.Spec PyProof.Rows L2

/-! ### raise -/
/-- what is known of an own class of errors -/
structure ExcC (K : PySem.W.Frag) (mg : Str → Option Value) (x : Str) (C : Addr) : Prop where
  g : mg x = some (.ref C)
  n : PySem.W.nsIn K mainGlobals x = some (some (.ref C))
  x : PySem.W.excIn K C [.type "ValueError", .type "Exception", .type "BaseException", .type "object"] "ValueError.__new__" = true
  k : PySem.W.keepIn K (.ref C) = true
  b : PySem.W.subIn K (.ref C) (.type "BaseException") = some true
  t : PySem.W.typeIn K (.ref C) = some (.type "type")
def sRaise (n : Str) : DS := fun E ρ => E.xn ⟨n, none⟩ ρ
section
variable {X : Cx} {W : WX}
theorem ds_raise {x m : Str} {C : Addr} {j : Nat} {p p2 p3 pos : Pos} (hc : X.calm = true) (tk : Takes X W) (ex : ExcC X.K X.mg x C) (hg : Gl X x := by rfl) (hdb : (x == ("__debug__" : Str)) = false := by decide) :
    PS X (.Raise (some (.Call (.Name x p) [.Constant (.str m) j p2] [] p3)) none pos) (lS X.K W (sRaise x)) :=
  ps_imp (ps_raise hc tk (pmk_own PySem.F.excBase_ValueError ex.x ex.g ex.k (raises_own ex.b ex.t) hg hdb)) fun D σ H ⟨ρ, G, la, E, r, f, b⟩ => b.xn ⟨x, none⟩ ρ σ G la H (.ref C) none f (Aft.refl r) ⟨ex.n, True.intro⟩
end

/-! ### try -/
/-- whether an error of the class x is one of the class c -/
def isaN (x c : Str) : Bool := x == c || c == ("DogError" : Str)
def hndl (R : List Str) (E : DN) : List (Str × DS) → XP
  | [] => E.xn
  | (c, S) :: r => fun x ρ => R.contains x.n = true ∧ if isaN x.n c = true then S { E with xn := X0 } ρ else hndl R E r x ρ
def sTry (R : List Str) (B : DS) (cl : List (Str × DS)) : DS := fun E ρ => B { E with xn := hndl R E cl } ρ
inductive DCl (X : Cx) (R : List Str) : List ExceptHandler → List Cl → List (Str × DS) → Prop
  | nil : DCl X R [] [] []
  | only {c : Str} {A : Addr} {S : DS} {b : Stmt} {su : List Stmt} {np p : Pos} {hs : List ExceptHandler} {ks : List Cl} {cl : List (Str × DS)} (nm : Names X c (.ref A))
      (ex : ∀ n ∈ R, ∀ cls, PySem.W.nsIn X.K mainGlobals n = some (some cls) → PySem.W.exmOne X.K cls (.ref A) = some (isaN n c))
      (run : ∀ (a : Addr) (o : Obj) (pn : List (Addr × Obj)), PSs (X.suite a ((a, o) :: pn)) (b :: su) (lS X.K W0 S)) (r : DCl X R hs ks cl) :
      DCl X R (.ExceptHandler (some (.Name c np)) none (b :: su) p :: hs) (⟨.ref A, none, fun _ _ _ => lS X.K W0 S⟩ :: ks) ((c, S) :: cl)
  | skip {c n : Str} {i : Nat} {A : Addr} {b : Stmt} {su : List Stmt} {np p : Pos} {hs : List ExceptHandler} {ks : List Cl} {cl : List (Str × DS)} (nm : Names X c (.ref A)) (nd : X.N.Nodup) (hi : X.N[i]? = some n) (hl : X.env.kindOf n = some .local)
      (ex : ∀ n ∈ R, ∀ cls, PySem.W.nsIn X.K mainGlobals n = some (some cls) → PySem.W.exmOne X.K cls (.ref A) = some false) (r : DCl X R hs ks cl) :
      DCl X R (.ExceptHandler (some (.Name c np)) (some n) (b :: su) p :: hs) (⟨.ref A, some i, fun _ _ _ => tNever⟩ :: ks) cl
section
variable {X : Cx} {W : WX} {R : List Str}
theorem DCl.ok {hs : List ExceptHandler} {ks : List Cl} {cl : List (Str × DS)} (h : DCl X R hs ks cl) : ClsOk X hs ks := by
  induction h with
  | nil => exact .nil
  | only nm ex run r ih => exact .cons (.only nm fun a o cls d pn _ _ => run a o pn) ih
  | skip nm nd hi hl ex r ih => exact .cons (.named nm nd hi hl fun a o cls d pn _ _ => pss_never) ih
theorem DCl.wish {G : Hp} {la : List Addr} {E : DN} {D : Ends} (b : Bk X.K G la W E D) : ∀ {hs : List ExceptHandler} {ks : List Cl} {cl : List (Str × DS)}, DCl X R hs ks cl → ∀ (x : Xn) (ρ' : Env) (σ' : L2.St) (G' : Hp) (la' : List Addr) (H' : Hp) (cls : Value) (od : Option Addr),
    hndl R E cl x ρ' → (cl ≠ [] → True) → Aft X.K G la σ' ρ' G' la' H' → XR X.K G' H' x cls od → (R.contains x.n = true) → wMix X.K W D ks cls od σ' H' := by
  intro hs ks cl h
  induction h with
  | nil =>
    intro x ρ' σ' G' la' H' cls od p _ a z _
    exact b.xn x ρ' σ' G' la' H' cls od p a z
  | @only c A S b0 su np p0 hs ks cl nm ex run r ih =>
    intro x ρ' σ' G' la' H' cls od p t a z hR
    obtain ⟨_, p⟩ := p
    refine ⟨isaN x.n c, ex x.n (by simpa using hR) cls z.1, fun e => ?_, fun e => ?_⟩
    · rw [if_pos e] at p
      intro q hq
      have bb := b.up a.g a.p
      exact ⟨ρ', G', la', _, a.r, p, ⟨bb.nx, bb.bk, bb.ct, bb.rt, fun _ _ _ _ _ _ _ _ f => f.elim⟩⟩
    · rw [if_neg (by rw [e]; exact Bool.false_ne_true)] at p
      exact ih x ρ' σ' G' la' H' cls od p (fun _ => True.intro) a z hR
  | @skip c n i A b0 su np p0 hs ks cl nm nd hi hl ex r ih =>
    intro x ρ' σ' G' la' H' cls od p t a z hR
    exact ⟨false, ex x.n (by simpa using hR) cls z.1, (fun e => by cases e), fun _ => ih x ρ' σ' G' la' H' cls od p t a z hR⟩
theorem hndl_R {E : DN} {c : Str × DS} {cl : List (Str × DS)} {x : Xn} {ρ : Env} (h : hndl R E (c :: cl) x ρ) : R.contains x.n = true := h.1
theorem ds_try {body : List Stmt} {h0 : ExceptHandler} {hds : List ExceptHandler} {ks : List Cl} {pos : Pos} {B : DS} {c : Str × DS} {cl : List (Str × DS)} (hs : X.stack = X.env :: X.outer) (hf : X.env.frame = some X.env.locals) (tk : Takes X W)
    (hb : ∀ (W' : WX) (pn : List (Addr × Obj)) (xe : Value → Shared → Prop), Takes (X.tr pn xe) W' → PassesOwn (model X.prog X.w) X.A X.env xe → PSs (X.tr pn xe) body (lS X.K W' B))
    (hk : DCl X R (h0 :: hds) ks (c :: cl)) : PS X (.Try body (h0 :: hds) [] [] pos) (lS X.K W (sTry R B (c :: cl))) :=
  ps_imp (ps_tryC (tb := fun W' => lS X.K W' B) hs hf tk hb hk.ok) fun D σ H ⟨ρ, G, la, E, r, f, b⟩ =>
    ⟨ρ, G, la, { E with xn := hndl R E (c :: cl) }, r, f, ⟨b.nx, b.bk, b.ct, b.rt, fun x ρ' σ' G' la' H' cls od p a z => DCl.wish b hk x ρ' σ' G' la' H' cls od p (fun _ => True.intro) a z (hndl_R p)⟩⟩
end

/-! ### defs as values -/
section
variable {X : Cx} {W : WX}
theorem de_fn {x : Str} {a : Addr} {pos : Pos} (hm : X.mg x = some (.ref a)) (hn : PySem.W.nsIn X.K mainGlobals x = some (some (.ref a))) (hg : Gl X x := by rfl) (hd : (x == ("__debug__" : Str)) = false := by decide) : PE X (.Name x pos) (lE X.K W (dC (.fn x))) :=
  pe_imp (pe_glob hg hm (v := .ref a) rfl hd) fun σ H Q ⟨ρ, G, la, P, XX, r, f, q, _⟩ => q _ _ _ _ _ _ f (Aft.refl r) (.fn hn)
/-- x(e, ..), x a name of the def that holds a def of the module -/
def dCallV (i n : Nat) (F : Str → Option DF) (fa : DA) : DL' := fun X ρ Q => match ρ.s[i]? with
  | some (some (.dat (.fn x))) => match F x with
    | some S => fa X ρ fun ss ρ1 => ss.length = n ∧ S ss ρ1.T (fun r T' => Q r ⟨T', ρ1.s⟩) (fun x T' => X x ⟨T', ρ1.s⟩)
    | none => False
  | _ => False
structure Kept1 (X : Cx) (k n : Nat) (x : Str) (S : DF) : Prop where
  ex : ∃ (f : Addr) (fd : FuncData) (ps : List Str), PySem.W.nsIn X.K mainGlobals x = some (some (.ref f)) ∧ FnOk X.prog X.w X.K X.mg X.base (L2.CX X.prog X.w) k f fd ps (spD X.K n S) ∧ PySem.W.keepIn X.K (.ref f) = true ∧ Binds X.K fd ps []
theorem dl_callV (i : Nat) {x : Str} {p pos : Pos} {e : Expr} {es : List Expr} {fa : DA} {k n : Nat} {F : Str → Option DF} (hF : ∀ y S, F y = some S → Kept1 X k n y S) (hr : Room k X.A) (tk : Takes X W) (ha : PA X (e :: es) (lA X.K W fa)) (hN : X.N[i]? = some x := by rfl)
    (hv : Vis X.env.scope x := by first | exact Or.inl rfl | exact Or.inr (Or.inl rfl) | exact Or.inr (Or.inr rfl)) (hdb : (x == ("__debug__" : Str)) = false := by decide) (hcd : (x == ("__classdict__" : Str)) = false := by decide)
    (he : starEach (e :: es) X.env = (false, eval e X.env) :: starEach es X.env := by rfl) (hpl : (backTo pos (starEach es X.env)).any (·.1) = false := by rfl) : PE X (.Call (.Name x p) (e :: es) [] pos) (lL X.K W (dCallV i n F fa)) := by
  constructor
  rintro pins s σ H Q I ⟨ρ, G, la, P, XX, re, h, q, xo⟩
  unfold dCallV at h
  split at h
  · rename_i y hy
    split at h
    · rename_i S hS
      obtain ⟨f, fd, ps, hn, Fk, hk, hb⟩ := (hF y S hS).ex
      obtain ⟨v, hσ, rv⟩ := re.at_ i _ hy
      have rv' : Dp X.K G v (.fn y) := rv
      cases rv' with
      | fn hn2 =>
      rename_i a
      have ea : a = f := by
        rw [hn] at hn2
        cases hn2
        rfl
      subst ea
      refine wpAny_Call_Name_kw (thn ((pe_var (pos := p) hN hv hdb hcd).run pins s σ H (fun v H1 => v = .ref a ∧ H1 = H) I ⟨_, hσ, rfl, rfl⟩) ?_)
      rintro u s1 ⟨v, H1, I1, r1, rfl, rfl⟩
      cases r1
      refine PySem.W.callWith_K (h₀ := X.base) I.ok.mod.kin hk (thn (ha.run pos pins s1 σ H1 _ I1 ⟨ρ, G, la, _, XX, re, h, fun ss ρ1 vs G1 la1 H1 p1 a1 z1 => ?_, xo⟩) fun us s2 ⟨vs, H2, I2, r, q2⟩ => ⟨I2.kIn, run_fnS Fk hr hb (passAt tk σ) I2 r q2⟩) he hpl
      exact ⟨z1.len.trans p1.1, ss, G1, la1, ρ1.T, _, _, a1.r.tb, z1, p1.2, fun r2 T' v G' la' H' pr g pp rl sr => q _ _ _ _ _ _ pr ⟨a1.g.trans g, a1.p.trans pp, ⟨rl, a1.r.sl, fun i y hy => by
          obtain ⟨u, hu, ru⟩ := a1.r.at_ i y hy
          exact ⟨u, hu, ru.grow g pp⟩⟩⟩ sr, fun y T' G' la' H' cls od px g pp rl xr => xo y ⟨T', ρ1.s⟩ σ G' la' H' cls od px ⟨a1.g.trans g, a1.p.trans pp, ⟨rl, a1.r.sl, fun i y hy => by
          obtain ⟨u, hu, ru⟩ := a1.r.at_ i y hy
          exact ⟨u, hu, ru.grow g pp⟩⟩⟩ xr⟩
    · exact h.elim
  · exact h.elim
end

/-! ### lambdas -/
abbrev CallF := List Ob → (Sl → List Ob → Prop) → (Xn → List Ob → Prop) → Prop
/-- a(), a the lambda that was handed over; n: how many names the def has -/
def dAct (n : Nat) (f : Addr) (G0 : Hp) (la0 : List Addr) (c : CallF) : DL' := fun X ρ Q => ρ.s[0]? = some (some (.clo f G0 la0)) ∧ c ρ.T (fun r T' => Q r ⟨T', ρ.s⟩) (fun x T' => X x ⟨T', List.replicate n none⟩)
/-- tl does what c says, from what was known at the lambda's making on -/
def Real (K : PySem.W.Frag) (G0 : Hp) (la0 : List Addr) (c : CallF) (tl : XK → Hp → VK → Prop) : Prop := ∀ (G : Hp) (la : List Addr) (H : Hp) (T : List Ob) (Q : Sl → List Ob → Prop) (QX : Xn → List Ob → Prop) (Qv : VK) (E : XK), c T Q QX → Rl K G H la T → Same G0 G → la0 <+: la →
  (∀ r T' v G' la' H', Q r T' → Same G G' → la <+: la' → Rl K G' H' la' T' → SlR K G' la' v r → Qv v H') → (∀ x T' G' la' H' cls od, QX x T' → Same G G' → la <+: la' → Rl K G' H' la' T' → XR K G' H' x cls od → E cls od H') → tl E H Qv
/-- what the def promises that the lambda is handed to -/
abbrev WF := CallF → List Ob → (Sl → List Ob → Prop) → Prop
def TTd (K : PySem.W.Frag) (F : WF) : (XK → Hp → VK → Prop) → Hp → VK → Prop := fun tl H Q => ∃ (G0 : Hp) (la0 : List Addr) (T : List Ob) (c : CallF) (P : Sl → List Ob → Prop), Rl K G0 H la0 T ∧ Real K G0 la0 c tl ∧ F c T P ∧
  (∀ r T' v G' la' H', P r T' → Same G0 G' → la0 <+: la' → Rl K G' H' la' T' → SlR K G' la' v r → Q v H')
theorem Takes.len {X : Cx} {W : WX} (tk : Takes X W) : Takes X (fun cls d σ H => σ.length = X.N.length → W cls d σ H) := fun u s' ⟨a, B, sI, pins, σ, H, cls, d, e, I, nb, up, sky, na, os, ag, w⟩ =>
  tk u s' ⟨a, B, sI, pins, σ, H, cls, d, e, I, nb, up, sky, na, os, ag, w I.len⟩
theorem codeO_tbl {c : Addr} {q : Str} : ∀ ps, LamX.CodeO c q ≠ .tbl ps := fun ps z => by
  unfold LamX.CodeO at z
  cases z
/-- what is known grows by the lambda's code object -/
theorem Rl.code {K : PySem.W.Frag} {G H : Hp} {la : List Addr} {T : List Ob} {c : Addr} {q : Str} (r : Rl K G H la T) (hc : H c = some (LamX.CodeO c q)) : Same G (upd G c (LamX.CodeO c q)) ∧ Rl K (upd G c (LamX.CodeO c q)) H la T := by
  have s1 : Same G (upd G c (LamX.CodeO c q)) := fun b o e => by
    by_cases hb : b = c
    · subst hb
      rw [upd_same]
      have := r.ext b o e
      rw [hc] at this
      exact this
    · rw [upd_ne hb]
      exact e
  have ne : ∀ {b : Addr} {o : HO}, H b = some o → (∀ d, o ≠ LamX.CodeO c q) → b ≠ c := fun {b o} e n z => by
    rw [z, hc] at e
    exact n c (Option.some.inj e).symm
  refine ⟨s1, ⟨fun b o e => ?_, r.nd, r.len, fun k a o h1 h2 => ?_, r.there, r.nt.upd codeO_tbl, fun p hp => ⟨?_, (r.tbl p hp).2⟩⟩⟩
  · by_cases hb : b = c
    · subst hb
      rw [upd_same] at e
      rw [← e]
      exact hc
    · rw [upd_ne hb] at e
      exact r.ext b o e
  · have z := r.tab k a o h1 h2
    cases o with
    | dead => exact True.intro
    | lst ds =>
      obtain ⟨g, vs, e, l, d⟩ := z
      refine ⟨?_, vs, e, l, d.up s1⟩
      rw [upd_ne (ne e fun _ z => by unfold LamX.CodeO at z; cases z)]
      exact g
  · obtain ⟨g, ps, e, _⟩ := r.tbl p hp
    rw [upd_ne (ne e fun _ z => codeO_tbl ps z.symm)]
    exact g
/-- what is known stays where only tables grow -/
theorem Rl.extN {K : PySem.W.Frag} {G H H1 : Hp} {la : List Addr} {T : List Ob} (r : Rl K G H la T) (e : LamX.ExtN H H1) (t : LamX.Tabs (tabsOf K) H1) : Rl K G H1 la T := by
  refine ⟨fun b o h => e b o (r.ext b o h) fun ps z => r.nt b ps (by rw [h, z]), r.nd, r.len, fun k a o h1 h2 => ?_, fun k a h => ?_, r.nt, fun p hp => ⟨(r.tbl p hp).1, t p hp⟩⟩
  · have z := r.tab k a o h1 h2
    cases o with
    | dead => exact True.intro
    | lst ds =>
      obtain ⟨g, vs, h, l, d⟩ := z
      exact ⟨g, vs, e a _ h (fun ps z => by cases z), l, d⟩
  · obtain ⟨o, h1, h2⟩ := r.there k a h
    exact ⟨o, e a o h1 h2, h2⟩
end DL
set_option Elab.async false
set_option linter.all false
set_option maxRecDepth 100000
set_option maxHeartbeats 4000000
set_option autoImplicit false
/-! The data level: a def that calls the lambda it got; x(lambda: e); the end of a law. -/
namespace DL
open PySem PySem.Spec PyProof.Rows L2

abbrev wordCx (X : Cx) (Ng : List Str) (x : Str) (sg : Scope) (g : Addr) (cdg : Value) (s : Shared) (H : Hp) : Cx := cxOf C8.CX0 X.prog X.w X.K X.mg X.base Ng x sg g cdg X.A X.stack s H C8.E0
theorem gives_D {X : Cx} {Ng : List Str} {x : Str} {sg : Scope} {g : Addr} {cdg : Value} {bg : List Stmt} {a q : Str} {n : Nat} {F : WF} {B : Addr → Hp → List Addr → CallF → DS} (hn : n = Ng.length)
    (hB : ∀ (s : Shared) (H : Hp) (f : Addr) (G0 : Hp) (la0 : List Addr) (c : CallF), (∀ (W : WX) (pn : List (Addr × Obj)) (xe : Value → Shared → Prop) (p1 p2 : Pos), Takes ((wordCx X Ng x sg g cdg s H).tr pn xe) W →
      PE ((wordCx X Ng x sg g cdg s H).tr pn xe) (.Call (.Name a p1) [] [] p2) (lL X.K W (dAct n f G0 la0 c))) → PSs (wordCx X Ng x sg g cdg s H).nox bg (lS X.K W0 (B f G0 la0 c)))
    (hF : ∀ (f : Addr) (G0 : Hp) (la0 : List Addr) (c : CallF) (T : List Ob) (Q : Sl → List Ob → Prop), F c T Q → B f G0 la0 c (endsOf T.length Q (fun _ _ => False)) (startD n 1 [.clo f G0 la0] T)) :
    LamX.GivesTo X Ng x sg g cdg bg a q (TTd X.K F) := by
  intro f c' s H Q tl act hc h
  obtain ⟨G0, la0, T, c, P, rl, real, fp, post⟩ := h
  obtain ⟨s1, rl1⟩ := rl.code hc
  refine ⟨lS X.K W0 (B f (upd G0 c' (LamX.CodeO c' q)) la0 c), hB s H f _ la0 c (fun W pn xe p1 p2 tk => ?_), startD n 1 [.clo f (upd G0 c' (LamX.CodeO c' q)) la0] T, _, la0, endsOf T.length P (fun _ _ => False),
    start_re hn rfl rl1 (.cons ⟨rfl, Same.refl _, List.prefix_rfl⟩ .nil), hF f _ la0 c T P fp, ends_bk rl1.len (fun r T' v G' la' H' p g pp r1 sr => post r T' v G' la' H' p (s1.trans g) pp r1 sr) (fun _ _ _ _ _ _ _ z _ _ _ _ => z.elim)⟩
  refine pe_imp (act (fun cls d σ H => σ.length = ((wordCx X Ng x sg g cdg s H).tr pn xe).N.length → W cls d σ H) pn xe (fun cls d H' => ∀ σ', σ'.length = Ng.length → W cls d σ' H') p1 p2 (Takes.len tk) (fun cls d σ' H' e h => e σ' h)) fun σZ HZ QZ ⟨ρ, G, la, P2, XX, re, hh, q2, xo⟩ => ?_
  obtain ⟨hs, hcall⟩ := hh
  obtain ⟨v, hv, ev, sg2, pl⟩ := re.at_ 0 _ hs
  subst ev
  refine ⟨hv, re.ext _ _ (sg2 _ _ upd_same), real G la HZ ρ.T _ _ QZ _ hcall re.tb (s1.trans sg2) pl (fun r T' v G' la' H' p g pp r1 sr => q2 _ _ v G' la' H' p ⟨g, pp, ⟨r1, re.sl, fun i y hy => ?_⟩⟩ sr) (fun y T' G' la' H' cls od p g pp r1 xr σ' hl => xo y _ σ' G' la' H' cls od p ⟨g, pp, ⟨r1, ?_, fun i y hy => ?_⟩⟩ xr)⟩
  · obtain ⟨u, hu, ru⟩ := re.at_ i y hy
    exact ⟨u, hu, ru.grow g pp⟩
  · show (List.replicate n none).length = σ'.length
    rw [List.length_replicate, hl, hn]
  · have hy' : (List.replicate n (none : Option Sl))[i]? = some (some y) := hy
    rw [List.getElem?_replicate] at hy'
    split at hy' <;> cases hy'

/-- x(lambda: e): F is what x does with what it gets -/
def dLam (F : WF) (fb : DL') : DL' := fun X ρ Q => F (fun T Q' QX' => fb (fun x ρ' => QX' x ρ'.T) ⟨T, ρ.s⟩ (fun r ρ' => Q' r ρ'.T)) ρ.T (fun r T' => Q r ⟨T', ρ.s⟩)
/-- the def that gets lambdas, as it stands -/
structure LWord (K : PySem.W.Frag) (mg : Str → Option Value) (x a : Str) (st : Stmt) (Ng : List Str) (g : Addr) (cdv : Value) : Prop where
  ex : ∃ (oc : Value) (od an : Option Addr) (osl : Array (Option Value)) (kV doc pm ct : Value), K.lookup g = some ⟨oc, od, .func (PySem.W.fnOf x x (defArgs st) (defBody st) (defScope st) .none kV doc pm an cdv ct), osl⟩ ∧
    Binds K (PySem.W.fnOf x x (defArgs st) (defBody st) (defScope st) .none kV doc pm an cdv ct) [a] []
  code : PySem.W.codeIn K cdv x = true
  keep : PySem.W.keepIn K (.ref g) = true
  mg : mg x = some (.ref g)
  sc : FnScope Ng [a] (defScope st)
  at0 : Ng[0]? = some a
  vis : Vis (defScope st) a
theorem dl_lam {X : Cx} {W : WX} {x a : Str} {st : Stmt} {Ng : List Str} {g c P : Addr} {cdv : Value} {k : Nat} {params : Arguments} {body : Expr} {scope : Scope} {F : WF} {fb : DL'} {p lpos pos : Pos} (Wd : LWord X.K X.mg x a st Ng g cdv)
    (hG : LamX.GivesTo X Ng x (defScope st) g cdv (defBody st) a (X.env.qual ++ "<lambda>") (TTd X.K F)) (TB : LamX.TabB X.base X.mg c P) (hcode : X.env.code = .ref c) (hmT : (P, X.env.qual ++ "<lambda>") ∈ tabsOf X.K)
    (hu : ∀ p ∈ tabsOf X.K, p.1 = P → p.2 = X.env.qual ++ "<lambda>") (hr : Room (k + 2) X.A) (L : LamX.LamS X.env.scope scope)
    (hbody : ∀ (A : Around) (outer : List PySem.Env) (s : Shared) (H : Hp) (E : XK) (f c' : Addr), Room k (A.deeper (LamX.lamEnv X scope s.heap.objs.size f c')) → PE (LamX.lamCx X A outer s H E scope f c') body (lL X.K (fun cls d _ H => E cls d H) fb))
    (hbind : ∀ (q : Str) (cl : List (Str × Addr)) (pm cv ctv : Value), bindArgs (PySem.W.kla_fn "<lambda>" q params body scope cl pm cv ctv) ⟨[], []⟩ = pure [] := by intros; rfl) (hdef : defaultsOf params X.env = ([], []) := by rfl)
    (hg : Gl X x := by rfl) (hdb : (x == ("__debug__" : Str)) = false := by decide) (hd : (a == ("__debug__" : Str)) = false := by decide) (hcd : (a == ("__classdict__" : Str)) = false := by decide) :
    PE X (.Call (.Name x p) [.Lambda params body scope lpos] [] pos) (lL X.K W (dLam F fb)) := by
  obtain ⟨oc, od, an, osl, kV, doc, pm, ct, lk, hb⟩ := Wd.ex
  refine pe_imp (LamX.pe_lamcall (T := tabsOf X.K) (TT := TTd X.K F) (t := fun E => lL X.K (fun cls d _ H => E cls d H) fb) hg Wd.mg Wd.keep lk Wd.code hb Wd.sc Wd.at0 Wd.vis hG TB hcode hmT hu hr L hdef hbind hbody hdb hd hcd) fun σ H Q ⟨ρ, G, la, P2, XX, r, hF, q, xo⟩ => ?_
  have gr : ∀ {G' : Hp} {la' : List Addr} {i : Nat} {y : Sl}, Same G G' → la <+: la' → ρ.s[i]? = some (some y) → ∃ v, σ[i]? = some (some v) ∧ SlR X.K G' la' v y := fun {G' la' i y} g pp hy => by
    obtain ⟨u, hu, ru⟩ := r.at_ i y hy
    exact ⟨u, hu, ru.grow g pp⟩
  refine ⟨fun p hp => (r.tb.tbl p hp).2, fun H1 eN T1 => ⟨G, la, ρ.T, _, _, r.tb.extN eN T1, ?_, hF, fun r2 T' v G' la' H' p g pp rl sr => q _ _ v G' la' H' p ⟨g, pp, ⟨rl, r.sl, fun i y hy => gr g pp hy⟩⟩ sr⟩⟩
  intro G' la' H' T' Q' QX' Qv E hc rl sg pl kq kx
  exact ⟨⟨T', ρ.s⟩, G', la', _, _, ⟨rl, r.sl, fun i y hy => gr sg pl hy⟩, hc, fun r2 ρ' v G2 la2 H2 p a z => kq r2 ρ'.T v G2 la2 H2 p a.g a.p a.r.tb z, fun y ρ' σ' G2 la2 H2 cls od p a z => kx y ρ'.T G2 la2 H2 cls od p a.g a.p a.r.tb z⟩

/-! ### a name that is one of several defs -/
def lookF : List (Str × DF) → Str → Option DF
  | [], _ => none
  | (x, S) :: r, y => if (y == x) = true then some S else lookF r y
theorem lookF_nil {X : Cx} {k n : Nat} : ∀ y S, lookF [] y = some S → Kept1 X k n y S := fun y S h => by cases h
theorem lookF_cons {X : Cx} {k n : Nat} {x : Str} {S : DF} {l : List (Str × DF)} (h : Kept1 X k n x S) (r : ∀ y S, lookF l y = some S → Kept1 X k n y S) : ∀ y S', lookF ((x, S) :: l) y = some S' → Kept1 X k n y S' := fun y S' e => by
  unfold lookF at e
  split at e
  · rename_i q
    have e1 : y = x := by simpa using q
    have e2 := Option.some.inj e
    subst e1 e2
    exact h
  · exact r y S' e
theorem kept_up {X : Cx} {j k n : Nat} {x : Str} {S : DF} {f : Addr} {fd : FuncData} {ps : List Str} (F : FnOk X.prog X.w X.K X.mg X.base (L2.CX X.prog X.w) j f fd ps (spD X.K n S)) (h : j ≤ k) (hn : PySem.W.nsIn X.K mainGlobals x = some (some (.ref f))) (hk : PySem.W.keepIn X.K (.ref f) = true) (hb : Binds X.K fd ps []) : Kept1 X k n x S :=
  ⟨f, fd, ps, hn, ⟨F.len, fun A outer s H args us vs Q E hr => F.run A outer s H args us vs Q E (hr.mono h)⟩, hk, hb⟩

/-! ### which errors a clause takes -/
theorem exq_nil {K : PySem.W.Frag} {c : Value} {f : Str → Bool} : ∀ n ∈ ([] : List Str), ∀ cls, PySem.W.nsIn K mainGlobals n = some (some cls) → PySem.W.exmOne K cls c = some (f n) := fun n h => by simp at h
theorem exq_cons {K : PySem.W.Frag} {c : Value} {f : Str → Bool} {n : Str} {R : List Str} {C : Addr} {b : Bool} (hn : PySem.W.nsIn K mainGlobals n = some (some (.ref C))) (hx : PySem.W.exmOne K (.ref C) c = some b) (hb : b = f n)
    (r : ∀ n ∈ R, ∀ cls, PySem.W.nsIn K mainGlobals n = some (some cls) → PySem.W.exmOne K cls c = some (f n)) : ∀ m ∈ n :: R, ∀ cls, PySem.W.nsIn K mainGlobals m = some (some cls) → PySem.W.exmOne K cls c = some (f m) := fun m h cls hc => by
  rcases List.mem_cons.mp h with rfl | h
  · rw [hn] at hc
    cases hc
    rw [hx, hb]
  · exact r m h cls hc

/-! ### the end of a law -/
theorem walk_ofD {l : PySem.W.OpenLaw} {n k : Nat} {q : Program} {loose : List Str} {XP : (Str → Option Value) → Heap → Prop} {YP : World → Heap → Prop} {d : DefRec} {K : Params → PySem.W.Frag} {CX : World → CXT} {x : Str}
    (hn : l.most = some n) (hn2 : n ≤ sizeLine) (hdf : d.params.defaults = []) (hr : Room k callerA) (hY : ∀ (w : World) (h : Heap), YP w h → (K w.params).In h)
    (F : ∀ (w : World) (mg mb : Str → Option Value) (fa : Addr) (h : Heap) (lo : List Str) (mean : ExcName → Option Value), YP w h → (K w.params).In h → Top q lo mean mg mb h → mg d.name = some (.ref fa) → LamX.LawAtS l w (K w.params) (CX w) k n x mg fa h)
    (hCX : ∀ (w : World) (H : Hp) (s : Shared) (e : Value) (s' : Shared), CX w [] H s (fun _ _ _ => False) e s' → False) : PySem.W.WalkO q loose XP YP l.row.toRowW d [] (fun f vs => PySem.call f vs) := by
  refine Att.attach_callB hn hdf fun w s0 s1 mg mb fa o pm cd doc a vs ns G Y ho hd hcd hmg hobj hints hlen hbits hg => ?_
  have KX := hY w _ Y
  obtain ⟨fd, cs, sp, hT, nT, C, hb, hsp, hF⟩ := F w mg mb fa _ _ _ Y KX G.T hmg
  exact LamX.law_callTs KX G.T.g G.T.b G.T.builtins G.T.nolimit hg hT nT C G.T.bmain hobj hints (Nat.le_trans hlen hn2) hr hF hb (fun H hH hS => hsp H a ns hlen hbits hH hS) fun H e s' => hCX w H s1 e s'
/-- the known part at the start: all but the tables -/
def lessTbl (H : Hp) : Hp := fun b => match H b with
  | some (.tbl _) => none
  | o => o
theorem less_same (H : Hp) : Same (lessTbl H) H := fun b o e => by
  unfold lessTbl at e
  split at e
  · cases e
  · exact e
theorem less_nt (H : Hp) : NoTbl (lessTbl H) := fun b ps e => by
  unfold lessTbl at e
  split at e
  · cases e
  · rename_i z
    exact z ps e
theorem less_at {H : Hp} {b : Addr} {o : HO} (e : H b = some o) (n : ∀ ps, o ≠ .tbl ps) : lessTbl H b = some o := by
  unfold lessTbl
  rw [e]
  cases o <;> first | rfl | exact absurd rfl (n _)
theorem less_none {H : Hp} {b : Addr} {ps : Array Value} (e : H b = some (.tbl ps)) : lessTbl H b = none := by
  unfold lessTbl
  rw [e]
theorem less_seq {K : PySem.W.Frag} {H : Hp} {a : Addr} {vs : List V} (h : SqL K H a vs) : SqL K (lessTbl H) a vs := by
  rcases h with (h | ⟨o, h⟩) | h
  · exact .inl (.inl (less_at h fun ps z => by cases z))
  · exact .inl (.inr ⟨o, less_at h fun ps z => by cases z⟩)
  · exact .inr h
theorem law_spT {K : PySem.W.Frag} {S : DF} {cs : List (Addr × Addr)} (ht : ∀ p ∈ tabsOf K, ∃ c, (c, p.1) ∈ cs) (hlaw : ∀ (ns : List Int) (T : List Ob) (Q : Sl → List Ob → Prop) (QX : Xn → List Ob → Prop), ns.length ≤ 63 → (∀ T', Q (.dat (.bl true)) T') → S [.dat (.scr ns)] T Q QX) (H : Hp) (a : Addr) (ns : List Int) (hl : ns.length ≤ 63)
    (hH : ∀ p ∈ cs, H p.2 = some (.tbl #[])) (hS : SqL K H a (ns.map V.int)) : spD K 1 S [.ref a] H (fun v _ => v = .bl true) fun _ _ _ => False :=
  ⟨rfl, [.dat (.scr ns)], lessTbl H, [], [], fun r _ => r = .dat (.bl true), fun _ _ => False, ⟨less_same H, List.nodup_nil, rfl, fun k a o h => by simp at h, fun k a h => by simp at h, less_nt H, fun p hp => by
    obtain ⟨c, hc⟩ := ht p hp
    exact ⟨less_none (hH _ hc), LamX.TabS.nil (hH _ hc)⟩⟩, .cons (.scr (less_seq hS)) .nil, hlaw ns [] _ _ hl (fun _ => rfl), fun r T' v G' la' H' e _ _ _ z => by
    subst e
    cases z
    rfl, fun _ _ _ _ _ _ _ f _ _ _ _ => f.elim⟩
theorem cx_none {P : Program} {w : World} {H : Hp} {s s' : Shared} {e : Value} (h : L2.CX P w [] H s (fun _ _ _ => False) e s') : False := by
  obtain ⟨a, B, H', cls, d, _, _, _, _, _, _, _, hE⟩ := h
  exact hE
end DL
set_option Elab.async false
set_option linter.all false
set_option maxRecDepth 100000
set_option maxHeartbeats 4000000
set_option autoImplicit false
/-! The data level: two names at once, by a tuple that is built. -/
namespace DL
open PySem PySem.Spec PyProof.Rows L2
theorem ds_par2T (i j : Nat) {X : Cx} {W : WX} {x y : Str} {a b : Expr} {f g : DL'} {px py pt pos : Pos} {kt k2 pt2} (hc : X.calm = true) (hN : X.N.Nodup) (ha : PA X [a, b] (lA X.K W (dCons f (dCons g dNil))))
    (hi : X.N[i]? = some x := by rfl) (hj : X.N[j]? = some y := by rfl) (hx : Loc X.env.scope x := by first | exact Or.inl rfl | exact Or.inr rfl) (hy : Loc X.env.scope y := by first | exact Or.inl rfl | exact Or.inr rfl)
    (hfx : X.fn x = true ∨ X.env.scope.names.lookup x = some .local := by first | exact .inl rfl | exact .inr rfl | assumption) (hfy : X.fn y = true ∨ X.env.scope.names.lookup y = some .local := by first | exact .inl rfl | exact .inr rfl | assumption)
    (hs : swapsWithSole [.Tuple [.Name x px, .Name y py] kt pt] (.Tuple [a, b] k2 pt2) pos.line X.env = pure false := by rfl) (hw : swappedStores [.Tuple [.Name x px, .Name y py] kt pt] (.Tuple [a, b] k2 pt2) X.env = pure none := by rfl)
    (h1 : (assignEach [.Tuple [.Name x px, .Name y py] kt pt] X.env).map (·.2) = [assign (.Tuple [.Name x px, .Name y py] kt pt) X.env] := by rfl) (h2 : (assignEach [.Name x px, .Name y py] X.env).map (·.2) = assign (.Name x px) X.env :: (assignEach [.Name y py] X.env).map (·.2) := by rfl)
    (h3 : (assignEach [.Name y py] X.env).map (·.2) = assign (.Name y py) X.env :: (assignEach [] X.env).map (·.2) := by rfl) (hn : (assignEach [.Name x px, .Name y py] X.env).length = 2 := by rfl) (hst : (assignEach [.Name x px, .Name y py] X.env).findIdx? (·.1) = none := by rfl) :
    PS X (.Assign [.Tuple [.Name x px, .Name y py] kt pt] (.Tuple [a, b] k2 pt2) pos) (lS X.K W (sPar2 i j f g)) :=
  ps_imp (ps_asg (pe_tup ha) (pg_tup hc (pgs_cons (pg_name (i := i) hN hi hx hfx) (pgs_cons (pg_name (i := j) hN hj hy hfy) pgs_nil h3) h2) hn hst) hs hw h1) fun D σ H ⟨ρ, G, la, E, r, h, b⟩ => ⟨ρ, G, la, fun xs ρ2 => ∃ u v, xs = [u, v] ∧ E.nx ⟨ρ2.T, (ρ2.s.set i (some u)).set j (some v)⟩, _, r, by
    show f E.xn ρ fun x ρ1 => g E.xn ρ1 fun y ρ2 => ∃ u v, [x, y] = [u, v] ∧ E.nx ⟨ρ2.T, (ρ2.s.set i (some u)).set j (some v)⟩
    have e : (fun (x : Sl) (ρ1 : Env) => g E.xn ρ1 fun y ρ2 => ∃ u v, [x, y] = [u, v] ∧ E.nx ⟨ρ2.T, (ρ2.s.set i (some u)).set j (some v)⟩) = fun x ρ1 => g E.xn ρ1 fun y ρ2 => E.nx ⟨ρ2.T, (ρ2.s.set i (some x)).set j (some y)⟩ := by
      funext x ρ1
      congr 1
      funext y ρ2
      exact propext ⟨fun ⟨u, v, h1, h2⟩ => by cases h1; exact h2, fun h2 => ⟨x, y, rfl, h2⟩⟩
    rw [e]
    exact h, fun xs ρ2 vs G2 la2 H2 p a z => by
    obtain ⟨u, v, rfl, p⟩ := p
    cases z with
    | cons z1 z =>
      cases z with
      | cons z2 z =>
        cases z
        rename_i v1 v2
        refine ⟨by show 2 ≤ sizeLine; decide, fun q hq => ⟨_, _, rfl, .inl (.inl upd_same), rfl, _, _, rfl, _, _, rfl, rfl, ?_⟩⟩
        have a2 := a.grow (Grow.hid (o := .tup [v1, v2]) a.r.ext hq)
        exact b.nx _ _ _ _ _ p ⟨a2.g, a2.p, (a2.r.set z1).set (ρ := ⟨ρ2.T, ρ2.s.set i (some u)⟩) z2⟩, b.xn⟩
end DL
set_option Elab.async false
set_option linter.all false
set_option maxRecDepth 100000
set_option maxHeartbeats 4000000
set_option autoImplicit false
/-! Errors with a field: their own __init__, raised, caught by name. -/
namespace DL
open PySem PySem.Spec PyProof.Rows L2

/-! ### B.__init__(self, ..), B an own class of errors -/
/-- what the text says of the base class -/
structure BaseC (K : PySem.W.Frag) (mg : Str → Option Value) (x : Str) (B : Addr) : Prop where
  g : mg x = some (.ref B)
  k : PySem.W.keepIn K (.ref B) = true
  rd : PySem.W.readsIn K B (.type "type") = true
  ga : PySem.W.specialIn K (.ref B) "__getattribute__" = some (some (.builtin "type.__getattribute__"))
  i : PySem.W.findCls K (.ref B) (.type "type") "__init__" = some (.val (.builtin "ValueError.__init__"))
section
variable {X : Cx} {e : Expr} {es : List Expr} {ta : TA} {p1 p2 pos : Pos} {x : Str} {B : Addr}
theorem pe_baseinit {pl : Sem Bool} (b : BaseC X.K X.mg x B) (ha : PA X (e :: es) ta) (hg : Gl X x := by rfl) (hdb : (x == ("__debug__" : Str)) = false := by decide)
    (hc : eval (.Call (.Attribute (.Name x p1) "__init__" p2) (e :: es) [] pos) X.env = (do
      let ov ← eval (.Name x p1) X.env
      standAt p2.atName
      let (f, first) ← holding [ov] (getMethod ov "__init__" pl)
      callWith pos f first (backTo pos (starEach (e :: es) X.env)) (backToKw pos (keywordEach [] X.env))) := by rfl)
    (he : starEach (e :: es) X.env = (false, eval e X.env) :: starEach es X.env := by rfl) (hpl : (backTo pos (starEach es X.env)).any (·.1) = false := by rfl) :
    PE X (.Call (.Attribute (.Name x p1) "__init__" p2) (e :: es) [] pos) (tVeI X.K ta) := by
  refine ⟨fun pins s σ H Q I h => ?_⟩
  refine PySem.W.methodCall_KW (ld_glob I hg b.g ?_ hdb) hc
  refine PySem.W.method_cls I.kIn b.ga ?_
  refine PySem.W.cls_value I.kIn b.rd b.i (by decide +kernel) ?_
  show wpAny _ _ (callWith pos (Value.builtin "ValueError.__init__") [] (backTo pos (starEach (e :: es) X.env)) []) _ _ _
  refine PyProof.Rows.callWith_method1 (thn (ha.run pos pins _ σ H _ (I.tok _) h) fun us s1 ⟨vs, H1, I1, r1, a, C, ws, ev, hl, T, ea, q⟩ => ?_) he hpl
  subst ev
  cases r1 with
  | @cons _ u0 _ ur ra rw' =>
    obtain rfl : u0 = Value.ref a := ra
    have hlen : ur.length ≤ sizeLine := by
      rw [← Paired.length rw', sizeLine_eq]
      omega
    exact oinit_ok T I1 ea hlen fun s' J => ⟨.non, H1, J, rfl, q⟩
end

/-! ### an own __init__ that keeps one field -/
def spI (f : Str) (C : Addr) : Sp := fun vs H Q _ => ∃ a x, vs = [.ref a, x] ∧ H a = some (exo a C none) ∧ ∀ dx, H dx = none → dx ≠ a → Q .non (upd (upd H dx (exd dx [(f, x)])) a (exo a C (some dx)))
section
variable {P : Program} {w : World} {K : PySem.W.Frag} {mg : Str → Option Value} {base : Heap}
theorem fn_ini {CX : CXT} {f : Str} {C fI : Addr} {name qual : Str} {params : Arguments} {body : List Stmt} {scope : Scope} {kV doc pm cdv ct dV oc : Value} {od an : Option Addr} {osl : Array (Option Value)} {N ps : List Str} {k : Nat}
    (lk : K.lookup fI = some ⟨oc, od, .func (PySem.W.fnOf name qual params body scope dV kV doc pm an cdv ct), osl⟩) (hcd : PySem.W.codeIn K cdv qual = true) (S : FnScope N ps scope) (hn : ps.length = 2)
    (T : OexC K C) (hno : PySem.W.findIn K (.ref C) f = some none) (m : Str)
    (hB : ∀ (A : Around) (outer : List PySem.Env) (s : Shared) (H : Hp) (E : XK), Room k (A.deeper (envOfC qual scope s.heap.objs.size fI cdv)) →
      PSs (cxOf CX P w K mg base N qual scope fI cdv A outer s H E) body (tSeq (tDrop (tVeI K (tCons (tVar 0) (tCons (tC (.str m)) tNil)))) (tOst K f (tVar 0) (tVar 1)))) :
    FnOk P w K mg base CX (k + 1) fI (PySem.W.fnOf name qual params body scope dV kV doc pm an cdv ct) ps (spI f C) := by
  refine fn_of lk hcd S (fun vs H Q E h => ?_) (fun A outer s H vs Q E hr h => ⟨_, hB A outer s H E hr, ?_⟩)
  · obtain ⟨a, x, rfl, _⟩ := h
    exact hn.symm
  · obtain ⟨a, x, rfl, ha, q⟩ := h
    have s0 : (L2.start N [V.ref a, x])[0]? = some (some (.ref a)) := rfl
    have s1 : (L2.start N [V.ref a, x])[1]? = some (some x) := rfl
    refine ⟨.ref a, s0, a, C, [.str m], rfl, by simp, T, ha, ?_⟩
    refine ⟨x, s1, .ref a, s0, a, C, rfl, T, hno, .inl ⟨ha, fun dx hd ne => q dx hd ne⟩⟩
end

/-! ### raise C(e), C with such an __init__ -/
def sRaiseF (n f : Str) (fe : DE) : DS := fun E ρ => fe E.xn ρ fun d ρ' => E.xn ⟨n, some (f, d)⟩ ρ'
section
variable {X : Cx} {W : WX} {x f : Str} {e : Expr} {fe : DE} {C fI : Addr} {k : Nat} {fd : FuncData} {ps : List Str} {p p3 pos : Pos}
theorem ds_raiseF (hc : X.calm = true) (tk : Takes X W) (T : OexC X.K C) (iC : PySem.W.findIn X.K (.ref C) "__init__" = some (some (.ref fI))) (tI : PySem.W.typeIn X.K (.ref fI) = some (.type "function"))
    (F1 : FnOk X.prog X.w X.K X.mg X.base (L2.CX X.prog X.w) k fI fd ps (spI f C)) (hr : Room (k + 1) X.A) (hb : Binds X.K fd ps []) (hm : X.mg x = some (.ref C)) (hn : PySem.W.nsIn X.K mainGlobals x = some (some (.ref C)))
    (he : PE X e (lE X.K W fe)) (hg : Gl X x := by rfl) (hdb : (x == ("__debug__" : Str)) = false := by decide) (hs : starEach [e] X.env = (false, eval e X.env) :: starEach [] X.env := by rfl) (hpl : (backTo p3 (starEach [] X.env)).any (·.1) = false := by rfl) :
    PS X (.Raise (some (.Call (.Name x p) [e] [] p3)) none pos) (lS X.K W (sRaiseF x f fe)) := by
  refine ps_imp (ps_raise hc tk (pmk_oex T iC tI F1 hr hb (dvs := []) .nil (passes_call tk fun _ _ _ _ h => h.elim) hg hm (pa_cons he pa_nil hs) hdb hs hpl)) fun D σ H ⟨ρ, G, la, E, r, h, b⟩ => ?_
  refine ⟨ρ, G, la, _, E.xn, r, h, fun d ρ' v G' la' H' hp a z => ?_, b.xn⟩
  refine ⟨by simp, fun a0 h0 => ⟨a0, v, rfl, upd_same, fun dx hd ne => ⟨rfl, dx, [(f, v)], upd_same, ?_, ?_, ?_⟩⟩⟩
  · rw [upd_ne ne, upd_same]
  · rw [upd_ne ne] at hd
    exact hd
  · have hd' : H' dx = none := by
      rw [upd_ne ne] at hd
      exact hd
    have e1 : upd (del (upd (upd (upd H' a0 (exo a0 C none)) dx (exd dx [(f, v)])) a0 (exo a0 C (some dx))) a0) dx (.xd [(f, v)]) = upd H' dx (.xd [(f, v)]) := by
      funext b
      by_cases hb : b = dx
      · subst hb
        rw [upd_same, upd_same]
      · rw [upd_ne hb, upd_ne hb]
        by_cases hb2 : b = a0
        · subst hb2
          rw [del_same, h0]
        · rw [del_ne hb2, upd_ne hb2, upd_ne hb, upd_ne hb2]
    rw [e1]
    have w := Grow.new (o := .xd [(f, v)]) a.r.tb.ext hd'
    exact b.xn ⟨x, some (f, d)⟩ ρ' σ _ la' _ (.ref C) (some dx) hp (a.grow w) ⟨hn, dx, v, rfl, upd_same, z.up w.g⟩
end

/-! ### try, with clauses that name the error -/
def hndlF (R : List Str) (E : DN) : List (Str × (Xn → DS)) → XP
  | [] => E.xn
  | (c, S) :: r => fun x ρ => R.contains x.n = true ∧ if isaN x.n c = true then S x { E with xn := X0 } ρ else hndlF R E r x ρ
def sTryF (R : List Str) (B : DS) (cl : List (Str × (Xn → DS))) : DS := fun E ρ => B { E with xn := hndlF R E cl } ρ
/-- y = 'w' + str(e.f), e the error (slot i), y at slot j -/
def sFld (i j : Nat) (w f : Str) : Xn → DS := fun x E ρ => ρ.s[i]? = some none ∧ i ≠ j ∧ ∃ n : Int, x.f = some (f, .int n) ∧ n.natAbs.log2 < 1920 ∧ w.length + Str.length (toString n) ≤ sizeLine ∧ E.nx ⟨ρ.T, ρ.s.set j (some (.dat (.str (w ++ toString n))))⟩
def tFld (i j : Nat) (w f : Str) (A : Addr) (a : Addr) (cls : Value) (d : Option Addr) : TS :=
  tAsg (tOp (fun x y H Q => ∃ i j, x = .str i ∧ y = .str j ∧ i.length + j.length ≤ sizeLine ∧ Q (.str (i ++ j)) H) (tC (.str w)) (tCB (fun xs H Q => ∃ i, xs = [.int i] ∧ i.natAbs.log2 < 1920 ∧ Q (.str (toString i)) H) (tCons (tXf a cls d A f (tVar i)) tNil))) (gName j)
inductive DClF (X : Cx) (R : List Str) : List ExceptHandler → List Cl → List (Str × (Xn → DS)) → Prop
  | nil : DClF X R [] [] []
  | only {c : Str} {A : Addr} {S : DS} {b : Stmt} {su : List Stmt} {np p : Pos} {hs : List ExceptHandler} {ks : List Cl} {cl : List (Str × (Xn → DS))} (nm : Names X c (.ref A))
      (ex : ∀ n ∈ R, ∀ cls, PySem.W.nsIn X.K mainGlobals n = some (some cls) → PySem.W.exmOne X.K cls (.ref A) = some (isaN n c))
      (run : ∀ (a : Addr) (o : Obj) (pn : List (Addr × Obj)), PSs (X.suite a ((a, o) :: pn)) (b :: su) (lS X.K W0 S)) (r : DClF X R hs ks cl) :
      DClF X R (.ExceptHandler (some (.Name c np)) none (b :: su) p :: hs) (⟨.ref A, none, fun _ _ _ => lS X.K W0 S⟩ :: ks) ((c, fun _ => S) :: cl)
  | named {c n w f : Str} {i j : Nat} {A : Addr} {b : Stmt} {su : List Stmt} {np p : Pos} {hs : List ExceptHandler} {ks : List Cl} {cl : List (Str × (Xn → DS))} (nm : Names X c (.ref A)) (nd : X.N.Nodup) (hi : X.N[i]? = some n) (hl : X.env.kindOf n = some .local)
      (ex : ∀ n ∈ R, ∀ cls, PySem.W.nsIn X.K mainGlobals n = some (some cls) → PySem.W.exmOne X.K cls (.ref A) = some (isaN n c)) (hc : PySem.W.nsIn X.K mainGlobals c = some (some (.ref A))) (hd : (c == ("DogError" : Str)) = false)
      (run : ∀ (a : Addr) (o : Obj) (cls : Value) (d : Option Addr) (pn : List (Addr × Obj)), Zc cls d o → (∃ vs, o.data = .fields vs) → PSs (X.suite a ((a, o) :: pn)) (b :: su) (tFld i j w f A a cls d)) (r : DClF X R hs ks cl) :
      DClF X R (.ExceptHandler (some (.Name c np)) (some n) (b :: su) p :: hs) (⟨.ref A, some i, tFld i j w f A⟩ :: ks) ((c, sFld i j w f) :: cl)
section
variable {X : Cx} {W : WX} {R : List Str}
theorem DClF.ok {hs : List ExceptHandler} {ks : List Cl} {cl : List (Str × (Xn → DS))} (h : DClF X R hs ks cl) : ClsOk X hs ks := by
  induction h with
  | nil => exact .nil
  | only nm ex run r ih => exact .cons (.only nm fun a o cls d pn _ _ => run a o pn) ih
  | named nm nd hi hl ex hc hd run r ih => exact .cons (.named nm nd hi hl fun a o cls d pn z f => run a o cls d pn z f) ih
theorem DClF.wish {G : Hp} {la : List Addr} {E : DN} {D : Ends} (b : Bk X.K G la W E D) : ∀ {hs : List ExceptHandler} {ks : List Cl} {cl : List (Str × (Xn → DS))}, DClF X R hs ks cl → ∀ (x : Xn) (ρ' : Env) (σ' : L2.St) (G' : Hp) (la' : List Addr) (H' : Hp) (cls : Value) (od : Option Addr),
    hndlF R E cl x ρ' → Aft X.K G la σ' ρ' G' la' H' → XR X.K G' H' x cls od → (R.contains x.n = true) → wMix X.K W D ks cls od σ' H' := by
  intro hs ks cl h
  induction h with
  | nil =>
    intro x ρ' σ' G' la' H' cls od p a z _
    exact b.xn x ρ' σ' G' la' H' cls od p a z
  | @only c A S b0 su np p0 hs ks cl nm ex run r ih =>
    intro x ρ' σ' G' la' H' cls od p a z hR
    obtain ⟨_, p⟩ := p
    refine ⟨isaN x.n c, ex x.n (by simpa using hR) cls z.1, fun e => ?_, fun e => ?_⟩
    · rw [if_pos e] at p
      intro q hq
      have bb := b.up a.g a.p
      exact ⟨ρ', G', la', _, a.r, p, ⟨bb.nx, bb.bk, bb.ct, bb.rt, fun _ _ _ _ _ _ _ _ f => f.elim⟩⟩
    · rw [if_neg (by rw [e]; exact Bool.false_ne_true)] at p
      exact ih x ρ' σ' G' la' H' cls od p a z hR
  | @named c n w f i j A b0 su np p0 hs ks cl nm nd hi hl ex hc hd run r ih =>
    intro x ρ' σ' G' la' H' cls od p a z hR
    obtain ⟨_, p⟩ := p
    refine ⟨isaN x.n c, ex x.n (by simpa using hR) cls z.1, fun e => ?_, fun e => ?_⟩
    · rw [if_pos e] at p
      intro q hq
      obtain ⟨pi, hij, m, ef, lm, ll, pn⟩ := p
      have exn : x.n = c := by
        unfold isaN at e
        rw [hd, Bool.or_false] at e
        simpa using e
      have ecl : cls = .ref A := by
        have z1 := z.1
        rw [exn, hc] at z1
        cases z1
        rfl
      have z2 := z.2
      rw [ef] at z2
      obtain ⟨dd, v, e1, e2, e3⟩ := z2
      cases e3
      have li : i < σ'.length := by
        rw [← a.r.sl]
        exact (List.getElem?_eq_some_iff.mp pi).1
      have g1 : (σ'.set i (some (.ref q)))[i]? = some (some (V.ref q)) := by
        rw [List.getElem?_set_self li]
      refine ⟨.ref q, g1, rfl, ecl, dd, [(f, .int m)], .int m, e1, e2, by simp [List.lookup], m, rfl, lm, w, _, rfl, rfl, ll, ?_⟩
      refine b.nx ⟨ρ'.T, ρ'.s.set j (some (.dat (.str (w ++ toString m))))⟩ _ G' la' H' pn ⟨a.g, a.p, ⟨a.r.tb, ?_, fun y z hy => ?_⟩⟩
      · simp only [List.length_set]
        exact a.r.sl
      · by_cases hyj : j = y
        · subst hyj
          have lj : j < ρ'.s.length := by
            have := (List.getElem?_eq_some_iff.mp hy).1
            simpa using this
          rw [List.getElem?_set_self lj] at hy
          have ez := Option.some.inj (Option.some.inj hy)
          subst ez
          refine ⟨_, ?_, (.str _ : Dp X.K G' _ _)⟩
          rw [List.getElem?_set_ne hij, List.getElem?_set_self (by rw [List.length_set, ← a.r.sl]; exact lj)]
        · rw [List.getElem?_set_ne hyj] at hy
          have hyi : i ≠ y := fun t => by
            subst t
            rw [pi] at hy
            cases hy
          obtain ⟨u, hu, ru⟩ := a.r.at_ y z hy
          exact ⟨u, by rw [List.getElem?_set_ne hyi, List.getElem?_set_ne hyj, List.getElem?_set_ne hyi]; exact hu, ru⟩
    · rw [if_neg (by rw [e]; exact Bool.false_ne_true)] at p
      exact ih x ρ' σ' G' la' H' cls od p a z hR
end
end DL
set_option Elab.async false
set_option linter.all false
set_option maxRecDepth 100000
set_option maxHeartbeats 4000000
set_option autoImplicit false
/-! Errors as values: made, asked for their class, their field read. -/
namespace DL
open PySem PySem.Spec PyProof.Rows L2
/-- all own classes of errors; the fields of those that keep one -/
def errN : List Str := ["DogError", "InvalidDrill", "InvalidBeginning", "InvalidMany", "InvalidSheep", "InvalidPlace", "InvalidRun", "InvalidIndex", "Unlike", "NothingToUndo", "TooMany", "InvalidText"]
def fldN : List (Str × Str) := [("TooMany", "limit"), ("InvalidText", "line")]
theorem bt_ValueError : bootBuiltins "ValueError" = some (.type "ValueError") := by decide +kernel
theorem exO_tbl {cls : Value} {p : Addr} : ∀ ps, ExO cls p ≠ .tbl ps := fun ps z => by
  have z' : HO.ext _ = HO.tbl ps := z
  cases z'
theorem exd_tbl {p : Addr} {fs : List (Str × V)} : ∀ ps, exd p fs ≠ .tbl ps := fun ps z => by
  have z' : HO.ext _ = HO.tbl ps := z
  cases z'
/-! ### X(e) as a value -/
def dErr (x : Str) (fe : DE) : DE := fun X ρ Q => fe X ρ fun _ ρ' => Q (.err x none) ρ'
def dErf (x f : Str) (fe : DE) : DE := fun X ρ Q => fe X ρ fun d ρ' => match d with
  | .int i => Q (.err x (some (f, i))) ρ'
  | _ => False
section
variable {X : Cx} {W : WX} {x f : Str} {e : Expr} {fe : DE} {C fI : Addr} {k : Nat} {fd : FuncData} {ps : List Str} {p pos : Pos} {ta : TA} {es : List Expr} {sp : Sp}
theorem de_exc (ex : ExcC X.K X.mg x C) (he : PE X e (lE X.K W fe)) (hg : Gl X x := by rfl) (hs : starEach [e] X.env = (false, eval e X.env) :: starEach [] X.env := by rfl) (hdb : (x == ("__debug__" : Str)) = false := by decide) :
    PE X (.Call (.Name x p) [e] [] pos) (lE X.K W (dErr x fe)) :=
  pe_imp (pe_exc1 PySem.F.excBase_ValueError ex.x ex.g ex.k hg he hs hdb) fun σ H Q ⟨ρ, G, la, P, XX, r, h, q, xo⟩ =>
    ⟨ρ, G, la, _, XX, r, h, fun d ρ' v G' la' H' p a z a0 h0 => q (.err x none) ρ' (.ref a0) _ la' _ p (a.grow (Grow.new (o := ExO (.ref C) a0) a.r.tb.ext h0 exO_tbl)) (.err ex.n upd_same), xo⟩
/-- C(e, ..), C with an own __init__, as a value -/
def tVaO (C : Addr) (sp : Sp) (ta : TA) : TE := fun σ H Q => ta σ H fun vs H1 => vs.length ≤ 1000 ∧ ∀ a, H1 a = none → sp (.ref a :: vs) (upd H1 a (exo a C none)) (fun v H2 => v = .non ∧ Q (.ref a) H2) (fun _ _ _ => False)
theorem pe_oexv {CX : CXT} (T : OexC X.K C) (iC : PySem.W.findIn X.K (.ref C) "__init__" = some (some (.ref fI))) (tI : PySem.W.typeIn X.K (.ref fI) = some (.type "function"))
    (F1 : FnOk X.prog X.w X.K X.mg X.base CX k fI fd ps sp) (hr : Room (k + 1) X.A) (hb : Binds X.K fd ps []) (hx : Passes CX X (fun _ _ _ => False)) (hg : Gl X x) (hm : X.mg x = some (.ref C)) (ha : PA X (e :: es) ta)
    (hdb : (x == ("__debug__" : Str)) = false := by decide) (he : starEach (e :: es) X.env = (false, eval e X.env) :: starEach es X.env := by rfl) (hpl : (backTo pos (starEach es X.env)).any (·.1) = false := by rfl) :
    PE X (.Call (.Name x p) (e :: es) [] pos) (tVaO C sp ta) := by
  refine ⟨fun pins s σ H Q I h => ?_⟩
  obtain ⟨nm, q, N, bs, bm, sn, sub, ab, col, dd, k0, k1, k2, k3, k5, hC, hbm⟩ := T.cls
  refine wpAny_Call_Name_kw (ld_glob I hg hm ?_ hdb)
  refine PySem.W.callWith_K (h₀ := X.base) I.ok.mod.kin T.kC (thn (ha.run pos pins s σ H _ I h) fun us s1 ⟨vs, H1, I1, r1, hz, q1⟩ => ⟨I1.kIn, ?_⟩) he hpl
  show wpAny _ _ (call (.ref C) us) _ _ _
  obtain ⟨hp, g, dr, tk, os⟩ := s1
  have hsz : hp.objs.size ≤ hp.objs.size + 1 := Nat.le_succ _
  have hn : H1 (hp.objs.size + 1) = none := I1.hok.fresh hsz
  have hq := q1 (hp.objs.size + 1) hn
  have kk : ∀ b o, hp.get? b = some o → ((hp.push (PySem.W.kdv_tup us)).push (PySem.HandSPX.excO C hp.objs.size)).get? b = some o := fun b o e => Heap.get?_push_of_some _ (Heap.get?_push_of_some _ e)
  have hget : ((hp.push (PySem.W.kdv_tup us)).push (PySem.HandSPX.excO C hp.objs.size)).get? (hp.objs.size + 1) = some (PySem.HandSPX.excO C hp.objs.size) := by heap_get
  have I2 : Inv X pins σ (upd H1 (hp.objs.size + 1) (exo (hp.objs.size + 1) C none)) ⟨(hp.push (PySem.W.kdv_tup us)).push (PySem.HandSPX.excO C hp.objs.size), g, dr, tk, os⟩ :=
    I1.laid (t' := tk) (a := hp.objs.size + 1) (o := exo (hp.objs.size + 1) C none) (h' := (hp.push (PySem.W.kdv_tup us)).push (PySem.HandSPX.excO C hp.objs.size)) kk hsz (exo_ok hget)
  have r2 : Vals (V.ref (hp.objs.size + 1) :: vs) (Value.ref (hp.objs.size + 1) :: us) := .cons rfl r1
  have hl : (Value.ref (hp.objs.size + 1) :: us).length = ps.length := by
    have e := r2.length
    rw [F1.len _ _ _ _ hq] at e
    exact e.symm
  have hus : us.length ≤ sizeLine := by
    rw [← Paired.length r1, sizeLine_eq]
    omega
  have hbb := hb _ (Value.ref (hp.objs.size + 1) :: us) I2.kIn (by simpa using hl)
  rw [List.append_nil] at hbb
  refine wpAny_call (PySem.HandSPX.call_own F.excBase_ValueError (fun Y => PySem.HandSPX.refsVE_contains Y bm hbm) (I1.kIn _ _ hC) (PySem.W.looks_findIn I1.kIn iC) (fun self => PySem.W.bind_fn I1.kIn self tI) hus
    (codeAny_mono (F1.run _ X.stack _ _ ⟨Value.ref (hp.objs.size + 1) :: us, []⟩ (Value.ref (hp.objs.size + 1) :: us) _ _ (fun _ _ _ => False) (hr.make C us []) (I2.env0.make C us []) hbb r2 hq) fun r s' hq' => ?_))
  cases r with
  | error er => exact hx pins σ _ _ er s' I2 hq'
  | ok fl =>
    cases fl with
    | ret u =>
      obtain ⟨v, H2, J, rv, ev, q2⟩ := I2.after hq'
      subst ev
      exact ⟨rv, .ref (hp.objs.size + 1), H2, J, rfl, q2⟩
    | next => exact False.elim hq'
    | brk => exact False.elim hq'
    | cont => exact False.elim hq'
end
section
variable {X : Cx} {W : WX} {x f : Str} {e : Expr} {fe : DE} {C fI : Addr} {k : Nat} {fd : FuncData} {ps : List Str} {p pos : Pos}
theorem de_excF (T : OexC X.K C) (iC : PySem.W.findIn X.K (.ref C) "__init__" = some (some (.ref fI))) (tI : PySem.W.typeIn X.K (.ref fI) = some (.type "function"))
    (F1 : FnOk X.prog X.w X.K X.mg X.base (L2.CX X.prog X.w) k fI fd ps (spI f C)) (hr : Room (k + 1) X.A) (hb : Binds X.K fd ps []) (tk : Takes X W) (hm : X.mg x = some (.ref C)) (hn : PySem.W.nsIn X.K mainGlobals x = some (some (.ref C)))
    (he : PE X e (lE X.K W fe)) (hg : Gl X x := by rfl) (hdb : (x == ("__debug__" : Str)) = false := by decide) (hs : starEach [e] X.env = (false, eval e X.env) :: starEach [] X.env := by rfl) (hpl : (backTo pos (starEach [] X.env)).any (·.1) = false := by rfl) :
    PE X (.Call (.Name x p) [e] [] pos) (lE X.K W (dErf x f fe)) := by
  refine pe_imp (pe_oexv T iC tI F1 hr hb (passes_call tk fun _ _ _ _ h => h.elim) hg hm (pa_cons he pa_nil hs) hdb hs hpl) fun σ H Q ⟨ρ, G, la, P, XX, r, h, q, xo⟩ => ?_
  refine ⟨ρ, G, la, _, XX, r, h, fun d ρ' v G' la' H' hp a z => ?_, xo⟩
  split at hp
  · rename_i i
    cases z
    refine ⟨by simp, fun a0 h0 => ⟨a0, .int i, rfl, upd_same, fun dx hd ne => ⟨rfl, ?_⟩⟩⟩
    have hd' : H' dx = none := by
      rw [upd_ne ne] at hd
      exact hd
    have e1 : upd (upd (upd H' a0 (exo a0 C none)) dx (exd dx [(f, .int i)])) a0 (exo a0 C (some dx)) = upd (upd H' dx (exd dx [(f, .int i)])) a0 (exo a0 C (some dx)) := by
      funext b
      by_cases hb : b = a0
      · subst hb
        rw [upd_same, upd_same]
      · rw [upd_ne hb, upd_ne hb]
        by_cases hb2 : b = dx
        · subst hb2
          rw [upd_same, upd_same]
        · rw [upd_ne hb2, upd_ne hb2, upd_ne hb]
    rw [e1]
    have w1 := Grow.new (o := exd dx [(f, .int i)]) a.r.tb.ext hd' exd_tbl
    have h0' : upd H' dx (exd dx [(f, .int i)]) a0 = none := by
      rw [upd_ne (Ne.symm ne)]
      exact h0
    have w2 := Grow.new (o := exo a0 C (some dx)) w1.i h0' (fun ps => exo_tbl)
    exact q (.err x (some (f, i))) ρ' (.ref a0) _ la' _ hp (a.grow (w1.trans w2)) (.erf hn upd_same (by rw [upd_ne ne, upd_same]))
  · exact hp.elim
end

/-! ### isinstance -/
/-- what the class of an error must say, so that its instances are asked rightly -/
structure ErrK (K : PySem.W.Frag) (C : Addr) : Prop where
  cl : (PySem.W.clsIn K C).isSome = true
  hg : PySem.W.findIn K (.ref C) "__getattribute__" = some (some (.builtin "BaseException.__getattribute__"))
  hk : PySem.W.findIn K (.ref C) "__getattr__" = some none
  hs : PySem.W.subIn K (.ref C) (.type "BaseException") = some true
  ha : PySem.W.findIn K (.ref C) "__class__" = some (some (.builtin "object.__class__"))
  hm : PySem.W.mroIn K C (.type "object") = some true
structure ErrAll (K : PySem.W.Frag) (N : List Str) : Prop where
  hn : PySem.W.specialIn K (.builtin "object.__class__") "__get__" = some (some (.builtin "getset_descriptor.__get__"))
  ht : PySem.W.takesIn K (.builtin "object.__class__") = some true
  c : ∀ n ∈ N, ∀ C, PySem.W.nsIn K mainGlobals n = some (some (.ref C)) → ErrK K C
  i : ∀ n ∈ N, ∀ c ∈ N, ∀ C D, PySem.W.nsIn K mainGlobals n = some (some (.ref C)) → PySem.W.nsIn K mainGlobals c = some (some (.ref D)) → PySem.W.kitOne K (.ref C) (.ref D) = some (isaN n c)
  v : ∀ n ∈ N, ∀ C, PySem.W.nsIn K mainGlobals n = some (some (.ref C)) → PySem.W.kitOne K (.ref C) (.type "ValueError") = some true
theorem fm0 {α : Type} {P : α → Prop} : ∀ p ∈ ([] : List α), P p := fun p h => nomatch h
theorem fm2 {α : Type} {P : α → Prop} {a : α} {l : List α} (h : P a) (r : ∀ p ∈ l, P p) : ∀ p ∈ a :: l, P p := fun p hp => by
  rcases List.mem_cons.mp hp with rfl | hp
  · exact h
  · exact r p hp
theorem fmI {K : PySem.W.Frag} {n c : Str} {C D : Addr} {x : Bool} (h : PySem.W.kitOne K (.ref C) (.ref D) = some x) (e : isaN n c = x := by decide) : PySem.W.kitOne K (.ref C) (.ref D) = some (isaN n c) := by rw [e]; exact h
theorem kit_mk {K : PySem.W.Frag} {C D : Addr} {b : Bool} (h : PySem.W.subIn K (.ref C) (.ref D) = some b) (self : PySem.W.subIn K (.ref C) (.ref C) = some true) (hc : PySem.W.isClsIn K D = true) (ht : PySem.W.typeIn K (.ref D) = some (.type "type")) : PySem.W.kitOne K (.ref C) (.ref D) = some b := by
  unfold PySem.W.kitOne
  by_cases e : C = D
  · subst e
    rw [self] at h
    rw [if_pos (by simp)]
    exact h
  · rw [if_neg (by simp; exact e)]
    show (if ((PySem.W.clsIn K D).isSome && PySem.W.typeIn K (.ref D) == some (.type "type")) = true then PySem.W.subIn K (.ref C) (.ref D) else none) = some b
    rw [show (PySem.W.clsIn K D).isSome = true from hc, ht, if_pos (by decide)]
    exact h
theorem kit_ve {K : PySem.W.Frag} {C : Addr} (h : PySem.W.subIn K (.ref C) (.type "ValueError") = some true) : PySem.W.kitOne K (.ref C) (.type "ValueError") = some true := by
  unfold PySem.W.kitOne
  rw [if_neg (by intro z; cases (eq_of_beq z))]
  show (if PySem.W.kitMeta "ValueError" = true then PySem.W.subIn K (.ref C) (.type "ValueError") else none) = some true
  rw [if_pos (by first | rfl | decide +kernel | kernel_rfl)]
  exact h
theorem errAll_mk {K : PySem.W.Frag} {N : List Str} (L : List (Str × Addr)) (hN : L.map (·.1) = N) (hL : ∀ p ∈ L, PySem.W.nsIn K mainGlobals p.1 = some (some (.ref p.2))) (hc : ∀ p ∈ L, ErrK K p.2)
    (hi : ∀ p ∈ L, ∀ q ∈ L, PySem.W.kitOne K (.ref p.2) (.ref q.2) = some (isaN p.1 q.1)) (hv : ∀ p ∈ L, PySem.W.kitOne K (.ref p.2) (.type "ValueError") = some true)
    (hn : PySem.W.specialIn K (.builtin "object.__class__") "__get__" = some (some (.builtin "getset_descriptor.__get__"))) (ht : PySem.W.takesIn K (.builtin "object.__class__") = some true) : ErrAll K N := by
  subst hN
  have at_ : ∀ n ∈ L.map (·.1), ∀ C, PySem.W.nsIn K mainGlobals n = some (some (.ref C)) → (n, C) ∈ L := fun n hn C h => by
    obtain ⟨p, hp, rfl⟩ := List.mem_map.mp hn
    have := hL p hp
    rw [h] at this
    cases this
    exact hp
  exact ⟨hn, ht, fun n h C e => hc _ (at_ n h C e), fun n h c h' C D e e' => hi _ (at_ n h C e) _ (at_ c h' D e'), fun n h C e => hv _ (at_ n h C e)⟩
theorem fldAll_mk {K : PySem.W.Frag} {F : List (Str × Str)} (L : List ((Str × Str) × Addr)) (hN : L.map (·.1) = F) (hL : ∀ p ∈ L, PySem.W.nsIn K mainGlobals p.1.1 = some (some (.ref p.2))) (hc : ∀ p ∈ L, XfC K p.2 ∧ PySem.W.findIn K (.ref p.2) p.1.2 = some none) :
    ∀ q ∈ F, ∀ C, PySem.W.nsIn K mainGlobals q.1 = some (some (.ref C)) → XfC K C ∧ PySem.W.findIn K (.ref C) q.2 = some none := by
  subst hN
  intro q hq C h
  obtain ⟨p, hp, rfl⟩ := List.mem_map.mp hq
  have := hL p hp
  rw [h] at this
  cases this
  exact hc p hp
def rIsX (K : PySem.W.Frag) : List V → Hp → VK → Prop := fun xs H Q => ∃ (p C : Addr) (c : V) (cv : Value) (b : Bool), xs = [.ref p, c] ∧ (H p = some (ExO (.ref C) p) ∨ ∃ dx fs, H p = some (exo p C (some dx)) ∧ H dx = some (exd dx fs)) ∧ ErrK K C ∧
  PySem.W.specialIn K (.builtin "object.__class__") "__get__" = some (some (.builtin "getset_descriptor.__get__")) ∧ PySem.W.takesIn K (.builtin "object.__class__") = some true ∧ (∀ u, RelV c u → u = cv) ∧ PySem.W.kitOne K (.ref C) cv = some b ∧ Q (.bl b) H
theorem call_isX {X : Cx} : CallR X (.builtin "isinstance") (rIsX X.K) := by
  intro pins s σ H xs us Q I r h
  obtain ⟨p, C, c, cv, b, rfl, hp, E, hn, ht, hcv, e, q⟩ := h
  cases r with
  | cons rx rr =>
    cases rr with
    | cons rt rr =>
      cases rr
      cases rx
      have ec := hcv _ rt
      subst ec
      rcases hp with hp | ⟨dx, fs, hp, hd⟩
      · obtain ⟨⟨oe, vs, ho, hz, hv, h1, _⟩, _, _⟩ := I.hok p _ hp
        have J : PySem.W.InstAt s.heap p oe C none := by
          obtain ⟨oc, od, oda, osl⟩ := oe
          obtain ⟨z1, z2⟩ := hz
          dsimp only at z1 z2 hv
          subst z1 z2 hv
          exact ⟨ho, rfl, rfl, trivial⟩
        exact PySem.W.kia_one (PySem.W.kitx_exc E.cl E.hg E.hk E.hs E.ha hn ht E.hm) I.kIn J e (fun z => nomatch z) fun tk => ⟨.bl b, H, I.kept (t' := tk) fun _ _ z => z, rfl, q⟩
      · obtain ⟨t1, ho⟩ := exo_at I.hok hp
        obtain ⟨mA, ⟨od, es, ep, hod, _⟩, _⟩ := exd_at I.hok hd
        have J : PySem.W.InstAt s.heap p _ C (some od) := ⟨ho, rfl, rfl, hod⟩
        exact PySem.W.kia_one (PySem.W.kitx_exc E.cl E.hg E.hk E.hs E.ha hn ht E.hm) I.kIn J e (fun z => nomatch z) fun tk => ⟨.bl b, H, I.kept (t' := tk) fun _ _ z => z, rfl, q⟩
def gIsE (N : List Str) : List D → (D → Prop) → Prop
  | [.err n _, .fn c], P => N.contains n = true ∧ N.contains c = true ∧ P (.bl (isaN n c))
  | [.err n _, .raw (.ty "ValueError")], P => N.contains n = true ∧ P (.bl true)
  | _, _ => False
theorem c_isE {K : PySem.W.Frag} {N : List Str} (EA : ErrAll K N) : COp K (rIsX K) (gIsE N) := by
  intro G H vs ds P Q sm h gp k
  unfold gIsE at gp
  split at gp
  · rename_i n f c
    obtain ⟨hN, hC, gp⟩ := gp
    obtain ⟨v, u, rfl, a, b⟩ := two_of h
    cases b with
    | fn hc =>
    cases a with
    | err hn hp =>
      exact ⟨_, _, _, _, _, rfl, .inl (sm _ _ hp), EA.c n (by simpa using hN) _ hn, EA.hn, EA.ht, fun u r => r, EA.i n (by simpa using hN) c (by simpa using hC) _ _ hn hc, k _ _ _ _ gp (Grow.refl sm) (.bl _)⟩
    | erf hn hp hd =>
      exact ⟨_, _, _, _, _, rfl, .inr ⟨_, _, sm _ _ hp, sm _ _ hd⟩, EA.c n (by simpa using hN) _ hn, EA.hn, EA.ht, fun u r => r, EA.i n (by simpa using hN) c (by simpa using hC) _ _ hn hc, k _ _ _ _ gp (Grow.refl sm) (.bl _)⟩
  · rename_i n f
    obtain ⟨hN, gp⟩ := gp
    obtain ⟨v, u, rfl, a, b⟩ := two_of h
    cases b
    cases a with
    | err hn hp =>
      exact ⟨_, _, _, _, _, rfl, .inl (sm _ _ hp), EA.c n (by simpa using hN) _ hn, EA.hn, EA.ht, fun u r => r, EA.v n (by simpa using hN) _ hn, k _ _ _ _ gp (Grow.refl sm) (.bl _)⟩
    | erf hn hp hd =>
      exact ⟨_, _, _, _, _, rfl, .inr ⟨_, _, sm _ _ hp, sm _ _ hd⟩, EA.c n (by simpa using hN) _ hn, EA.hn, EA.ht, fun u r => r, EA.v n (by simpa using hN) _ hn, k _ _ _ _ gp (Grow.refl sm) (.bl _)⟩
  · exact gp.elim

/-! ### e.f -/
def tFldX (K : PySem.W.Frag) (f : Str) (te : TE) : TE := fun σ H Q => te σ H fun x H1 => ∃ (p C dx : Addr) (fs : List (Str × V)) (v : V), x = .ref p ∧ H1 p = some (exo p C (some dx)) ∧ H1 dx = some (exd dx fs) ∧ XfC K C ∧ PySem.W.findIn K (.ref C) f = some none ∧ fs.lookup f = some v ∧ Q v H1
theorem pe_fldX {X : Cx} {e : Expr} {te : TE} {pos : Pos} {f : Str} (he : PE X e te) (hb : attributeBase e f X.env (eval e X.env) = eval e X.env := by rfl) : PE X (.Attribute e f pos) (tFldX X.K f te) := by
  refine ⟨fun pins s σ H Q I h => ?_⟩
  refine attr_of hb (thn (he.run pins s σ H _ I h) fun u s1 hh => ?_)
  obtain ⟨x, H1, I1, rx, p, C, dx, fs, v, ex, hp, hd, T, hno, l, q⟩ := hh
  subst ex
  obtain rfl : u = Value.ref p := rx
  obtain ⟨t1, ho⟩ := exo_at I1.hok hp
  obtain ⟨mA, hns, hr⟩ := exd_at I1.hok hd
  obtain ⟨od, hod, hl⟩ := lookIn_ns hns
  obtain ⟨u, hu, ru⟩ := RelO.some_of (v := v) (o := mA f) (by rw [← l]; exact hr f)
  have J : PySem.W.InstAt s1.heap p _ C (some od) := ⟨ho, rfl, rfl, hod⟩
  exact HandSPX.exc_get I1.kIn J T.ga T.gg T.exC (PySem.W.findObj_own T.hdC hno rfl (by rw [hl, hu])) (handed_of ru) ⟨v, H1, I1.tok _, ru, q⟩
/-- F: (class, field) pairs -/
def dFld (F : List (Str × Str)) (f : Str) (fe : DE) : DE := fun X ρ Q => fe X ρ fun d ρ' => match d with
  | .err n (some (g, i)) => g = f ∧ F.contains (n, f) = true ∧ Q (.int i) ρ'
  | _ => False
theorem de_fld {X : Cx} {W : WX} {e : Expr} {fe : DE} {pos : Pos} {f : Str} {F : List (Str × Str)} (hF : ∀ q ∈ F, ∀ C, PySem.W.nsIn X.K mainGlobals q.1 = some (some (.ref C)) → XfC X.K C ∧ PySem.W.findIn X.K (.ref C) q.2 = some none)
    (he : PE X e (lE X.K W fe)) (hb : attributeBase e f X.env (eval e X.env) = eval e X.env := by rfl) : PE X (.Attribute e f pos) (lE X.K W (dFld F f fe)) :=
  pe_imp (pe_fldX he hb) fun σ H Q ⟨ρ, G, la, P, XX, r, h, q, xo⟩ => ⟨ρ, G, la, _, XX, r, h, fun d ρ' v G' la' H' p a z => by
    split at p
    · rename_i n g i
      obtain ⟨rfl, hm, p⟩ := p
      cases z with
      | erf hn hp hd =>
        obtain ⟨t, no⟩ := hF (n, g) (by simpa using hm) _ hn
        exact ⟨_, _, _, _, _, rfl, a.r.tb.ext _ _ hp, a.r.tb.ext _ _ hd, t, no, by simp [List.lookup], q _ _ _ _ _ _ p a (.int i)⟩
    · exact p.elim, xo⟩
end DL
set_option Elab.async false
set_option linter.all false
set_option maxRecDepth 100000
set_option maxHeartbeats 4000000
set_option autoImplicit false
/-! The program's defs at data level: what a drill and a beginning are. -/
namespace DL
open PySem PySem.Spec PyProof.Rows L2
local macro_rules | `(tactic| walk_at "dl") => `(tactic| (try simp only [sSeq, sSet, sRet, sRetN, sIf, sNil, sDrop, sFor, sTo, sPar2, sPar3, sNever, sRaise, sSetIx, dVar, dC, dVarL, dDat, dVal, valK_dat, valK_ob, dBin, dUn, dNil, dCons, dats, dTup, dLst, dNew, dNewOf, dTest, dtAnd, dtOr, dtNot, dAnd, dOr, dNot, dIf, dChain, dCB, dSl, dNo, dSo, sApp, dIxO, dLenO, dMaxD, dGetP, dCall, dSeq, dRng1, dRng2, dZip, dEnum, gNm, gTp, gCs, gNl, dYes,
  startD, endsOf, retD, wipeS, gAdd, gSub, gMul, gMulA, gMulB, gDiv, gMod, gPow, gNeg, gLt, gLe, gGt, gGe, gEq, gNe, gIn, gIx, gSl, gIsi, tyD, isiD, gLen, gAbs, gInt, gMax2, gMin2, gTuple, gList, gIsN, isNon, gIsB, gNotB,
  List.getElem?_cons_zero, List.getElem?_cons_succ, List.getElem?_nil, List.set_cons_zero, List.set_cons_succ, List.map_cons, List.map_nil, List.cons_append, List.nil_append, List.length_cons, List.length_nil, List.replicate_succ, List.replicate_zero, Option.map_some, Nat.reduceSub, Nat.reduceAdd, Nat.reduceLeDiff,
  List.take_length, beq_self_eq_true, String.reduceBEq, Bool.or_true, Bool.true_or, Bool.or_false, Bool.false_or, Bool.and_true, Bool.and_false, Bool.true_and, Bool.false_and, Bool.or_self, Bool.and_self, decide_true, decide_false, dmem, List.any_cons, List.any_nil, okd_non, okd_bl, okd_int, okd_str, okds_nil, okds_cons, okd_60t, okd_59t, okd_58t, okd_60l, okd_59l, okd_58l, st_tk, st_tb, st_tf, st_kt, st_kb, st_kf, st_bt, st_bk, st_bf, st_ft, st_fk, st_fb, nat_num, Int.reduceBEq, Int.reduceBNe, Int.reduceEq, Int.reduceLT, Int.reduceLE, Int.reduceAdd, Int.reduceSub, Int.reduceMul, Int.reduceNeg, Int.reduceToNat, Int.reducePow, atI_0, atI_1, atI_2, set_last, get_last, take_last, deq_str, deq_int, deq_non, deq_bl, deq_tt, deq_ll, deqs_nn, deqs_cc, deqs_nc, deqs_cn, Nat.lt_irrefl, List.set_set, ixN_20, ixN_21, tupI, okds_ints, atI_map', List.length_map, cutL_map, eq_self, if_true, if_false, ite_true, ite_false, Bool.false_eq_true, decide_eq_true_eq, true_and, and_true, and_self, Bool.not_true, Bool.not_false, true_or, or_true, false_or, or_false, Option.some.injEq, reduceCtorEq]))
def isInt (d : D) (lo hi : Int) : Bool := match d with
  | .int i => decide (lo ≤ i) && decide (i ≤ hi)
  | _ => false
/-- slots: 0 value, 1 low, 2 high -/
def B_is_int : DS :=
  (sRet (dDat (dAnd (dCB gIsi (dCons (dDat (dVar 0)) (dCons (dDat (dC (.raw (.ty "int")))) dNil))) (dAnd (dNot (dCB gIsi (dCons (dDat (dVar 0)) (dCons (dDat (dC (.raw (.ty "bool")))) dNil)))) (dChain gLe gLe (dVar 1) (dVar 0) (dVar 2))))))
def S_is_int : DF := fun ss T Q _ => match ss with
  | [.dat d, .dat (.int lo), .dat (.int hi)] => okd 60 d = true ∧ Q (.dat (.bl (isInt d lo hi))) T
  | _ => False
theorem h_is_int : ∀ (ss : List Sl) (T : List Ob) (Q : Sl → List Ob → Prop) (QX : Xn → List Ob → Prop), ss.length = 3 → S_is_int ss T Q QX → B_is_int (endsOf T.length Q QX) (startD 3 3 ss T) := by
  intro ss T Q QX hl h
  unfold S_is_int at h
  split at h
  · rename_i d lo hi
    obtain ⟨ok, h⟩ := h
    unfold B_is_int
    cases d with
    | raw v => simp [okd] at ok
    | int i =>
      walk_at "dl"
      unfold isInt at h
      split
      · rename_i q
        simpa [q] using h
      · rename_i q
        simpa [q] using h
    | scr ns => simp [okd] at ok
    | fn _ => simp [okd] at ok
    | err _ _ => simp [okd] at ok
    | _ =>
      walk_at "dl"
      exact h
  · exact h.elim
/-- a run -/
def isRun (d : D) : Bool := match d with
  | .tup [.str w, a] => (w == "to" && isInt a 0 1000000000000) || (w == "bark" && isInt a 1 1000000000000)
  | .tup [.str w, a, b] => (w == "back" || w == "front") && isInt a 0 3 && isInt b 1 1000000000000
  | _ => false
/-- slots: 0 value -/
def B_is_a_run : DS :=
  (sSeq (sIf (dtOr (dtNot (dTest (dCB gIsi (dCons (dDat (dVar 0)) (dCons (dDat (dC (.raw (.ty "tuple")))) dNil))))) (dtOr (dTest (dBin gEq (dVar 0) (dTup dNil))) (dtNot (dTest (dCB gIsi (dCons (dDat (dBin gIx (dVar 0) (dC (.int 0)))) (dCons (dDat (dC (.raw (.ty "str")))) dNil))))))) (sRet (dDat (dC (.bl false)))) sNil)
  (sSeq (sIf (dTest (dBin gEq (dBin gIx (dVar 0) (dC (.int 0))) (dC (.str "to")))) (sRet (dDat (dAnd (dBin gEq (dCB gLen (dCons (dDat (dVar 0)) dNil)) (dC (.int 2))) (dVal (dCall 3 S_is_int (dCons (dDat (dBin gIx (dVar 0) (dC (.int 1)))) (dCons (dDat (dC (.int 0))) (dCons (dDat (dC (.int 1000000000000))) dNil)))))))) sNil)
  (sSeq (sIf (dTest (dBin gEq (dBin gIx (dVar 0) (dC (.int 0))) (dC (.str "bark")))) (sRet (dDat (dAnd (dBin gEq (dCB gLen (dCons (dDat (dVar 0)) dNil)) (dC (.int 2))) (dVal (dCall 3 S_is_int (dCons (dDat (dBin gIx (dVar 0) (dC (.int 1)))) (dCons (dDat (dC (.int 1))) (dCons (dDat (dC (.int 1000000000000))) dNil)))))))) sNil)
  (sSeq (sIf (dtOr (dTest (dBin (gIn true) (dBin gIx (dVar 0) (dC (.int 0))) (dTup (dCons (dDat (dC (.str "back"))) (dCons (dDat (dC (.str "front"))) dNil))))) (dTest (dBin gNe (dCB gLen (dCons (dDat (dVar 0)) dNil)) (dC (.int 3))))) (sRet (dDat (dC (.bl false)))) sNil)
  (sRet (dDat (dAnd (dVal (dCall 3 S_is_int (dCons (dDat (dBin gIx (dVar 0) (dC (.int 1)))) (dCons (dDat (dC (.int 0))) (dCons (dDat (dC (.int 3))) dNil))))) (dVal (dCall 3 S_is_int (dCons (dDat (dBin gIx (dVar 0) (dC (.int 2)))) (dCons (dDat (dC (.int 1))) (dCons (dDat (dC (.int 1000000000000))) dNil))))))))))))
def S_is_a_run : DF := fun ss T Q _ => match ss with
  | [.dat d] => okd 60 d = true ∧ Q (.dat (.bl (isRun d))) T
  | _ => False
theorem h_is_a_run : ∀ (ss : List Sl) (T : List Ob) (Q : Sl → List Ob → Prop) (QX : Xn → List Ob → Prop), ss.length = 1 → S_is_a_run ss T Q QX → B_is_a_run (endsOf T.length Q QX) (startD 1 1 ss T) := by
  intro ss T Q QX hl h
  unfold S_is_a_run at h
  split at h
  · rename_i d
    obtain ⟨ok, h⟩ := h
    unfold B_is_a_run
    cases d with
    | raw v => simp [okd] at ok
    | tup xs =>
      cases xs with
      | nil =>
        walk_at "dl"
        exact h
      | cons x r =>
        have okx := okd_item ok (d := x) (by simp)
        cases x with
        | raw v => simp [okd] at okx
        | str w =>
          have ok' := ok
          simp only [okd_60t, okds_cons, okd_str, Bool.true_and] at ok'
          by_cases w1 : w = "to"
          · subst w1
            cases r with
            | nil =>
              walk_at "dl"
              exact h
            | cons a r =>
              have oka := okd_item ok (d := a) (by simp)
              cases r with
              | nil =>
                simp only [okds_cons, okds_nil, Bool.and_true] at ok'
                walk_at "dl"
                simp only [S_is_int]
                walk_at "dl"
                simpa [isRun, oka, ok', st_tk] using h
              | cons b r =>
                simp only [okds_cons] at ok'
                walk_at "dl"
                have e : (((r.length + 1 + 1 + 1 : Nat) : Int) == 2) = false := by simp; omega
                simp only [ok', e]
                walk_at "dl"
                cases r <;> simpa [isRun, st_tb, st_tf] using h
          by_cases w2 : w = "bark"
          · subst w2
            cases r with
            | nil =>
              walk_at "dl"
              exact h
            | cons a r =>
              have oka := okd_item ok (d := a) (by simp)
              cases r with
              | nil =>
                simp only [okds_cons, okds_nil, Bool.and_true] at ok'
                walk_at "dl"
                simp only [S_is_int]
                walk_at "dl"
                simpa [isRun, oka, ok', st_kt] using h
              | cons b r =>
                simp only [okds_cons] at ok'
                walk_at "dl"
                have e : (((r.length + 1 + 1 + 1 : Nat) : Int) == 2) = false := by simp; omega
                simp only [ok', e]
                walk_at "dl"
                cases r <;> simpa [isRun, st_kb, st_kf] using h
          have v1 : (w == ("to" : Str)) = false := by simpa using w1
          have v2 : (w == ("bark" : Str)) = false := by simpa using w2
          by_cases w3 : w = "back" ∨ w = "front"
          · have v3 : ((("back" : Str) == w) || (("front" : Str) == w)) = true := by
              rcases w3 with rfl | rfl <;> simp
            have v3' : ((w == ("back" : Str)) || (w == ("front" : Str))) = true := by
              rcases w3 with rfl | rfl <;> simp
            cases r with
            | nil =>
              walk_at "dl"
              simp only [v1, v2, v3]
              walk_at "dl"
              exact h
            | cons a r =>
              have oka := okd_item ok (d := a) (by simp)
              cases r with
              | nil =>
                simp only [okds_cons, okds_nil, Bool.and_true] at ok'
                walk_at "dl"
                simp only [v1, v2, v3, ok']
                walk_at "dl"
                simpa [isRun, v1, v2] using h
              | cons b r =>
                have okb := okd_item ok (d := b) (by simp)
                cases r with
                | nil =>
                  simp only [okds_cons, okds_nil, Bool.and_true] at ok'
                  walk_at "dl"
                  simp only [v1, v2, v3, ok', S_is_int]
                  walk_at "dl"
                  refine ⟨oka, ?_⟩
                  simp only [isRun, v3', Bool.true_and] at h
                  cases q : isInt a 0 3 with
                  | true =>
                    rw [q] at h
                    simp only [Bool.true_and] at h
                    walk_at "dl"
                    refine ⟨okb, ?_⟩
                    walk_at "dl"
                    exact h
                  | false =>
                    rw [q] at h
                    walk_at "dl"
                    exact h
                | cons c r =>
                  simp only [okds_cons] at ok'
                  walk_at "dl"
                  have e : (((r.length + 1 + 1 + 1 + 1 : Nat) : Int) == 3) = false := by simp; omega
                  simp only [v1, v2, v3, ok', e]
                  walk_at "dl"
                  simpa [isRun] using h
          · have v3 : ((("back" : Str) == w) || (("front" : Str) == w)) = false := by
              simp only [not_or] at w3
              simp [Ne.symm w3.1, Ne.symm w3.2]
            have v4 : (w == ("back" : Str)) = false := by simp only [not_or] at w3; simpa using w3.1
            have v5 : (w == ("front" : Str)) = false := by simp only [not_or] at w3; simpa using w3.2
            cases r with
            | nil =>
              walk_at "dl"
              simp only [v1, v2, v3]
              walk_at "dl"
              exact h
            | cons a r =>
              simp only [okds_cons] at ok'
              walk_at "dl"
              simp only [v1, v2, v3, ok']
              walk_at "dl"
              rcases r with _ | ⟨b, _ | ⟨c, r⟩⟩ <;> simpa [isRun, v1, v2, v4, v5] using h
        | scr ns => simp [okd] at okx
        | fn _ => simp [okd] at okx
        | err _ _ => simp [okd] at okx
        | _ =>
          have ok' := ok
          simp only [okd_60t, okds_cons] at ok'
          try simp only [okd_non, okd_bl, okd_int, Bool.true_and] at ok'
          try simp only [okd_59t, okd_59l] at ok'
          walk_at "dl"
          exact ⟨ok', h⟩
    | scr ns => simp [okd] at ok
    | fn _ => simp [okd] at ok
    | err _ _ => simp [okd] at ok
    | _ =>
      walk_at "dl"
      exact h
  · exact h.elim
end DL
set_option Elab.async false
set_option linter.all false
set_option maxRecDepth 100000
set_option maxHeartbeats 4000000
set_option autoImplicit false
/-! The program's defs at data level: drills, beginnings. -/
namespace DL
open PySem PySem.Spec PyProof.Rows L2
local macro_rules | `(tactic| walk_at "dl") => `(tactic| (try simp only [sSeq, sSet, sRet, sRetN, sIf, sNil, sDrop, sFor, sTo, sPar2, sPar3, sNever, sRaise, sSetIx, dVar, dC, dVarL, dDat, dVal, valK_dat, valK_ob, dBin, dUn, dNil, dCons, dats, dTup, dLst, dNew, dNewOf, dTest, dtAnd, dtOr, dtNot, dAnd, dOr, dNot, dIf, dChain, dCB, dSl, dNo, dSo, sApp, dIxO, dLenO, dMaxD, dGetP, dCall, dSeq, dRng1, dRng2, dZip, dEnum, gNm, gTp, gCs, gNl, dYes,
  startD, endsOf, retD, wipeS, gAdd, gSub, gMul, gMulA, gMulB, gDiv, gMod, gPow, gNeg, gLt, gLe, gGt, gGe, gEq, gNe, gIn, gIx, gSl, gIsi, tyD, isiD, gLen, gAbs, gInt, gMax2, gMin2, gTuple, gList, gIsN, isNon, gIsB, gNotB,
  List.getElem?_cons_zero, List.getElem?_cons_succ, List.getElem?_nil, List.set_cons_zero, List.set_cons_succ, List.map_cons, List.map_nil, List.cons_append, List.nil_append, List.length_cons, List.length_nil, List.replicate_succ, List.replicate_zero, Option.map_some, Nat.reduceSub, Nat.reduceAdd, Nat.reduceLeDiff,
  List.take_length, beq_self_eq_true, String.reduceBEq, Bool.or_true, Bool.true_or, Bool.or_false, Bool.false_or, Bool.and_true, Bool.and_false, Bool.true_and, Bool.false_and, Bool.or_self, Bool.and_self, decide_true, decide_false, dmem, List.any_cons, List.any_nil, okd_non, okd_bl, okd_int, okd_str, okds_nil, okds_cons, okd_60t, okd_59t, okd_58t, okd_60l, okd_59l, okd_58l, st_tk, st_tb, st_tf, st_kt, st_kb, st_kf, st_bt, st_bk, st_bf, st_ft, st_fk, st_fb, nat_num, Int.reduceBEq, Int.reduceBNe, Int.reduceEq, Int.reduceLT, Int.reduceLE, Int.reduceAdd, Int.reduceSub, Int.reduceMul, Int.reduceNeg, Int.reduceToNat, Int.reducePow, atI_0, atI_1, atI_2, set_last, get_last, take_last, deq_str, deq_int, deq_non, deq_bl, deq_tt, deq_ll, deqs_nn, deqs_cc, deqs_nc, deqs_cn, Nat.lt_irrefl, List.set_set, ixN_20, ixN_21, tupI, okds_ints, atI_map', List.length_map, cutL_map, eq_self, if_true, if_false, ite_true, ite_false, Bool.false_eq_true, decide_eq_true_eq, true_and, and_true, and_self, Bool.not_true, Bool.not_false, true_or, or_true, false_or, or_false, Option.some.injEq, reduceCtorEq]))
/-- a drill -/
def fitsB (d : D) : Bool := match d with
  | .tup [g, .tup rs] => isInt g 1 9 && (decide (rs.length ≤ 8) && rs.all isRun)
  | _ => false
/-- slots: 0 value, 1 run -/
def B_fits : DS :=
  (sSeq (sIf (dtOr (dtNot (dTest (dCB gIsi (dCons (dDat (dVar 0)) (dCons (dDat (dC (.raw (.ty "tuple")))) dNil))))) (dtOr (dTest (dBin gNe (dCB gLen (dCons (dDat (dVar 0)) dNil)) (dC (.int 2)))) (dtNot (dTest (dVal (dCall 3 S_is_int (dCons (dDat (dBin gIx (dVar 0) (dC (.int 0)))) (dCons (dDat (dC (.int 1))) (dCons (dDat (dC (.int 9))) dNil))))))))) (sRet (dDat (dC (.bl false)))) sNil)
  (sSeq (sIf (dtOr (dtNot (dTest (dCB gIsi (dCons (dDat (dBin gIx (dVar 0) (dC (.int 1)))) (dCons (dDat (dC (.raw (.ty "tuple")))) dNil))))) (dTest (dBin gGt (dCB gLen (dCons (dDat (dBin gIx (dVar 0) (dC (.int 1)))) dNil)) (dC (.int 8))))) (sRet (dDat (dC (.bl false)))) sNil)
  (sRet (dDat (dBin gEq (dComp (dSeq (dBin gIx (dVar 0) (dC (.int 1)))) (gNm 1) (dtNot (dTest (dVal (dCall 1 S_is_a_run (dCons (dDat (dVar 1)) dNil))))) (dVar 1) [1]) (dLst dNil))))))
def S_fits : DF := fun ss T Q _ => match ss with
  | [.dat d] => okd 60 d = true ∧ Q (.dat (.bl (fitsB d))) T
  | _ => False
theorem filt_none {α : Type} (p : α → Bool) (l : List α) : l.filterMap (fun d => if !p d then some d else none) = [] ↔ l.all p = true := by
  induction l with
  | nil => simp
  | cons x r ih =>
    rw [List.filterMap_cons]
    cases q : p x <;> simp [q, ih]
theorem deqs_nil_iff (l : List D) : deqs l [] = l.isEmpty := by
  cases l with
  | nil => simp [deqs_nn]
  | cons x r => simp [deqs_cn]
theorem h_fits : ∀ (ss : List Sl) (T : List Ob) (Q : Sl → List Ob → Prop) (QX : Xn → List Ob → Prop), ss.length = 1 → S_fits ss T Q QX → B_fits (endsOf T.length Q QX) (startD 2 1 ss T) := by
  intro ss T Q QX hl h
  unfold S_fits at h
  split at h
  · rename_i d
    obtain ⟨ok, h⟩ := h
    unfold B_fits
    cases d with
    | raw v => simp [okd] at ok
    | fn _ => simp [okd] at ok
    | err _ _ => simp [okd] at ok
    | scr ns => simp [okd] at ok
    | tup xs =>
      rcases xs with _ | ⟨g, _ | ⟨x, _ | ⟨y, r⟩⟩⟩
      · walk_at "dl"
        exact h
      · walk_at "dl"
        exact h
      · have okg := okd_item ok (d := g) (by simp)
        have okx := okd_item ok (d := x) (by simp)
        walk_at "dl"
        simp only [S_is_int]
        walk_at "dl"
        refine ⟨okg, ?_⟩
        cases qg : isInt g 1 9 with
        | false =>
          walk_at "dl"
          cases x <;> simpa [fitsB, qg] using h
        | true =>
          walk_at "dl"
          cases x with
          | raw v => simp [okd] at okx
          | fn _ => simp [okd] at okx
          | err _ _ => simp [okd] at okx
          | scr ns => simp [okd] at okx
          | tup rs =>
            walk_at "dl"
            by_cases q8 : (8 : Int) < rs.length
            · rw [if_pos q8]
              have e : ¬ (rs.length ≤ 8) := by omega
              simpa [fitsB, e] using h
            · rw [if_neg q8]
              have e : rs.length ≤ 8 := by omega
              refine dComp_pure (fun d => if !isRun d then some d else none) rs T [some (.dat (.tup [g, .tup rs])), none] [some (.dat (.tup [g, .tup rs])), none] ?_ rfl rfl rfl (by rw [sizeLine_eq]; omega) ?_ ?_
              · intro P hP
                walk_at "dl"
                exact hP
              · intro d hd acc R hR
                have okd' := okd_item (n := 59) (ds := rs) okx hd
                walk_at "dl"
                simp only [S_is_a_run]
                walk_at "dl"
                refine ⟨okd', ?_⟩
                cases q : isRun d with
                | true =>
                  walk_at "dl"
                  have := hR [some (.dat (.tup [g, .tup rs])), some (.dat d)] rfl
                  simpa [q] using this
                | false =>
                  walk_at "dl"
                  have := hR [some (.dat (.tup [g, .tup rs])), some (.dat d)] rfl
                  simpa [q] using this
              · walk_at "dl"
                rw [deqs_nil_iff]
                have e2 : (List.filterMap (fun d => if !isRun d then some d else none) rs).isEmpty = rs.all isRun := by
                  rw [Bool.eq_iff_iff, List.isEmpty_iff]
                  exact filt_none isRun rs
                rw [e2]
                refine ⟨?_, ?_⟩
                · rw [okds_iff]
                  intro d hd
                  obtain ⟨x, hx, ex⟩ := List.mem_filterMap.mp hd
                  have okx' : okds 59 rs = true := okx
                  have := (okds_iff 59 rs).mp okx' x hx
                  split at ex
                  · cases ex
                    exact this
                  · cases ex
                · simpa [fitsB, qg, e] using h
          | _ =>
            walk_at "dl"
            exact h
      · walk_at "dl"
        have e : (((r.length + 1 + 1 + 1 : Nat) : Int) == 2) = false := by simp; omega
        simp only [e]
        walk_at "dl"
        cases x <;> exact h
    | _ =>
      walk_at "dl"
      exact h
  · exact h.elim
end DL
set_option Elab.async false
set_option linter.all false
set_option maxRecDepth 100000
set_option maxHeartbeats 4000000
set_option autoImplicit false
/-! The program's defs at data level: beginnings. -/
namespace DL
open PySem PySem.Spec PyProof.Rows L2
local macro_rules | `(tactic| walk_at "dl") => `(tactic| (try simp only [sSeq, sSet, sRet, sRetN, sIf, sNil, sDrop, sFor, sTo, sPar2, sPar3, sNever, sRaise, sSetIx, dVar, dC, dVarL, dDat, dVal, valK_dat, valK_ob, dBin, dUn, dNil, dCons, dats, dTup, dLst, dNew, dNewOf, dTest, dtAnd, dtOr, dtNot, dAnd, dOr, dNot, dIf, dChain, dCB, dSl, dNo, dSo, sApp, dIxO, dLenO, dMaxD, dGetP, dCall, dSeq, dRng1, dRng2, dZip, dEnum, gNm, gTp, gCs, gNl, dYes,
  startD, endsOf, retD, wipeS, gAdd, gSub, gMul, gMulA, gMulB, gDiv, gMod, gPow, gNeg, gLt, gLe, gGt, gGe, gEq, gNe, gIn, gIx, gSl, gIsi, tyD, isiD, gLen, gAbs, gInt, gMax2, gMin2, gTuple, gList, gIsN, isNon, gIsB, gNotB,
  List.getElem?_cons_zero, List.getElem?_cons_succ, List.getElem?_nil, List.set_cons_zero, List.set_cons_succ, List.map_cons, List.map_nil, List.cons_append, List.nil_append, List.length_cons, List.length_nil, List.replicate_succ, List.replicate_zero, Option.map_some, Nat.reduceSub, Nat.reduceAdd, Nat.reduceLeDiff,
  List.take_length, beq_self_eq_true, String.reduceBEq, Bool.or_true, Bool.true_or, Bool.or_false, Bool.false_or, Bool.and_true, Bool.and_false, Bool.true_and, Bool.false_and, Bool.or_self, Bool.and_self, decide_true, decide_false, dmem, List.any_cons, List.any_nil, okd_non, okd_bl, okd_int, okd_str, okds_nil, okds_cons, okd_60t, okd_59t, okd_58t, okd_60l, okd_59l, okd_58l, st_tk, st_tb, st_tf, st_kt, st_kb, st_kf, st_bt, st_bk, st_bf, st_ft, st_fk, st_fb, nat_num, Int.reduceBEq, Int.reduceBNe, Int.reduceEq, Int.reduceLT, Int.reduceLE, Int.reduceAdd, Int.reduceSub, Int.reduceMul, Int.reduceNeg, Int.reduceToNat, Int.reducePow, atI_0, atI_1, atI_2, set_last, get_last, take_last, deq_str, deq_int, deq_non, deq_bl, deq_tt, deq_ll, deqs_nn, deqs_cc, deqs_nc, deqs_cn, Nat.lt_irrefl, List.set_set, ixN_20, ixN_21, tupI, okds_ints, atI_map', List.length_map, cutL_map, eq_self, if_true, if_false, ite_true, ite_false, Bool.false_eq_true, decide_eq_true_eq, true_and, and_true, and_self, Bool.not_true, Bool.not_false, true_or, or_true, false_or, or_false, Option.some.injEq, reduceCtorEq]))
def spaced (g : Int) : List Int → Bool
  | x :: y :: r => decide (x + g ≤ y) && spaced g (y :: r)
  | _ => true
def inGreat (x : Int) : Bool := decide (0 ≤ x) && decide (x ≤ 1000000000000000000000000000000)
/-- a beginning -/
def beginsB (g : Int) (d : D) : Bool := match d with
  | .tup ds => (decide (1 ≤ ds.length) && decide (ds.length ≤ 40)) && match intsOf ds with
    | some xs => xs.all inGreat && spaced g xs
    | none => false
  | _ => false
theorem great_ints : ∀ ds : List D, ds.all (fun d => isInt d 0 1000000000000000000000000000000) = true → ∃ xs : List Int, ds = xs.map .int ∧ xs.all inGreat = true
  | [], _ => ⟨[], rfl, rfl⟩
  | d :: ds, h => by
    simp only [List.all_cons, Bool.and_eq_true] at h
    obtain ⟨xs, e, a⟩ := great_ints ds h.2
    cases d with
    | int i => exact ⟨i :: xs, by rw [e]; rfl, by rw [List.all_cons, a]; have h1 := h.1; unfold isInt at h1; simpa [inGreat] using h1⟩
    | _ => simp [isInt] at h
theorem great_not : ∀ {ds : List D} {xs : List Int}, ds.all (fun d => isInt d 0 1000000000000000000000000000000) = false → intsOf ds = some xs → xs.all inGreat = false
  | [], _, h, _ => by simp at h
  | d :: ds, xs, h, e => by
    cases d with
    | int i =>
      have e' : (intsOf ds).map (i :: ·) = some xs := e
      obtain ⟨ys, e1, rfl⟩ := Option.map_eq_some_iff.mp e'
      simp only [List.all_cons, Bool.and_eq_false_iff] at h ⊢
      rcases h with h | h
      · left
        simpa [isInt, inGreat] using h
      · exact .inr (great_not h e1)
    | _ => cases e
def pairLt (g : Int) (d : D) : Option D := match d with
  | .tup [.int a, .int b] => if b - a < g then some (.int 1) else none
  | _ => none
theorem spaced_zip (g : Int) : ∀ xs : List Int, ((zipD (xs.map .int) ((xs.drop 1).map .int)).filterMap (pairLt g)).isEmpty = spaced g xs
  | [] => rfl
  | [x] => rfl
  | x :: y :: r => by
    have ih := spaced_zip g (y :: r)
    show ((.tup [.int x, .int y] :: zipD ((y :: r).map .int) (((y :: r).drop 1).map .int)).filterMap (pairLt g)).isEmpty = (decide (x + g ≤ y) && spaced g (y :: r))
    rw [List.filterMap_cons, ← ih]
    simp only [pairLt]
    by_cases q : y - x < g
    · rw [if_pos q, show decide (x + g ≤ y) = false by simp; omega]
      rfl
    · rw [if_neg q, show decide (x + g ≤ y) = true by simp; omega]
      rfl
theorem zip_mem : ∀ (xs ys : List Int) (d : D), d ∈ zipD (xs.map .int) (ys.map .int) → ∃ a b, d = .tup [.int a, .int b]
  | [], _, d, h => by simp [zipD] at h
  | _ :: _, [], d, h => by simp [zipD] at h
  | x :: xs, y :: ys, d, h => by
    rcases List.mem_cons.mp h with rfl | h
    · exact ⟨x, y, rfl⟩
    · exact zip_mem xs ys d h
/-- slots: 0 gap, 1 value, 2 place, 3 one, 4 other -/
def B_begins : DS :=
  (sSeq (sIf (dtOr (dtNot (dTest (dCB gIsi (dCons (dDat (dVar 1)) (dCons (dDat (dC (.raw (.ty "tuple")))) dNil))))) (dtNot (dTest (dChain gLe gLe (dC (.int 1)) (dCB gLen (dCons (dDat (dVar 1)) dNil)) (dC (.int 40)))))) (sRet (dDat (dC (.bl false)))) sNil)
  (sSeq (sIf (dTest (dBin gNe (dComp (dSeq (dVar 1)) (gNm 2) (dtNot (dTest (dVal (dCall 3 S_is_int (dCons (dDat (dVar 2)) (dCons (dDat (dC (.int 0))) (dCons (dDat (dC (.int 1000000000000000000000000000000))) dNil))))))) (dVar 2) [2]) (dLst dNil))) (sRet (dDat (dC (.bl false)))) sNil)
  (sRet (dDat (dBin gEq (dComp (dZip (dCons (dDat (dVar 1)) (dCons (dDat (dSl (dVar 1) (dSo (dC (.int 1))) dNo)) dNil))) (gTp 2 (gCs (gNm 3) (gCs (gNm 4) gNl))) (dTest (dBin gLt (dBin gSub (dVar 4) (dVar 3)) (dVar 0))) (dC (.int 1)) [3, 4]) (dLst dNil))))))
def S_begins : DF := fun ss T Q _ => match ss with
  | [.dat (.int g), .dat d] => okd 60 d = true ∧ Q (.dat (.bl (beginsB g d))) T
  | _ => False
theorem h_begins : ∀ (ss : List Sl) (T : List Ob) (Q : Sl → List Ob → Prop) (QX : Xn → List Ob → Prop), ss.length = 2 → S_begins ss T Q QX → B_begins (endsOf T.length Q QX) (startD 5 2 ss T) := by
  intro ss T Q QX hl h
  unfold S_begins at h
  split at h
  · rename_i g d
    obtain ⟨ok, h⟩ := h
    unfold B_begins
    cases d with
    | raw v => simp [okd] at ok
    | fn _ => simp [okd] at ok
    | err _ _ => simp [okd] at ok
    | scr ns => simp [okd] at ok
    | tup ds =>
      walk_at "dl"
      by_cases q1 : (1 : Int) ≤ ds.length
      rotate_left
      · rw [if_neg q1]
        have e : ds.length = 0 := by omega
        simpa [beginsB, e] using h
      rw [if_pos q1]
      by_cases q2 : (ds.length : Int) ≤ 40
      rotate_left
      · rw [if_pos (by simpa using q2)]
        have e : ¬ (ds.length ≤ 40) := by omega
        simpa [beginsB, e] using h
      rw [if_neg (by simpa using q2)]
      have e1 : decide (1 ≤ ds.length) = true := by simp; omega
      have e2 : decide (ds.length ≤ 40) = true := by simp; omega
      refine dComp_pure (fun d => if !isInt d 0 1000000000000000000000000000000 then some d else none) ds T [some (.dat (.int g)), some (.dat (.tup ds)), none, none, none] [some (.dat (.int g)), some (.dat (.tup ds)), none, none, none] ?_ rfl rfl rfl (by rw [sizeLine_eq]; omega) ?_ ?_
      · intro P hP
        walk_at "dl"
        exact hP
      · intro d hd acc R hR
        have okd' := okd_item (n := 59) (ds := ds) ok hd
        walk_at "dl"
        simp only [S_is_int]
        walk_at "dl"
        refine ⟨okd', ?_⟩
        have := hR [some (.dat (.int g)), some (.dat (.tup ds)), some (.dat d), none, none] rfl
        cases q : isInt d 0 1000000000000000000000000000000 with
        | true =>
          walk_at "dl"
          simpa [q] using this
        | false =>
          walk_at "dl"
          simpa [q] using this
      · walk_at "dl"
        rw [deqs_nil_iff]
        have e3 : (List.filterMap (fun d => if !isInt d 0 1000000000000000000000000000000 then some d else none) ds).isEmpty = ds.all (fun d => isInt d 0 1000000000000000000000000000000) := by
          rw [Bool.eq_iff_iff, List.isEmpty_iff]
          exact filt_none (fun d => isInt d 0 1000000000000000000000000000000) ds
        rw [e3]
        refine ⟨?_, ?_⟩
        · rw [okds_iff]
          intro d hd
          obtain ⟨x, hx, ex⟩ := List.mem_filterMap.mp hd
          have okx' : okds 59 ds = true := ok
          have := (okds_iff 59 ds).mp okx' x hx
          split at ex
          · cases ex
            exact this
          · cases ex
        · cases q : ds.all (fun d => isInt d 0 1000000000000000000000000000000) with
          | false =>
            walk_at "dl"
            cases qi : intsOf ds with
            | none => simpa [beginsB, qi] using h
            | some xs => simpa [beginsB, qi, great_not q qi] using h
          | true =>
            walk_at "dl"
            obtain ⟨xs, rfl, ha⟩ := great_ints ds q
            have hlen : xs.length ≤ 40 := by simpa using e2
            refine dComp_pure (pairLt g) (zipD (xs.map .int) ((xs.drop 1).map .int)) T [some (.dat (.int g)), some (.dat (.tup (xs.map .int))), none, none, none] [some (.dat (.int g)), some (.dat (.tup (xs.map .int))), none, none, none] ?_ rfl rfl rfl ?_ ?_ ?_
            · intro P hP
              walk_at "dl"
              rw [cut_from _ (by omega)]
              exact hP
            · rw [zipD_len, List.length_map, sizeLine_eq]
              omega
            · intro d hd acc R hR
              obtain ⟨a, b, rfl⟩ := zip_mem _ _ _ hd
              walk_at "dl"
              have := hR [some (.dat (.int g)), some (.dat (.tup (xs.map .int))), none, some (.dat (.int a)), some (.dat (.int b))] rfl
              by_cases q : b - a < g
              · rw [if_pos q]
                simpa [pairLt, q] using this
              · rw [if_neg q]
                simpa [pairLt, q] using this
            · walk_at "dl"
              rw [deqs_nil_iff, spaced_zip]
              refine ⟨?_, ?_⟩
              · rw [okds_iff]
                intro d hd
                obtain ⟨x, hx, ex⟩ := List.mem_filterMap.mp hd
                obtain ⟨a, b, rfl⟩ := zip_mem _ _ _ hx
                unfold pairLt at ex
                simp only at ex
                split at ex
                · cases ex
                  rfl
                · cases ex
              · have e1' : decide (1 ≤ xs.length) = true := by simpa using e1
                have e2' : decide (xs.length ≤ 40) = true := by simpa using e2
                simpa only [beginsB, e1', e2', intsOf_map, ha, List.length_map, Bool.true_and] using h
    | _ =>
      walk_at "dl"
      exact h
  · exact h.elim
/-- slots: 0 value -/
def B_need_drill : DS :=
  (sIf (dtNot (dTest (dVal (dCall 1 S_fits (dCons (dDat (dVar 0)) dNil))))) (sRaise "InvalidDrill") sNil)
def S_need_drill : DF := fun ss T Q QX => match ss with
  | [.dat d] => okd 60 d = true ∧ ((fitsB d = true ∧ Q (.dat .non) T) ∨ (fitsB d = false ∧ QX ⟨"InvalidDrill", none⟩ T))
  | _ => False
theorem h_need_drill : ∀ (ss : List Sl) (T : List Ob) (Q : Sl → List Ob → Prop) (QX : Xn → List Ob → Prop), ss.length = 1 → S_need_drill ss T Q QX → B_need_drill (endsOf T.length Q QX) (startD 1 1 ss T) := by
  intro ss T Q QX hl h
  unfold S_need_drill at h
  split at h
  · rename_i d
    obtain ⟨ok, h⟩ := h
    unfold B_need_drill
    walk_at "dl"
    simp only [S_fits]
    refine ⟨ok, ?_⟩
    rcases h with ⟨f, h⟩ | ⟨f, h⟩
    all_goals
      rw [f]
      walk_at "dl"
    · exact h
    · exact h
  · exact h.elim
/-- slots: 0 gap, 1 value -/
def B_need_beginning : DS :=
  (sIf (dtNot (dTest (dVal (dCall 2 S_begins (dCons (dDat (dVar 0)) (dCons (dDat (dVar 1)) dNil)))))) (sRaise "InvalidBeginning") sNil)
def S_need_beginning : DF := fun ss T Q QX => match ss with
  | [.dat (.int g), .dat d] => okd 60 d = true ∧ ((beginsB g d = true ∧ Q (.dat .non) T) ∨ (beginsB g d = false ∧ QX ⟨"InvalidBeginning", none⟩ T))
  | _ => False
theorem h_need_beginning : ∀ (ss : List Sl) (T : List Ob) (Q : Sl → List Ob → Prop) (QX : Xn → List Ob → Prop), ss.length = 2 → S_need_beginning ss T Q QX → B_need_beginning (endsOf T.length Q QX) (startD 2 2 ss T) := by
  intro ss T Q QX hl h
  unfold S_need_beginning at h
  split at h
  · rename_i g d
    obtain ⟨ok, h⟩ := h
    unfold B_need_beginning
    walk_at "dl"
    simp only [S_begins]
    refine ⟨ok, ?_⟩
    rcases h with ⟨f, h⟩ | ⟨f, h⟩
    all_goals
      rw [f]
      walk_at "dl"
    · exact h
    · exact h
  · exact h.elim
end DL
set_option Elab.async false
set_option linter.all false
set_option maxRecDepth 100000
set_option maxHeartbeats 4000000
set_option autoImplicit false
/-! The program's defs at data level: running. -/
namespace DL
open PySem PySem.Spec PyProof.Rows L2
local macro_rules | `(tactic| walk_at "dl") => `(tactic| (try simp only [sSeq, sSet, sRet, sRetN, sIf, sNil, sDrop, sFor, sTo, sPar2, sPar3, sNever, sRaise, sSetIx, dVar, dC, dVarL, dDat, dVal, valK_dat, valK_ob, dBin, dUn, dNil, dCons, dats, dTup, dLst, dNew, dNewOf, dTest, dtAnd, dtOr, dtNot, dAnd, dOr, dNot, dIf, dChain, dCB, dSl, dNo, dSo, sApp, dIxO, dLenO, dMaxD, dGetP, dCall, dSeq, dRng1, dRng2, dZip, dEnum, gNm, gTp, gCs, gNl, dYes,
  startD, endsOf, retD, wipeS, gAdd, gSub, gMul, gMulA, gMulB, gDiv, gMod, gPow, gNeg, gLt, gLe, gGt, gGe, gEq, gNe, gIn, gIx, gSl, gIsi, tyD, isiD, gLen, gAbs, gInt, gMax2, gMin2, gTuple, gList, gIsN, isNon, gIsB, gNotB,
  List.getElem?_cons_zero, List.getElem?_cons_succ, List.getElem?_nil, List.set_cons_zero, List.set_cons_succ, List.map_cons, List.map_nil, List.cons_append, List.nil_append, List.length_cons, List.length_nil, List.replicate_succ, List.replicate_zero, Option.map_some, Nat.reduceSub, Nat.reduceAdd, Nat.reduceLeDiff,
  List.take_length, beq_self_eq_true, String.reduceBEq, Bool.or_true, Bool.true_or, Bool.or_false, Bool.false_or, Bool.and_true, Bool.and_false, Bool.true_and, Bool.false_and, Bool.or_self, Bool.and_self, decide_true, decide_false, dmem, List.any_cons, List.any_nil, okd_non, okd_bl, okd_int, okd_str, okds_nil, okds_cons, okd_60t, okd_59t, okd_58t, okd_60l, okd_59l, okd_58l, st_tk, st_tb, st_tf, st_kt, st_kb, st_kf, st_bt, st_bk, st_bf, st_ft, st_fk, st_fb, nat_num, Int.reduceBEq, Int.reduceBNe, Int.reduceEq, Int.reduceLT, Int.reduceLE, Int.reduceAdd, Int.reduceSub, Int.reduceMul, Int.reduceNeg, Int.reduceToNat, Int.reducePow, atI_0, atI_1, atI_2, set_last, get_last, take_last, deq_str, deq_int, deq_non, deq_bl, deq_tt, deq_ll, deqs_nn, deqs_cc, deqs_nc, deqs_cn, Nat.lt_irrefl, List.set_set, ixN_20, ixN_21, tupI, okds_ints, atI_map', List.length_map, cutL_map, eq_self, if_true, if_false, ite_true, ite_false, Bool.false_eq_true, decide_eq_true_eq, true_and, and_true, and_self, Bool.not_true, Bool.not_false, true_or, or_true, false_or, or_false, Option.some.injEq, reduceCtorEq]))
theorem rangeD_cons {lo hi : Int} (h : lo < hi) : rangeD lo hi = .int lo :: rangeD (lo + 1) hi := by
  unfold rangeD
  rw [show (hi - lo).toNat = (hi - (lo + 1)).toNat + 1 by omega, List.range_succ_eq_map, List.map_cons, List.map_map]
  congr 1
  · simp
  · apply List.map_congr_left
    intro k _
    simp only [Function.comp]
    congr 1
    push_cast
    omega
theorem rangeD_nil {lo hi : Int} (h : hi ≤ lo) : rangeD lo hi = [] := by
  unfold rangeD
  rw [show (hi - lo).toNat = 0 by omega]
  rfl
theorem ints_at (A B : List Int) (x : Int) : ((A ++ x :: B).map D.int)[A.length]? = some (.int x) := by simp
theorem ints_set (A B : List Int) (x y : Int) : ((A ++ x :: B).map D.int).set A.length (.int y) = (A ++ y :: B).map D.int := by simp
theorem atI_ints (A B : List Int) (x i : Int) (h : i = A.length) : atI (A ++ x :: B) i = some x := by
  rw [h, atI_nat]
  simp
theorem atI_intsP (A B : List Int) (p x i : Int) (h : i = A.length + 1) : atI (A ++ p :: x :: B) i = some x := by
  rw [show A ++ p :: x :: B = (A ++ [p]) ++ x :: B by simp]
  exact atI_ints _ _ _ _ (by rw [h]; simp)
/-- each at least g behind the one before -/
def clo (g : Int) : Int → List Int → List Int
  | _, [] => []
  | p, x :: r => (if p + g > x then p + g else x) :: clo g (if p + g > x then p + g else x) r
theorem clo_len (g : Int) : ∀ (r : List Int) (p : Int), (clo g p r).length = r.length
  | [], _ => rfl
  | x :: r, p => congrArg (· + 1) (clo_len g r _)
def pushedL (g : Int) (xs : List Int) (i : Nat) (s : Int) : List Int := xs.take i ++ match xs.drop i with
  | [] => []
  | x :: r => (x + s) :: clo g (x + s) r
theorem pushedL_at (g s x : Int) (A r : List Int) : pushedL g (A ++ x :: r) A.length s = A ++ (x + s) :: clo g (x + s) r := by simp [pushedL]
theorem pushedL_len (g s : Int) (xs : List Int) (i : Nat) : (pushedL g xs i s).length = xs.length := by
  unfold pushedL
  rw [List.length_append]
  cases h : xs.drop i with
  | nil =>
    have := congrArg List.length h
    simp at this ⊢
    omega
  | cons x r =>
    have := congrArg List.length h
    simp [clo_len] at this ⊢
    omega
theorem split_at {xs : List Int} {i : Nat} (h : i < xs.length) : ∃ A x r, xs = A ++ x :: r ∧ A.length = i := by
  refine ⟨xs.take i, xs[i], xs.drop (i + 1), ?_, by simp; omega⟩
  rw [← List.drop_eq_getElem_cons h, List.take_append_drop]
/-- slots: 0 gap, 1 places, 2 sheep, 3 steps, 4 found, 5 at -/
def B_pushed : DS :=
  (sSeq (sSet 4 (dNewOf (dCons (dDat (dVar 1)) dNil)))
  (sSeq (sSetIx 4 (dVar 2) (dBin gAdd (dIxO 4 (dVar 2)) (dVar 3)))
  (sSeq (sFor (dRng2 (dCons (dDat (dBin gAdd (dVar 2) (dC (.int 1)))) (dCons (dDat (dLenO 4)) dNil))) (gNm 5) (sSetIx 4 (dVar 5) (dCB gMax2 (dCons (dDat (dIxO 4 (dVar 5))) (dCons (dDat (dBin gAdd (dIxO 4 (dBin gSub (dVar 5) (dC (.int 1)))) (dVar 0))) dNil)))))
  (sRet (dDat (dCB gTuple (dCons (dDat (dVar 4)) dNil)))))))
def S_pushed : DF := fun ss T Q _ => ∃ (g : Int) (xs : List Int) (i s : Int), ss = [.dat (.int g), .dat (tupI xs), .dat (.int i), .dat (.int s)] ∧ 0 ≤ i ∧ i < xs.length ∧ xs.length ≤ 1000 ∧ Q (.dat (tupI (pushedL g xs i.toNat s))) T
theorem h_pushed : ∀ (ss : List Sl) (T : List Ob) (Q : Sl → List Ob → Prop) (QX : Xn → List Ob → Prop), ss.length = 4 → S_pushed ss T Q QX → B_pushed (endsOf T.length Q QX) (startD 6 4 ss T) := by
  intro ss T Q QX hl h
  obtain ⟨g, xs, i, s, rfl, h0, h1, hz, h⟩ := h
  obtain ⟨A, x, r, rfl, hA⟩ := split_at (i := i.toNat) (xs := xs) (by omega)
  have hi : i = A.length := by omega
  subst hi
  rw [Int.toNat_natCast, pushedL_at] at h
  unfold B_pushed
  simp only [tupI]
  walk_at "dl"
  rw [atI_ints A r x _ rfl]
  walk_at "dl"
  rw [ixN_pos (by omega) (by simp; omega)]
  walk_at "dl"
  rw [Int.toNat_natCast, ints_set]
  refine ⟨by simp at hz ⊢; omega, ?_⟩
  refine loop_inv (fun ds ρ => ∃ P p rest v, ρ = ⟨T ++ [.lst ((P ++ p :: rest).map .int)], [some (.dat (.int g)), some (.dat (.tup ((A ++ x :: r).map .int))), some (.dat (.int A.length)), some (.dat (.int s)), some (.ob T.length), v]⟩ ∧
    ds = rangeD (P.length + 1) (P.length + 1 + rest.length) ∧ P ++ p :: clo g p rest = A ++ (x + s) :: clo g (x + s) r) ?_ ?_ _ _ ?_
  · rintro d ds ρ ⟨P, p, rest, v, rfl, e, f⟩ N hN
    cases rest with
    | nil =>
      rw [rangeD_nil (by simp)] at e
      cases e
    | cons y rest =>
      rw [rangeD_cons (by simp; omega)] at e
      cases e
      walk_at "dl"
      rw [atI_intsP P rest p y _ rfl]
      walk_at "dl"
      rw [show ((P.length : Int) + 1 - 1) = P.length by omega, atI_ints P (y :: rest) p _ rfl]
      walk_at "dl"
      rw [ixN_pos (by omega) (by simp; omega)]
      walk_at "dl"
      apply hN
      refine ⟨P ++ [p], (if p + g > y then p + g else y), rest, some (.dat (.int (P.length + 1))), ?_, ?_, ?_⟩
      · have e1 : ((P.length : Int) + 1).toNat = (P ++ [p]).length := by simp
        rw [e1, show P ++ p :: y :: rest = (P ++ [p]) ++ y :: rest by simp, ints_set]
      · congr 1
        · simp
        · simp
          omega
      · rw [← f]
        simp [clo]
  · rintro ρ ⟨P, p, rest, v, rfl, e, f⟩
    have hr : rest = [] := by
      cases rest with
      | nil => rfl
      | cons y rest =>
        rw [rangeD_cons (by simp; omega)] at e
        cases e
    subst hr
    walk_at "dl"
    rw [show (P ++ [p]) = A ++ (x + s) :: clo g (x + s) r by simpa [clo] using f]
    exact h
  · refine ⟨A, x + s, r, none, rfl, ?_, rfl⟩
    congr 1
    simp
    omega
end DL
set_option Elab.async false
set_option linter.all false
set_option maxRecDepth 100000
set_option maxHeartbeats 4000000
set_option autoImplicit false
/-! The program's defs at data level: courses. -/
namespace DL
open PySem PySem.Spec PyProof.Rows L2
local macro_rules | `(tactic| walk_at "dl") => `(tactic| (try simp only [sSeq, sSet, sRet, sRetN, sIf, sNil, sDrop, sFor, sTo, sPar2, sPar3, sNever, sRaise, sSetIx, dVar, dC, dVarL, dDat, dVal, valK_dat, valK_ob, dBin, dUn, dNil, dCons, dats, dTup, dLst, dNew, dNewOf, dTest, dtAnd, dtOr, dtNot, dAnd, dOr, dNot, dIf, dChain, dCB, dSl, dNo, dSo, sApp, dIxO, dLenO, dMaxD, dGetP, dCall, dSeq, dRng1, dRng2, dZip, dEnum, gNm, gTp, gCs, gNl, dYes,
  startD, endsOf, retD, wipeS, gAdd, gSub, gMul, gMulA, gMulB, gDiv, gMod, gPow, gNeg, gLt, gLe, gGt, gGe, gEq, gNe, gIn, gIx, gSl, gIsi, tyD, isiD, gLen, gAbs, gInt, gMax2, gMin2, gTuple, gList, gIsN, isNon, gIsB, gNotB,
  List.getElem?_cons_zero, List.getElem?_cons_succ, List.getElem?_nil, List.set_cons_zero, List.set_cons_succ, List.map_cons, List.map_nil, List.cons_append, List.nil_append, List.length_cons, List.length_nil, List.replicate_succ, List.replicate_zero, Option.map_some, Nat.reduceSub, Nat.reduceAdd, Nat.reduceLeDiff,
  List.take_length, beq_self_eq_true, String.reduceBEq, Bool.or_true, Bool.true_or, Bool.or_false, Bool.false_or, Bool.and_true, Bool.and_false, Bool.true_and, Bool.false_and, Bool.or_self, Bool.and_self, decide_true, decide_false, dmem, List.any_cons, List.any_nil, okd_non, okd_bl, okd_int, okd_str, okds_nil, okds_cons, okd_60t, okd_59t, okd_58t, okd_60l, okd_59l, okd_58l, st_tk, st_tb, st_tf, st_kt, st_kb, st_kf, st_bt, st_bk, st_bf, st_ft, st_fk, st_fb, nat_num, Int.reduceBEq, Int.reduceBNe, Int.reduceEq, Int.reduceLT, Int.reduceLE, Int.reduceAdd, Int.reduceSub, Int.reduceMul, Int.reduceNeg, Int.reduceToNat, Int.reducePow, atI_0, atI_1, atI_2, set_last, get_last, take_last, deq_str, deq_int, deq_non, deq_bl, deq_tt, deq_ll, deqs_nn, deqs_cc, deqs_nc, deqs_cn, Nat.lt_irrefl, List.set_set, ixN_20, ixN_21, tupI, okds_ints, atI_map', List.length_map, cutL_map, eq_self, if_true, if_false, ite_true, ite_false, Bool.false_eq_true, decide_eq_true_eq, true_and, and_true, and_self, Bool.not_true, Bool.not_false, true_or, or_true, false_or, or_false, Option.some.injEq, reduceCtorEq]))
/-- a run -/
inductive Rn | to (p : Int) | bark (s : Int) | back (n s : Int) | front (n s : Int)
def Rn.d : Rn → D
  | .to p => .tup [.str "to", .int p]
  | .bark s => .tup [.str "bark", .int s]
  | .back n s => .tup [.str "back", .int n, .int s]
  | .front n s => .tup [.str "front", .int n, .int s]
def Rn.ok : Rn → Prop
  | .to p => 0 ≤ p ∧ p ≤ 1000000000000
  | .bark s => 1 ≤ s ∧ s ≤ 1000000000000
  | .back n s => (0 ≤ n ∧ n ≤ 3) ∧ 1 ≤ s ∧ s ≤ 1000000000000
  | .front n s => (0 ≤ n ∧ n ≤ 3) ∧ 1 ≤ s ∧ s ≤ 1000000000000
theorem isInt_int {i lo hi : Int} (h : lo ≤ i) (h2 : i ≤ hi) : isInt (.int i) lo hi = true := by simp [isInt, h, h2]
theorem Rn.run {r : Rn} (h : r.ok) : isRun r.d = true := by
  cases r with
  | to p => simp [Rn.d, DL.isRun, isInt_int h.1 h.2]
  | bark p => simp [Rn.d, DL.isRun, isInt_int h.1 h.2]
  | back n s => simp [Rn.d, DL.isRun, isInt_int h.1.1 h.1.2, isInt_int h.2.1 h.2.2]
  | front n s => simp [Rn.d, DL.isRun, isInt_int h.1.1 h.1.2, isInt_int h.2.1 h.2.2]
theorem Rn.okd (r : Rn) (n : Nat) : okd (n + 1) r.d = true := by
  cases r <;> simp [Rn.d, DL.okd, okds]
def drD (g : Int) (rs : List Rn) : D := .tup [.int g, .tup (rs.map Rn.d)]
structure DrOk (g : Int) (rs : List Rn) : Prop where
  g1 : 1 ≤ g
  g9 : g ≤ 9
  l8 : rs.length ≤ 8
  ok : ∀ r ∈ rs, r.ok
theorem okd_drD (g : Int) (rs : List Rn) (n : Nat) : okd (n + 3) (drD g rs) = true := by
  simp only [drD, okd, okds, Bool.and_true, Bool.true_and]
  rw [okds_iff]
  intro d hd
  obtain ⟨r, _, rfl⟩ := List.mem_map.mp hd
  exact r.okd n
theorem DrOk.fits {g : Int} {rs : List Rn} (h : DrOk g rs) : fitsB (drD g rs) = true := by
  simp only [drD, fitsB, isInt_int h.g1 h.g9, List.length_map, Bool.true_and, Bool.and_eq_true, decide_eq_true_eq]
  refine ⟨h.l8, ?_⟩
  rw [List.all_eq_true]
  intro d hd
  obtain ⟨r, hr, rfl⟩ := List.mem_map.mp hd
  exact Rn.run (h.ok r hr)
structure BgOk (g : Int) (xs : List Int) : Prop where
  l1 : 1 ≤ xs.length
  l40 : xs.length ≤ 40
  great : ∀ x ∈ xs, 0 ≤ x ∧ x ≤ 1000000000000000000000000000000
  sp : spaced g xs = true
theorem BgOk.begins {g : Int} {xs : List Int} (h : BgOk g xs) : beginsB g (tupI xs) = true := by
  simp only [tupI, beginsB, intsOf_map, List.length_map, Bool.and_eq_true, decide_eq_true_eq]
  refine ⟨⟨h.l1, h.l40⟩, ?_, h.sp⟩
  rw [List.all_eq_true]
  intro x hx
  have := h.great x hx
  simp [inGreat, this]
/-- what the program does with a run -/
def ranL (g : Int) (xs : List Int) : Rn → List Int
  | .to p => pushedL g xs 0 (if p - xs.headD 0 > 0 then p - xs.headD 0 else 0)
  | .bark s => xs.map (· + s)
  | .back n s => if n < xs.length then pushedL g xs n.toNat s else xs
  | .front n s => if 0 ≤ (xs.length : Int) - 1 - n then pushedL g xs ((xs.length : Int) - 1 - n).toNat s else xs
theorem ranL_len (g : Int) (xs : List Int) (r : Rn) : (ranL g xs r).length = xs.length := by
  cases r with
  | to p => simp [ranL, pushedL_len]
  | bark s => simp [ranL]
  | back n s => simp only [ranL]; split <;> simp [pushedL_len]
  | front n s => simp only [ranL]; split <;> simp [pushedL_len]
theorem gMax2_ii (i j : Int) (P : D → Prop) : gMax2 [.int i, .int j] P = P (.int (if j > i then j else i)) := rfl
theorem filterMap_some {α β : Type} (f : α → β) (l : List α) : l.filterMap (fun x => some (f x)) = l.map f := by simp
/-- slots: 0 gap, 1 places, 2 run, 3 sheep, 4 place -/
def B_ran : DS :=
  (sSeq (sIf (dTest (dBin gEq (dBin gIx (dVar 2) (dC (.int 0))) (dC (.str "to")))) (sRet (dDat (dVal (dCall 4 S_pushed (dCons (dDat (dVar 0)) (dCons (dDat (dVar 1)) (dCons (dDat (dC (.int 0))) (dCons (dDat (dCB gMax2 (dCons (dDat (dC (.int 0))) (dCons (dDat (dBin gSub (dBin gIx (dVar 2) (dC (.int 1))) (dBin gIx (dVar 1) (dC (.int 0))))) dNil)))) dNil)))))))) sNil)
  (sSeq (sIf (dTest (dBin gEq (dBin gIx (dVar 2) (dC (.int 0))) (dC (.str "bark")))) (sRet (dDat (dCB gTuple (dCons (dDat (dComp (dSeq (dVar 1)) (gNm 4) dYes (dBin gAdd (dVar 4) (dBin gIx (dVar 2) (dC (.int 1)))) [4])) dNil)))) sNil)
  (sSeq (sSet 3 (dDat (dIf (dTest (dBin gEq (dBin gIx (dVar 2) (dC (.int 0))) (dC (.str "back")))) (dBin gIx (dVar 2) (dC (.int 1))) (dBin gSub (dBin gSub (dCB gLen (dCons (dDat (dVar 1)) dNil)) (dC (.int 1))) (dBin gIx (dVar 2) (dC (.int 1)))))))
  (sSeq (sIf (dtNot (dTest (dChain gLe gLt (dC (.int 0)) (dVar 3) (dCB gLen (dCons (dDat (dVar 1)) dNil))))) (sRet (dDat (dVar 1))) sNil)
  (sRet (dDat (dVal (dCall 4 S_pushed (dCons (dDat (dVar 0)) (dCons (dDat (dVar 1)) (dCons (dDat (dVar 3)) (dCons (dDat (dBin gIx (dVar 2) (dC (.int 2)))) dNil))))))))))))
def S_ran : DF := fun ss T Q _ => ∃ (g : Int) (xs : List Int) (r : Rn), ss = [.dat (.int g), .dat (tupI xs), .dat r.d] ∧ 1 ≤ xs.length ∧ xs.length ≤ 1000 ∧ r.ok ∧ Q (.dat (tupI (ranL g xs r))) T
theorem h_ran : ∀ (ss : List Sl) (T : List Ob) (Q : Sl → List Ob → Prop) (QX : Xn → List Ob → Prop), ss.length = 3 → S_ran ss T Q QX → B_ran (endsOf T.length Q QX) (startD 5 3 ss T) := by
  intro ss T Q QX hl h
  obtain ⟨g, xs, r, rfl, h1, hz, ok, h⟩ := h
  unfold B_ran
  cases r with
  | to p =>
    simp only [Rn.d]
    walk_at "dl"
    obtain ⟨x, r, rfl⟩ : ∃ x r, xs = x :: r := by
      cases xs with
      | nil => simp at h1
      | cons x r => exact ⟨x, r, rfl⟩
    walk_at "dl"
    exact ⟨_, _, _, _, rfl, by omega, by simp, hz, by walk_at "dl"; exact h⟩
  | bark s =>
    simp only [Rn.d]
    walk_at "dl"
    refine dComp_pure (fun d => match d with | .int i => some (.int (i + s)) | _ => none) (xs.map .int) T [some (.dat (.int g)), some (.dat (tupI xs)), some (.dat (.tup [.str "bark", .int s])), none, none] [some (.dat (.int g)), some (.dat (tupI xs)), some (.dat (.tup [.str "bark", .int s])), none, none] ?_ rfl rfl rfl (by rw [List.length_map, sizeLine_eq]; omega) ?_ ?_
    · intro P hP
      walk_at "dl"
      exact hP
    · intro d hd acc R hR
      obtain ⟨x, _, rfl⟩ := List.mem_map.mp hd
      walk_at "dl"
      exact hR _ rfl
    · walk_at "dl"
      rw [List.filterMap_map, show ((fun d => match d with | D.int i => some (D.int (i + s)) | _ => none) ∘ D.int) = fun x => some (D.int (x + s)) from rfl, filterMap_some]
      have e : xs.map (fun x => D.int (x + s)) = (xs.map (· + s)).map D.int := by simp
      rw [e]
      exact h
  | back n s =>
    obtain ⟨⟨n0, n3⟩, s1, s2⟩ := ok
    simp only [Rn.d]
    walk_at "dl"
    rw [if_pos n0]
    simp only [ranL] at h
    by_cases q : n < xs.length
    · rw [if_pos q] at h
      rw [if_neg (by simpa using q)]
      exact ⟨_, _, _, _, rfl, n0, q, hz, by walk_at "dl"; exact h⟩
    · rw [if_neg q] at h
      rw [if_pos (by simpa using q)]
      exact h
  | front n s =>
    obtain ⟨⟨n0, n3⟩, s1, s2⟩ := ok
    simp only [Rn.d]
    walk_at "dl"
    simp only [ranL] at h
    by_cases q : 0 ≤ (xs.length : Int) - 1 - n
    · rw [if_pos q] at h
      rw [if_pos q, if_neg (by simp; omega)]
      exact ⟨_, _, _, _, rfl, q, by omega, hz, by walk_at "dl"; exact h⟩
    · rw [if_neg q] at h
      rw [if_neg q]
      exact h
/-- a course -/
def courseL (g : Int) : List Int → List Rn → List (List Int)
  | _, [] => []
  | xs, r :: rs => ranL g xs r :: courseL g (ranL g xs r) rs
theorem courseL_len (g : Int) : ∀ (rs : List Rn) (xs : List Int), (courseL g xs rs).length = rs.length
  | [], _ => rfl
  | r :: rs, xs => congrArg (· + 1) (courseL_len g rs _)
/-- slots: 0 drill, 1 beginning, 2 found, 3 run -/
def B_course_of : DS :=
  (sSeq (sSet 2 (dNew dNil))
  (sSeq (sFor (dSeq (dBin gIx (dVar 0) (dC (.int 1)))) (gNm 3) (sSeq (sSet 1 (dDat (dVal (dCall 3 S_ran (dCons (dDat (dBin gIx (dVar 0) (dC (.int 0)))) (dCons (dDat (dVar 1)) (dCons (dDat (dVar 3)) dNil)))))))
  (sApp 2 (dVar 1))))
  (sRet (dDat (dVar 2)))))
def S_course_of : DF := fun ss T Q _ => ∃ (g : Int) (xs : List Int) (rs : List Rn), ss = [.dat (drD g rs), .dat (tupI xs)] ∧ 1 ≤ xs.length ∧ xs.length ≤ 1000 ∧ rs.length ≤ 1000 ∧ (∀ r ∈ rs, r.ok) ∧ Q (.dat (.lst ((courseL g xs rs).map tupI))) T
theorem h_course_of : ∀ (ss : List Sl) (T : List Ob) (Q : Sl → List Ob → Prop) (QX : Xn → List Ob → Prop), ss.length = 2 → S_course_of ss T Q QX → B_course_of (endsOf T.length Q QX) (startD 4 2 ss T) := by
  intro ss T Q QX hl h
  obtain ⟨g, xs, rs, rfl, h1, hz, hr, ok, h⟩ := h
  unfold B_course_of
  simp only [drD]
  walk_at "dl"
  refine loop_inv (fun ds ρ => ∃ (done : List (List Int)) (ys : List Int) (rest : List Rn) (v : Option Sl), ρ = ⟨T ++ [.lst (done.map tupI)], [some (.dat (.tup [.int g, .tup (rs.map Rn.d)])), some (.dat (tupI ys)), some (.ob T.length), v]⟩ ∧ ds = rest.map Rn.d ∧ ys.length = xs.length ∧ (∀ r ∈ rest, r.ok) ∧ done ++ courseL g ys rest = courseL g xs rs) ?_ ?_ _ _ ?_
  · rintro d ds ρ ⟨done, ys, rest, v, rfl, e, hy, ho, hc⟩ N hN
    cases rest with
    | nil => cases e
    | cons r rest =>
      cases e
      walk_at "dl"
      refine ⟨g, ys, r, rfl, by omega, by omega, ho r (by simp), ?_⟩
      walk_at "dl"
      have hlen := congrArg List.length hc
      simp only [List.length_append, courseL_len, List.length_cons] at hlen
      refine ⟨by rw [sizeLine_eq]; omega, ?_⟩
      apply hN
      refine ⟨done ++ [ranL g ys r], ranL g ys r, rest, some (.dat r.d), by simp [tupI], rfl, by rw [ranL_len, hy], fun r hr => ho r (by simp [hr]), ?_⟩
      rw [← hc]
      simp [courseL]
  · rintro ρ ⟨done, ys, rest, v, rfl, e, hy, ho, hc⟩
    have hr : rest = [] := by
      cases rest with
      | nil => rfl
      | cons y rest => cases e
    subst hr
    walk_at "dl"
    rw [show done = courseL g xs rs by simpa [courseL] using hc]
    exact h
  · exact ⟨[], xs, rs, none, rfl, rfl, rfl, ok, rfl⟩
/-- slots: 0 drill, 1 beginning -/
def B_course : DS :=
  (sSeq (sDrop (dCall 1 S_need_drill (dCons (dDat (dVar 0)) dNil)))
  (sSeq (sDrop (dCall 2 S_need_beginning (dCons (dDat (dBin gIx (dVar 0) (dC (.int 0)))) (dCons (dDat (dVar 1)) dNil))))
  (sRet (dDat (dVal (dCall 2 S_course_of (dCons (dDat (dVar 0)) (dCons (dDat (dVar 1)) dNil))))))))
def S_course : DF := fun ss T Q _ => ∃ (g : Int) (xs : List Int) (rs : List Rn), ss = [.dat (drD g rs), .dat (tupI xs)] ∧ DrOk g rs ∧ BgOk g xs ∧ Q (.dat (.lst ((courseL g xs rs).map tupI))) T
theorem h_course : ∀ (ss : List Sl) (T : List Ob) (Q : Sl → List Ob → Prop) (QX : Xn → List Ob → Prop), ss.length = 2 → S_course ss T Q QX → B_course (endsOf T.length Q QX) (startD 2 2 ss T) := by
  intro ss T Q QX hl h
  obtain ⟨g, xs, rs, rfl, hd, hb, h⟩ := h
  unfold B_course
  simp only [drD]
  walk_at "dl"
  simp only [S_need_drill]
  refine ⟨okd_drD g rs 57, .inl ⟨hd.fits, ?_⟩⟩
  walk_at "dl"
  simp only [S_need_beginning]
  refine ⟨okd_tupI 59 xs, .inl ⟨hb.begins, ?_⟩⟩
  walk_at "dl"
  refine ⟨g, xs, rs, rfl, hb.l1, Nat.le_trans hb.l40 (by decide), Nat.le_trans hd.l8 (by decide), hd.ok, ?_⟩
  walk_at "dl"
  exact h
theorem course_last (g : Int) : ∀ (rs : List Rn) (xs : List Int), ∃ l, xs :: courseL g xs rs = l ++ [rs.foldl (ranL g) xs]
  | [], xs => ⟨[], rfl⟩
  | r :: rs, xs => by
    obtain ⟨l, e⟩ := course_last g rs (ranL g xs r)
    exact ⟨xs :: l, by simp only [courseL, List.foldl_cons, List.cons_append]; rw [e]⟩
/-- slots: 0 drill, 1 beginning -/
def B_ends : DS :=
  (sSeq (sDrop (dCall 1 S_need_drill (dCons (dDat (dVar 0)) dNil)))
  (sSeq (sDrop (dCall 2 S_need_beginning (dCons (dDat (dBin gIx (dVar 0) (dC (.int 0)))) (dCons (dDat (dVar 1)) dNil))))
  (sRet (dDat (dBin gIx (dBin gAdd (dLst (dCons (dDat (dVar 1)) dNil)) (dVal (dCall 2 S_course_of (dCons (dDat (dVar 0)) (dCons (dDat (dVar 1)) dNil))))) (dUn gNeg (dC (.int 1))))))))
def S_ends : DF := fun ss T Q _ => ∃ (g : Int) (xs : List Int) (rs : List Rn), ss = [.dat (drD g rs), .dat (tupI xs)] ∧ DrOk g rs ∧ BgOk g xs ∧ Q (.dat (tupI (rs.foldl (ranL g) xs))) T
theorem h_ends : ∀ (ss : List Sl) (T : List Ob) (Q : Sl → List Ob → Prop) (QX : Xn → List Ob → Prop), ss.length = 2 → S_ends ss T Q QX → B_ends (endsOf T.length Q QX) (startD 2 2 ss T) := by
  intro ss T Q QX hl h
  obtain ⟨g, xs, rs, rfl, hd, hb, h⟩ := h
  unfold B_ends
  simp only [drD]
  walk_at "dl"
  simp only [S_need_drill]
  refine ⟨okd_drD g rs 57, .inl ⟨hd.fits, ?_⟩⟩
  walk_at "dl"
  simp only [S_need_beginning]
  refine ⟨okd_tupI 59 xs, .inl ⟨hb.begins, ?_⟩⟩
  walk_at "dl"
  refine ⟨g, xs, rs, rfl, hb.l1, Nat.le_trans hb.l40 (by decide), Nat.le_trans hd.l8 (by decide), hd.ok, ?_⟩
  walk_at "dl"
  have hl8 := hd.l8
  refine ⟨by rw [courseL_len, sizeLine_eq]; omega, ?_⟩
  obtain ⟨l, e⟩ := course_last g rs xs
  rw [show D.tup (xs.map .int) :: (courseL g xs rs).map tupI = l.map tupI ++ [tupI (rs.foldl (ranL g) xs)] by rw [dat_tI, ← List.map_cons, e]; simp, atI_last]
  exact h
end DL
set_option Elab.async false
set_option linter.all false
set_option maxRecDepth 100000
set_option maxHeartbeats 4000000
set_option autoImplicit false
/-! The law's defs at data level: drawing. -/
namespace DL
open PySem PySem.Spec PyProof.Rows L2
local macro_rules | `(tactic| walk_at "dl") => `(tactic| (try simp only [sSeq, sSet, sRet, sRetN, sIf, sNil, sDrop, sFor, sTo, sPar2, sPar3, sNever, sRaise, sSetIx, dVar, dC, dVarL, dDat, dVal, valK_dat, valK_ob, dBin, dUn, dNil, dCons, dats, dTup, dLst, dNew, dNewOf, dTest, dtAnd, dtOr, dtNot, dAnd, dOr, dNot, dIf, dChain, dCB, dSl, dNo, dSo, sApp, dIxO, dLenO, dMaxD, dGetP, dCall, dSeq, dRng1, dRng2, dZip, dEnum, gNm, gTp, gCs, gNl, dYes,
  startD, endsOf, retD, wipeS, gAdd, gSub, gMul, gMulA, gMulB, gDiv, gMod, gPow, gNeg, gLt, gLe, gGt, gGe, gEq, gNe, gIn, gIx, gSl, gIsi, tyD, isiD, gLen, gAbs, gInt, gMax2, gMin2, gTuple, gList, gIsN, isNon, gIsB, gNotB,
  List.getElem?_cons_zero, List.getElem?_cons_succ, List.getElem?_nil, List.set_cons_zero, List.set_cons_succ, List.map_cons, List.map_nil, List.cons_append, List.nil_append, List.length_cons, List.length_nil, List.replicate_succ, List.replicate_zero, Option.map_some, Nat.reduceSub, Nat.reduceAdd, Nat.reduceLeDiff,
  List.take_length, beq_self_eq_true, String.reduceBEq, Bool.or_true, Bool.true_or, Bool.or_false, Bool.false_or, Bool.and_true, Bool.and_false, Bool.true_and, Bool.false_and, Bool.or_self, Bool.and_self, decide_true, decide_false, dmem, List.any_cons, List.any_nil, okd_non, okd_bl, okd_int, okd_str, okds_nil, okds_cons, okd_60t, okd_59t, okd_58t, okd_60l, okd_59l, okd_58l, st_tk, st_tb, st_tf, st_kt, st_kb, st_kf, st_bt, st_bk, st_bf, st_ft, st_fk, st_fb, nat_num, Int.reduceBEq, Int.reduceBNe, Int.reduceEq, Int.reduceLT, Int.reduceLE, Int.reduceAdd, Int.reduceSub, Int.reduceMul, Int.reduceNeg, Int.reduceToNat, Int.reducePow, atI_0, atI_1, atI_2, set_last, get_last, take_last, deq_str, deq_int, deq_non, deq_bl, deq_tt, deq_ll, deqs_nn, deqs_cc, deqs_nc, deqs_cn, Nat.lt_irrefl, List.set_set, ixN_20, ixN_21, tupI, okds_ints, atI_map', List.length_map, cutL_map, eq_self, if_true, if_false, ite_true, ite_false, Bool.false_eq_true, decide_eq_true_eq, true_and, and_true, and_self, Bool.not_true, Bool.not_false, true_or, or_true, false_or, or_false, Option.some.injEq, reduceCtorEq]))
theorem log_lt {n k : Nat} (hk : 0 < k) (h : n < 2 ^ k) : n.log2 < k := by
  by_cases z : n = 0
  · subst z
    simpa using hk
  · exact (Nat.log2_lt z).mpr h
theorem cmulW {i j : Int} (hi : i.natAbs < 2 ^ 250) (hj : j.natAbs < 2 ^ 250) : CMulW i j := by
  have h1 := log_lt (by decide) hi
  have h2 := log_lt (by decide) hj
  unfold CMulW
  omega
theorem cdivW {i j : Int} (h : 0 < j) (hj : j.natAbs < 2 ^ 250) : CDivW i j := ⟨h, Nat.lt_trans (log_lt (by decide) hj) (by decide)⟩
def CartV (a b : Int) : Ob := .lst [.int a, .int b]
structure CartOk (a b : Int) : Prop where
  a0 : 0 ≤ a
  aM : a < 10 ^ 240
  b0 : 0 ≤ b
  bM : b < 4294967296
def Cart (T : List Ob) (k : Nat) : Prop := ∃ a b, T[k]? = some (CartV a b) ∧ CartOk a b
def CartTo (T T' : List Ob) (k : Nat) : Prop := ∃ a b, T' = T.set k (CartV a b) ∧ CartOk a b
theorem Cart.lt {T : List Ob} {k : Nat} (h : Cart T k) : k < T.length := by
  obtain ⟨a, b, e, _⟩ := h
  exact (List.getElem?_eq_some_iff.mp e).1
theorem CartTo.cart {T T' : List Ob} {k : Nat} (c : Cart T k) (h : CartTo T T' k) : Cart T' k := by
  obtain ⟨a, b, rfl, ok⟩ := h
  exact ⟨a, b, by rw [List.getElem?_set_self c.lt], ok⟩
theorem CartTo.trans {T T' T2 : List Ob} {k : Nat} (h : CartTo T T' k) (h2 : CartTo T' T2 k) : CartTo T T2 k := by
  obtain ⟨a, b, rfl, ok⟩ := h
  obtain ⟨a2, b2, rfl, ok2⟩ := h2
  exact ⟨a2, b2, by rw [List.set_set], ok2⟩
theorem CartTo.len {T T' : List Ob} {k : Nat} (h : CartTo T T' k) : T'.length = T.length := by
  obtain ⟨a, b, rfl, ok⟩ := h
  simp
theorem Cart.refl {T : List Ob} {k : Nat} (c : Cart T k) : CartTo T T k := by
  obtain ⟨a, b, e, ok⟩ := c
  refine ⟨a, b, ?_, ok⟩
  obtain ⟨h, e'⟩ := List.getElem?_eq_some_iff.mp e
  rw [← e', List.set_getElem_self]
theorem Cart.app {T : List Ob} {k : Nat} (c : Cart T k) (S : List Ob) : Cart (T ++ S) k := by
  obtain ⟨a, b, e, ok⟩ := c
  exact ⟨a, b, by rw [List.getElem?_append_left (List.getElem?_eq_some_iff.mp e).1, e], ok⟩
theorem CartTo.unapp {T T' S : List Ob} {k : Nat} (c : Cart T k) (h : CartTo (T ++ S) T' k) : ∃ T2, T' = T2 ++ S ∧ CartTo T T2 k := by
  obtain ⟨a, b, rfl, ok⟩ := h
  exact ⟨T.set k (CartV a b), by rw [List.set_append_left _ _ c.lt], a, b, rfl, ok⟩
/-- slots: 0 _law_script, 1 _law_k, 2 _law_cell -/
def B_l_cart_of : DS :=
  (sSeq (sSet 2 (dDat (dBin gAdd (dBin gMulB (dC (.int 32003)) (dVar 1)) (dC (.int 79)))))
  (sSeq (sIf (dTest (dBin gLt (dVar 1) (dCB gLen (dCons (dDat (dVar 0)) dNil)))) (sSet 2 (dDat (dBin gMod (dCB gAbs (dCons (dDat (dCB gInt (dCons (dDat (dBin gIx (dVar 0) (dVar 1))) dNil))) dNil)) (dBin gMulB (dBin gMulB (dBin gMulB (dBin gPow (dC (.int 10)) (dC (.int 60))) (dBin gPow (dC (.int 10)) (dC (.int 60)))) (dBin gPow (dC (.int 10)) (dC (.int 60)))) (dBin gPow (dC (.int 10)) (dC (.int 60))))))) (sIf (dTest (dBin gGt (dCB gLen (dCons (dDat (dVar 0)) dNil)) (dC (.int 0)))) (sSet 2 (dDat (dBin gAdd (dVar 2) (dBin gMod (dCB gAbs (dCons (dDat (dCB gInt (dCons (dDat (dBin gIx (dVar 0) (dC (.int 0)))) dNil))) dNil)) (dC (.int 1000357)))))) sNil))
  (sRet (dNew (dCons (dDat (dIf (dTest (dBin gGe (dVar 2) (dBin gPow (dC (.int 10)) (dC (.int 18))))) (dVar 2) (dC (.int 0)))) (dCons (dDat (dBin gAdd (dBin gMod (dCB gInt (dCons (dDat (dBin gAdd (dBin gAdd (dBin gMulB (dBin gMod (dVar 2) (dC (.int 2147482697))) (dC (.int 41))) (dBin gMulB (dC (.int 127)) (dVar 1))) (dC (.int 73)))) dNil)) (dC (.int 2147482697))) (dC (.int 1)))) dNil))))))
def S_l_cart_of : DF := fun ss T Q _ => ∃ (ns : List Int) (k : Int), ss = [.dat (.scr ns), .dat (.int k)] ∧ 0 ≤ k ∧ k ≤ 1000 ∧ ns.length ≤ 1000 ∧ ∀ a b, CartOk a b → Q (.ob T.length) (T ++ [CartV a b])
theorem cart_b (c k : Int) : 0 ≤ (c % 2147482697 * 41 + 127 * k + 73) % 2147482697 + 1 ∧ (c % 2147482697 * 41 + 127 * k + 73) % 2147482697 + 1 < 4294967296 := by omega
theorem h_l_cart_of : ∀ (ss : List Sl) (T : List Ob) (Q : Sl → List Ob → Prop) (QX : Xn → List Ob → Prop), ss.length = 2 → S_l_cart_of ss T Q QX → B_l_cart_of (endsOf T.length Q QX) (startD 3 2 ss T) := by
  intro ss T Q QX hl h
  obtain ⟨ns, k, rfl, k0, k1, hn, h⟩ := h
  unfold B_l_cart_of
  walk_at "dl"
  refine ⟨cmulW (by decide) (by omega), ?_⟩
  have fin : ∀ c : Int, 0 ≤ c → c < 10 ^ 240 → (CPow 10 18 ∧ (if (1000000000000000000 : Int) ≤ c then CMulW (c % 2147482697) 41 ∧ CMulW 127 k ∧ Q (.ob T.length) (T ++ [CartV c ((c % 2147482697 * 41 + 127 * k + 73) % 2147482697 + 1)]) else CMulW (c % 2147482697) 41 ∧ CMulW 127 k ∧ Q (.ob T.length) (T ++ [CartV 0 ((c % 2147482697 * 41 + 127 * k + 73) % 2147482697 + 1)]))) := by
    intro c c0 c1
    refine ⟨by unfold CPow; decide, ?_⟩
    have e1 : CMulW (c % 2147482697) 41 := cmulW (by omega) (by decide)
    have e2 : CMulW 127 k := cmulW (by decide) (by omega)
    split
    · exact ⟨e1, e2, h _ _ ⟨c0, c1, (cart_b c k).1, (cart_b c k).2⟩⟩
    · exact ⟨e1, e2, h _ _ ⟨by decide, by decide, (cart_b c k).1, (cart_b c k).2⟩⟩
  have p60 : CPow 10 60 := by unfold CPow; decide
  simp only [CartV] at fin
  by_cases q : k < ns.length
  · rw [if_pos q, atI_some k0 q]
    walk_at "dl"
    generalize ns[k.toNat] = n
    refine ⟨p60, p60, by unfold CMulW; decide +kernel, p60, by unfold CMulW; decide +kernel, p60, by unfold CMulW; decide +kernel, ?_⟩
    exact fin _ (Int.emod_nonneg _ (by decide)) (by simp only [Int.reducePow]; exact Int.emod_lt_of_pos _ (by decide))
  · rw [if_neg q]
    by_cases q0 : (0 : Int) < ns.length
    · rw [if_pos q0, atI_some (by omega) q0]
      walk_at "dl"
      refine fin _ (by split <;> omega) ?_
      simp only [Int.reducePow]
      split <;> omega
    · rw [if_neg q0]
      refine fin _ (by omega) ?_
      simp only [Int.reducePow]
      omega
/-- slots: 0 _law_cart, 1 _law_many, 2 _law_found, 3 _law_wide -/
def B_l_take : DS :=
  (sSeq (sIf (dTest (dBin gGt (dIxO 0 (dC (.int 0))) (dC (.int 0)))) (sSeq (sSet 2 (dDat (dBin gMod (dCB gInt (dCons (dDat (dIxO 0 (dC (.int 0)))) dNil)) (dVar 1))))
  (sSeq (sSetIx 0 (dC (.int 0)) (dBin gDiv (dIxO 0 (dC (.int 0))) (dVar 1)))
  (sRet (dDat (dVar 2))))) sNil)
  (sSeq (sTo (dTup (dCons (dDat (dC (.int 0))) (dCons (dDat (dC (.int 1))) dNil))) (gTp 2 (gCs (gNm 2) (gCs (gNm 3) gNl))))
  (sSeq (sWhile (dtOr (dTest (dBin gLt (dVar 3) (dVar 1))) (dTest (dBin gEq (dVar 3) (dC (.int 1))))) (sSeq (sSetIx 0 (dC (.int 1)) (dBin gMod (dCB gInt (dCons (dDat (dBin gAdd (dBin gMulB (dIxO 0 (dC (.int 1))) (dC (.int 16741))) (dC (.int 137)))) dNil)) (dC (.int 2147482697))))
  (sSeq (sSet 2 (dDat (dBin gAdd (dBin gMulB (dVar 2) (dC (.int 8192))) (dBin gMod (dCB gInt (dCons (dDat (dBin gDiv (dIxO 0 (dC (.int 1))) (dC (.int 65729)))) dNil)) (dC (.int 8192))))))
  (sSet 3 (dDat (dBin gMulB (dVar 3) (dC (.int 8192))))))))
  (sRet (dDat (dBin gMod (dCB gInt (dCons (dDat (dVar 2)) dNil)) (dVar 1)))))))
def S_l_take : DF := fun ss T Q _ => ∃ (k : Nat) (n : Int), ss = [.ob k, .dat (.int n)] ∧ Cart T k ∧ 0 < n ∧ n ≤ 10 ^ 60 ∧ ∀ r T', 0 ≤ r → r < n → CartTo T T' k → Q (.dat (.int r)) T'
theorem h_l_take : ∀ (ss : List Sl) (T : List Ob) (Q : Sl → List Ob → Prop) (QX : Xn → List Ob → Prop), ss.length = 2 → S_l_take ss T Q QX → B_l_take (endsOf T.length Q QX) (startD 4 2 ss T) := by
  intro ss T Q QX hl h
  obtain ⟨k, n, rfl, c, n0, n1, h⟩ := h
  simp only [Int.reducePow] at n1
  have hk := c.lt
  obtain ⟨a, b, e, ok⟩ := c
  unfold B_l_take
  walk_at "dl"
  have eT : T.take T.length = T := List.take_length
  have el : ∀ x : Ob, (T.set k x)[k]? = some x := fun x => List.getElem?_set_self hk
  have et : ∀ x : Ob, (T.set k x).take T.length = T.set k x := fun x => by rw [List.take_of_length_le (by simp)]
  simp only [e, CartV]
  walk_at "dl"
  by_cases q : 0 < a
  · rw [if_pos q]
    refine ⟨n0, cdivW n0 (by omega), ?_⟩
    rw [et]
    refine h _ _ (Int.emod_nonneg _ (by omega)) (Int.emod_lt_of_pos _ n0) ⟨a / n, b, rfl, ?_⟩
    refine ⟨Int.ediv_nonneg ok.a0 (by omega), ?_, ok.b0, ok.bM⟩
    exact Int.lt_of_le_of_lt (Int.ediv_le_self _ ok.a0) ok.aM
  · rw [if_neg q]
    refine ⟨fun m ρ => ∃ a b f w, ρ = ⟨T.set k (CartV a b), [some (.ob k), some (.dat (.int n)), some (.dat (.int f)), some (.dat (.int w))]⟩ ∧ CartOk a b ∧ 0 ≤ f ∧ f < w ∧ m = (n + 2 - w).toNat, ⟨_, a, b, 0, 1, ?_, ok, by omega, by omega, rfl⟩, ?_⟩
    · congr 1
      obtain ⟨h1, h2⟩ := List.getElem?_eq_some_iff.mp e
      rw [← h2, List.set_getElem_self]
    · rintro m ρ ⟨a, b, f, w, rfl, ok, f0, fw, rfl⟩
      walk_at "dl"
      simp only [el, CartV]
      walk_at "dl"
      have c1 : CMulW b 16741 := cmulW (by have := ok.b0; have := ok.bM; omega) (by decide)
      have d1 : CDivW ((b * 16741 + 137) % 2147482697) 65729 := cdivW (by decide) (by decide)
      have go : (w < n ∨ w = 1) → CMulW b 16741 ∧ CMulW f 8192 ∧ CDivW ((b * 16741 + 137) % 2147482697) 65729 ∧ CMulW w 8192 ∧ ∃ m', m' < (n + 2 - w).toNat ∧ ∃ a_1 b_1 f_1 w_1, (⟨T.set k (.lst [.int a, .int ((b * 16741 + 137) % 2147482697)]), [some (.ob k), some (.dat (.int n)), some (.dat (.int (f * 8192 + (b * 16741 + 137) % 2147482697 / 65729 % 8192))), some (.dat (.int (w * 8192)))]⟩ : Env) = ⟨T.set k (.lst [.int a_1, .int b_1]), [some (.ob k), some (.dat (.int n)), some (.dat (.int f_1)), some (.dat (.int w_1))]⟩ ∧ CartOk a_1 b_1 ∧ 0 ≤ f_1 ∧ f_1 < w_1 ∧ m' = (n + 2 - w_1).toNat := by
        intro hw
        refine ⟨c1, cmulW (by omega) (by decide), d1, cmulW (by omega) (by decide), _, ?_, _, _, _, _, rfl, ⟨ok.a0, ok.aM, by omega, by omega⟩, by omega, by omega, rfl⟩
        omega
      have done : 0 < n ∧ Q (.dat (.int (f % n))) (T.set k (.lst [.int a, .int b])) := ⟨n0, h _ _ (Int.emod_nonneg _ (by omega)) (Int.emod_lt_of_pos _ n0) ⟨a, b, rfl, ok⟩⟩
      by_cases q1 : w < n
      · rw [if_pos q1]
        have := go (.inl q1)
        exact this
      · rw [if_neg q1]
        by_cases q2 : w = 1
        · rw [if_pos (by simpa using q2)]
          exact go (.inr q2)
        · rw [if_neg (by simpa using q2), et]
          exact done
end DL
set_option Elab.async false
set_option linter.all false
set_option maxRecDepth 100000
set_option maxHeartbeats 4000000
set_option autoImplicit false
/-! The law's defs at data level: drills and rooms drawn. -/
namespace DL
open PySem PySem.Spec PyProof.Rows L2
local macro_rules | `(tactic| walk_at "dl") => `(tactic| (try simp only [sSeq, sSet, sRet, sRetN, sIf, sNil, sDrop, sFor, sTo, sPar2, sPar3, sNever, sRaise, sSetIx, dVar, dC, dVarL, dDat, dVal, valK_dat, valK_ob, dBin, dUn, dNil, dCons, dats, dTup, dLst, dNew, dNewOf, dTest, dtAnd, dtOr, dtNot, dAnd, dOr, dNot, dIf, dChain, dCB, dSl, dNo, dSo, sApp, dIxO, dLenO, dMaxD, dGetP, dCall, dSeq, dRng1, dRng2, dZip, dEnum, gNm, gTp, gCs, gNl, dYes,
  startD, endsOf, retD, wipeS, gAdd, gSub, gMul, gMulA, gMulB, gDiv, gMod, gPow, gNeg, gLt, gLe, gGt, gGe, gEq, gNe, gIn, gIx, gSl, gIsi, tyD, isiD, gLen, gAbs, gInt, gMax2, gMin2, gTuple, gList, gIsN, isNon, gIsB, gNotB,
  List.getElem?_cons_zero, List.getElem?_cons_succ, List.getElem?_nil, List.set_cons_zero, List.set_cons_succ, List.map_cons, List.map_nil, List.cons_append, List.nil_append, List.length_cons, List.length_nil, List.replicate_succ, List.replicate_zero, Option.map_some, Nat.reduceSub, Nat.reduceAdd, Nat.reduceLeDiff,
  List.take_length, beq_self_eq_true, String.reduceBEq, Bool.or_true, Bool.true_or, Bool.or_false, Bool.false_or, Bool.and_true, Bool.and_false, Bool.true_and, Bool.false_and, Bool.or_self, Bool.and_self, decide_true, decide_false, dmem, List.any_cons, List.any_nil, okd_non, okd_bl, okd_int, okd_str, okds_nil, okds_cons, okd_60t, okd_59t, okd_58t, okd_60l, okd_59l, okd_58l, st_tk, st_tb, st_tf, st_kt, st_kb, st_kf, st_bt, st_bk, st_bf, st_ft, st_fk, st_fb, nat_num, Int.reduceBEq, Int.reduceBNe, Int.reduceEq, Int.reduceLT, Int.reduceLE, Int.reduceAdd, Int.reduceSub, Int.reduceMul, Int.reduceNeg, Int.reduceToNat, Int.reducePow, atI_0, atI_1, atI_2, set_last, get_last, take_last, deq_str, deq_int, deq_non, deq_bl, deq_tt, deq_ll, deqs_nn, deqs_cc, deqs_nc, deqs_cn, Nat.lt_irrefl, List.set_set, ixN_20, ixN_21, tupI, okds_ints, atI_map', List.length_map, cutL_map, eq_self, if_true, if_false, ite_true, ite_false, Bool.false_eq_true, decide_eq_true_eq, true_and, and_true, and_self, Bool.not_true, Bool.not_false, true_or, or_true, false_or, or_false, Option.some.injEq, reduceCtorEq]))
/-- slots: 0 _law_cart, 1 _law_things -/
def B_l_any : DS :=
  (sRet (dDat (dBin gIx (dVar 1) (dVal (dCall 2 S_l_take (dCons (dVarL 0) (dCons (dDat (dCB gLen (dCons (dDat (dVar 1)) dNil))) dNil)))))))
def S_l_any : DF := fun ss T Q _ => ∃ (k : Nat) (d : D) (ds : List D), ss = [.ob k, .dat d] ∧ (d = .lst ds ∨ d = .tup ds) ∧ Cart T k ∧ 0 < ds.length ∧ ds.length ≤ 1000 ∧ ∀ x T', x ∈ ds → CartTo T T' k → Q (.dat x) T'
theorem h_l_any : ∀ (ss : List Sl) (T : List Ob) (Q : Sl → List Ob → Prop) (QX : Xn → List Ob → Prop), ss.length = 2 → S_l_any ss T Q QX → B_l_any (endsOf T.length Q QX) (startD 2 2 ss T) := by
  intro ss T Q QX hl h
  obtain ⟨k, d, ds, rfl, hd, c, l0, l1, h⟩ := h
  unfold B_l_any
  rcases hd with rfl | rfl
  all_goals
    walk_at "dl"
    refine ⟨k, ds.length, rfl, c, by omega, by simp only [Int.reducePow]; omega, fun r T' r0 r1 ct => ?_⟩
    walk_at "dl"
    rw [atI_some r0 r1, take_len ct.len]
    exact h _ _ (List.getElem_mem _) ct
/-- slots: 0 _law_cart, 1 _law_wide, 2 _law_word, 3 _law_most -/
def B_l_deed : DS :=
  (sSeq (sPar2 2 3 (dDat (dVal (dCall 2 S_l_any (dCons (dVarL 0) (dCons (dDat (dLst (dCons (dDat (dC (.str "to"))) (dCons (dDat (dC (.str "back"))) (dCons (dDat (dC (.str "back"))) (dCons (dDat (dC (.str "front"))) (dCons (dDat (dC (.str "front"))) (dCons (dDat (dC (.str "bark"))) dNil)))))))) dNil))))) (dDat (dVal (dCall 2 S_l_any (dCons (dVarL 0) (dCons (dDat (dLst (dCons (dDat (dC (.int 3))) (dCons (dDat (dC (.int 3))) (dCons (dDat (dVar 1)) dNil))))) dNil))))))
  (sSeq (sIf (dTest (dBin gEq (dVar 2) (dC (.str "to")))) (sRet (dDat (dTup (dCons (dDat (dVar 2)) (dCons (dDat (dVal (dCall 2 S_l_take (dCons (dVarL 0) (dCons (dDat (dBin gAdd (dVar 3) (dC (.int 1)))) dNil))))) dNil))))) sNil)
  (sSeq (sIf (dTest (dBin gEq (dVar 2) (dC (.str "bark")))) (sRet (dDat (dTup (dCons (dDat (dVar 2)) (dCons (dDat (dBin gAdd (dC (.int 1)) (dVal (dCall 2 S_l_take (dCons (dVarL 0) (dCons (dDat (dVar 3)) dNil)))))) dNil))))) sNil)
  (sRet (dDat (dTup (dCons (dDat (dVar 2)) (dCons (dDat (dVal (dCall 2 S_l_any (dCons (dVarL 0) (dCons (dDat (dLst (dCons (dDat (dC (.int 0))) (dCons (dDat (dC (.int 0))) (dCons (dDat (dC (.int 1))) (dCons (dDat (dC (.int 1))) (dCons (dDat (dC (.int 2))) (dCons (dDat (dC (.int 3))) dNil)))))))) dNil))))) (dCons (dDat (dBin gAdd (dC (.int 1)) (dVal (dCall 2 S_l_take (dCons (dVarL 0) (dCons (dDat (dVar 3)) dNil)))))) dNil)))))))))
def S_l_deed : DF := fun ss T Q _ => ∃ (k : Nat) (w : Int), ss = [.ob k, .dat (.int w)] ∧ Cart T k ∧ 1 ≤ w ∧ w ≤ 1000000000000 ∧ ∀ (r : Rn) T', r.ok → CartTo T T' k → Q (.dat r.d) T'
theorem h_l_deed : ∀ (ss : List Sl) (T : List Ob) (Q : Sl → List Ob → Prop) (QX : Xn → List Ob → Prop), ss.length = 2 → S_l_deed ss T Q QX → B_l_deed (endsOf T.length Q QX) (startD 4 2 ss T) := by
  intro ss T Q QX hl h
  obtain ⟨k, w, rfl, c, w0, w1, h⟩ := h
  unfold B_l_deed
  walk_at "dl"
  refine ⟨k, _, _, rfl, .inl rfl, c, by decide, by decide, fun x T1 hx c1 => ?_⟩
  have k1 := c1.cart c
  walk_at "dl"
  refine ⟨k, _, _, rfl, .inl rfl, k1, by simp, by simp, fun y T2 hy c2 => ?_⟩
  have k2 := c2.cart k1
  obtain ⟨m, rfl, m1, m2⟩ : ∃ m : Int, y = .int m ∧ 1 ≤ m ∧ m ≤ 1000000000000 := by
    simp only [List.mem_cons, List.not_mem_nil, or_false] at hy
    rcases hy with rfl | rfl | rfl
    · exact ⟨3, rfl, by decide, by decide⟩
    · exact ⟨3, rfl, by decide, by decide⟩
    · exact ⟨w, rfl, w0, w1⟩
  have c12 := c1.trans c2
  simp only [List.mem_cons, List.not_mem_nil, or_false] at hx
  rcases hx with rfl | rfl | rfl | rfl | rfl | rfl
  all_goals walk_at "dl"
  · refine ⟨k, _, rfl, k2, by omega, by simp only [Int.reducePow]; omega, fun s T4 s0 s1 c4 => ?_⟩
    walk_at "dl"
    rw [take_len (c12.trans c4).len]
    exact h (.to s) T4 ⟨s0, by omega⟩ (c12.trans c4)
  · refine ⟨k, _, _, rfl, .inl rfl, k2, by decide, by decide, fun z T3 hz c3 => ?_⟩
    obtain ⟨n, rfl, n1, n3⟩ : ∃ n : Int, z = .int n ∧ 0 ≤ n ∧ n ≤ 3 := by
      simp only [List.mem_cons, List.not_mem_nil, or_false] at hz
      rcases hz with rfl | rfl | rfl | rfl | rfl | rfl
      all_goals exact ⟨_, rfl, by decide, by decide⟩
    walk_at "dl"
    refine ⟨k, m, rfl, c3.cart k2, by omega, by simp only [Int.reducePow]; omega, fun s T4 s0 s1 c4 => ?_⟩
    walk_at "dl"
    rw [take_len ((c12.trans c3).trans c4).len]
    exact h (.back n (1 + s)) T4 ⟨⟨n1, n3⟩, by omega, by omega⟩ ((c12.trans c3).trans c4)
  · refine ⟨k, _, _, rfl, .inl rfl, k2, by decide, by decide, fun z T3 hz c3 => ?_⟩
    obtain ⟨n, rfl, n1, n3⟩ : ∃ n : Int, z = .int n ∧ 0 ≤ n ∧ n ≤ 3 := by
      simp only [List.mem_cons, List.not_mem_nil, or_false] at hz
      rcases hz with rfl | rfl | rfl | rfl | rfl | rfl
      all_goals exact ⟨_, rfl, by decide, by decide⟩
    walk_at "dl"
    refine ⟨k, m, rfl, c3.cart k2, by omega, by simp only [Int.reducePow]; omega, fun s T4 s0 s1 c4 => ?_⟩
    walk_at "dl"
    rw [take_len ((c12.trans c3).trans c4).len]
    exact h (.back n (1 + s)) T4 ⟨⟨n1, n3⟩, by omega, by omega⟩ ((c12.trans c3).trans c4)
  · refine ⟨k, _, _, rfl, .inl rfl, k2, by decide, by decide, fun z T3 hz c3 => ?_⟩
    obtain ⟨n, rfl, n1, n3⟩ : ∃ n : Int, z = .int n ∧ 0 ≤ n ∧ n ≤ 3 := by
      simp only [List.mem_cons, List.not_mem_nil, or_false] at hz
      rcases hz with rfl | rfl | rfl | rfl | rfl | rfl
      all_goals exact ⟨_, rfl, by decide, by decide⟩
    walk_at "dl"
    refine ⟨k, m, rfl, c3.cart k2, by omega, by simp only [Int.reducePow]; omega, fun s T4 s0 s1 c4 => ?_⟩
    walk_at "dl"
    rw [take_len ((c12.trans c3).trans c4).len]
    exact h (.front n (1 + s)) T4 ⟨⟨n1, n3⟩, by omega, by omega⟩ ((c12.trans c3).trans c4)
  · refine ⟨k, _, _, rfl, .inl rfl, k2, by decide, by decide, fun z T3 hz c3 => ?_⟩
    obtain ⟨n, rfl, n1, n3⟩ : ∃ n : Int, z = .int n ∧ 0 ≤ n ∧ n ≤ 3 := by
      simp only [List.mem_cons, List.not_mem_nil, or_false] at hz
      rcases hz with rfl | rfl | rfl | rfl | rfl | rfl
      all_goals exact ⟨_, rfl, by decide, by decide⟩
    walk_at "dl"
    refine ⟨k, m, rfl, c3.cart k2, by omega, by simp only [Int.reducePow]; omega, fun s T4 s0 s1 c4 => ?_⟩
    walk_at "dl"
    rw [take_len ((c12.trans c3).trans c4).len]
    exact h (.front n (1 + s)) T4 ⟨⟨n1, n3⟩, by omega, by omega⟩ ((c12.trans c3).trans c4)
  · refine ⟨k, _, rfl, k2, by omega, by simp only [Int.reducePow]; omega, fun s T4 s0 s1 c4 => ?_⟩
    walk_at "dl"
    rw [take_len (c12.trans c4).len]
    exact h (.bark (1 + s)) T4 ⟨by omega, by omega⟩ (c12.trans c4)
/-- slots: 0 _law_cart, 1 _law_most, 2 _law_wide, 3 _law_turn -/
def B_l_deeds : DS :=
  (sRet (dDat (dCB gTuple (dCons (dDat (dComp (dRng1 (dCons (dDat (dVal (dCall 2 S_l_take (dCons (dVarL 0) (dCons (dDat (dBin gAdd (dVar 1) (dC (.int 1)))) dNil))))) dNil)) (gNm 3) dYes (dVal (dCall 2 S_l_deed (dCons (dVarL 0) (dCons (dDat (dVar 2)) dNil)))) [3])) dNil))))
def S_l_deeds : DF := fun ss T Q _ => ∃ (k : Nat) (m w : Int), ss = [.ob k, .dat (.int m), .dat (.int w)] ∧ Cart T k ∧ 0 ≤ m ∧ m ≤ 1000 ∧ 1 ≤ w ∧ w ≤ 1000000000000 ∧ ∀ (rs : List Rn) T', (rs.length : Int) ≤ m → (∀ r ∈ rs, r.ok) → CartTo T T' k → Q (.dat (.tup (rs.map Rn.d))) T'
theorem h_l_deeds : ∀ (ss : List Sl) (T : List Ob) (Q : Sl → List Ob → Prop) (QX : Xn → List Ob → Prop), ss.length = 3 → S_l_deeds ss T Q QX → B_l_deeds (endsOf T.length Q QX) (startD 4 3 ss T) := by
  intro ss T Q QX hl h
  obtain ⟨k, m, w, rfl, c, m0, m1, w0, w1, h⟩ := h
  unfold B_l_deeds
  walk_at "dl"
  rw [dComp_eq]
  walk_at "dl"
  refine ⟨k, _, rfl, c, by omega, by simp only [Int.reducePow]; omega, fun r T1 r0 r1 c1 => ?_⟩
  walk_at "dl"
  have k1 := c1.cart c
  have hk := k1.lt
  refine ⟨by omega, ?_⟩
  have hrl : (rangeD 0 r).length = r.toNat := by rw [rangeD_len]; simp
  refine compK_any (fun ds acc T' => CartTo T T' k ∧ ∃ rs : List Rn, acc = rs.map Rn.d ∧ (∀ r ∈ rs, r.ok) ∧ ds.length + rs.length = r.toNat) [some (.ob k), some (.dat (.int m)), some (.dat (.int w)), none] rfl rfl ?_ ?_ ⟨c1, [], rfl, by simp, by simp [hrl]⟩ ?_ ?_
  · simp [lowS, hk]
  · rw [hrl, sizeLine_eq]
    omega
  · rintro d ds acc T' hl hz ⟨c2, rs, rfl, ok, e⟩ R hR
    walk_at "dl"
    have k2 := c2.cart c
    refine ⟨k, w, rfl, k2.app _, w0, w1, fun x T'' xok c3 => ?_⟩
    obtain ⟨T3, rfl, c4⟩ := c3.unapp k2
    walk_at "dl"
    refine hR (some x.d) T3 _ (c4.len.trans hl) ⟨c2.trans c4, rs ++ [x], by simp, ?_, ?_⟩ rfl
    · intro r hr
      rcases List.mem_append.mp hr with hr | hr
      · exact ok r hr
      · rw [List.mem_singleton.mp hr]
        exact xok
    · simp at e ⊢
      omega
  · rintro acc T' hl ⟨c2, rs, rfl, ok, e⟩
    walk_at "dl"
    rw [take_len c2.len]
    refine h rs T' ?_ ok c2
    simp at e
    omega
/-- slots: 0 _law_cart, 1 _law_most -/
def B_l_work : DS :=
  (sRet (dDat (dTup (dCons (dDat (dBin gAdd (dC (.int 1)) (dVal (dCall 2 S_l_take (dCons (dVarL 0) (dCons (dDat (dC (.int 4))) dNil)))))) (dCons (dDat (dVal (dCall 3 S_l_deeds (dCons (dVarL 0) (dCons (dDat (dVar 1)) (dCons (dDat (dVal (dCall 2 S_l_any (dCons (dVarL 0) (dCons (dDat (dLst (dCons (dDat (dC (.int 6))) (dCons (dDat (dC (.int 12))) (dCons (dDat (dBin gPow (dC (.int 10)) (dC (.int 12)))) dNil))))) dNil))))) dNil)))))) dNil)))))
def S_l_work : DF := fun ss T Q _ => ∃ (k : Nat) (m : Int), ss = [.ob k, .dat (.int m)] ∧ Cart T k ∧ 0 ≤ m ∧ m ≤ 1000 ∧ ∀ (g : Int) (rs : List Rn) T', 1 ≤ g → g ≤ 4 → (rs.length : Int) ≤ m → (∀ r ∈ rs, r.ok) → CartTo T T' k → Q (.dat (drD g rs)) T'
theorem h_l_work : ∀ (ss : List Sl) (T : List Ob) (Q : Sl → List Ob → Prop) (QX : Xn → List Ob → Prop), ss.length = 2 → S_l_work ss T Q QX → B_l_work (endsOf T.length Q QX) (startD 2 2 ss T) := by
  intro ss T Q QX hl h
  obtain ⟨k, m, rfl, c, m0, m1, h⟩ := h
  unfold B_l_work
  walk_at "dl"
  refine ⟨k, _, rfl, c, by omega, by simp only [Int.reducePow]; omega, fun r T1 r0 r1 c1 => ?_⟩
  walk_at "dl"
  have k1 := c1.cart c
  refine ⟨by unfold CPow; decide, k, _, _, rfl, .inl rfl, k1, by simp, by simp, fun x T2 hx c2 => ?_⟩
  have k2 := c2.cart k1
  obtain ⟨w, rfl, w0, w1⟩ : ∃ n : Int, x = .int n ∧ 1 ≤ n ∧ n ≤ 1000000000000 := by
    simp only [List.mem_cons, List.not_mem_nil, or_false] at hx
    rcases hx with rfl | rfl | rfl
    all_goals exact ⟨_, rfl, by decide, by decide⟩
  walk_at "dl"
  refine ⟨k, m, w, rfl, k2, m0, m1, w0, w1, fun rs T3 hr ok c3 => ?_⟩
  walk_at "dl"
  rw [take_len ((c1.trans c2).trans c3).len]
  exact h (1 + r) rs T3 (by omega) (by omega) hr ok ((c1.trans c2).trans c3)
/-- the places of rooms -/
def atL (g : Int) : Nat → List Int → List Int
  | _, [] => []
  | i, x :: r => (x + (i : Int) * g) :: atL g (i + 1) r
theorem atL_len (g : Int) : ∀ (xs : List Int) (i : Nat), (atL g i xs).length = xs.length
  | [], _ => rfl
  | _ :: r, i => congrArg (· + 1) (atL_len g r (i + 1))
def atD (g : Int) (d : D) : Option D := match d with
  | .tup [.int i, .int x] => some (.int (x + i * g))
  | _ => none
theorem atD_enum (g : Int) : ∀ (xs : List Int) (i : Nat), (enumD i (xs.map .int)).filterMap (atD g) = (atL g i xs).map .int
  | [], _ => rfl
  | x :: r, i => by
    show (D.tup [.int i, .int x] :: enumD (i + 1) (r.map .int)).filterMap (atD g) = _
    rw [List.filterMap_cons, atD_enum g r (i + 1)]
    rfl
theorem enum_mem : ∀ (xs : List Int) (n : Nat) (d : D), d ∈ enumD n (xs.map .int) → ∃ (i : Nat) (x : Int), d = .tup [.int i, .int x] ∧ i < n + xs.length
  | [], _, d, h => by simp [enumD] at h
  | x :: xs, n, d, h => by
    rcases List.mem_cons.mp h with rfl | h
    · exact ⟨n, x, rfl, by simp⟩
    · obtain ⟨i, y, e, l⟩ := enum_mem xs (n + 1) d h
      exact ⟨i, y, e, by simp at l ⊢; omega⟩
/-- slots: 0 _law_gap, 1 _law_rooms_here, 2 _law_at_here, 3 _law_room -/
def B_l_at : DS :=
  (sRet (dDat (dCB gTuple (dCons (dDat (dComp (dEnum (dCons (dDat (dVar 1)) dNil)) (gTp 2 (gCs (gNm 2) (gCs (gNm 3) gNl))) dYes (dBin gAdd (dVar 3) (dBin gMulB (dVar 2) (dVar 0))) [2, 3])) dNil))))
def S_l_at : DF := fun ss T Q _ => ∃ (g : Int) (xs : List Int), ss = [.dat (.int g), .dat (tupI xs)] ∧ g.natAbs < 2 ^ 200 ∧ xs.length ≤ 1000 ∧ Q (.dat (tupI (atL g 0 xs))) T
theorem h_l_at : ∀ (ss : List Sl) (T : List Ob) (Q : Sl → List Ob → Prop) (QX : Xn → List Ob → Prop), ss.length = 2 → S_l_at ss T Q QX → B_l_at (endsOf T.length Q QX) (startD 4 2 ss T) := by
  intro ss T Q QX hl h
  obtain ⟨g, xs, rfl, hg, hx, h⟩ := h
  unfold B_l_at
  walk_at "dl"
  rw [dComp_eq]
  walk_at "dl"
  refine compK_pure (atD g) [some (.dat (.int g)), some (.dat (tupI xs)), none, none] rfl rfl rfl (by rw [enumD_len, List.length_map, sizeLine_eq]; omega) ?_ ?_
  · intro d hd acc R hR
    obtain ⟨i, x, rfl, hi⟩ := enum_mem _ _ _ hd
    walk_at "dl"
    exact ⟨cmulW (by omega) (by omega), hR _ rfl⟩
  · walk_at "dl"
    rw [atD_enum]
    exact h
end DL
set_option Elab.async false
set_option linter.all false
set_option maxRecDepth 100000
set_option maxHeartbeats 4000000
set_option autoImplicit false
/-! Law k17: errors and their classes. -/
namespace DL
open PySem PySem.Spec PyProof.Rows L2
local macro_rules | `(tactic| walk_at "dl") => `(tactic| (try simp only [sSeq, sSet, sRet, sRetN, sIf, sNil, sDrop, sFor, sTo, sPar2, sPar3, sNever, sRaise, sSetIx, dVar, dC, dVarL, dDat, dVal, valK_dat, valK_ob, dBin, dUn, dNil, dCons, dats, dTup, dLst, dNew, dNewOf, dTest, dtAnd, dtOr, dtNot, dAnd, dOr, dNot, dIf, dChain, dCB, dSl, dNo, dSo, sApp, dIxO, dLenO, dMaxD, dGetP, dCall, dSeq, dRng1, dRng2, dZip, dEnum, gNm, gTp, gCs, gNl, dYes,
  startD, endsOf, retD, wipeS, gAdd, gSub, gMul, gMulA, gMulB, gDiv, gMod, gPow, gNeg, gLt, gLe, gGt, gGe, gEq, gNe, gIn, gIx, gSl, gIsi, tyD, isiD, gLen, gAbs, gInt, gMax2, gMin2, gTuple, gList, gIsN, isNon, gIsB, gNotB,
  List.getElem?_cons_zero, List.getElem?_cons_succ, List.getElem?_nil, List.set_cons_zero, List.set_cons_succ, List.map_cons, List.map_nil, List.cons_append, List.nil_append, List.length_cons, List.length_nil, List.replicate_succ, List.replicate_zero, Option.map_some, Nat.reduceSub, Nat.reduceAdd, Nat.reduceLeDiff,
  List.take_length, beq_self_eq_true, String.reduceBEq, Bool.or_true, Bool.true_or, Bool.or_false, Bool.false_or, Bool.and_true, Bool.and_false, Bool.true_and, Bool.false_and, Bool.or_self, Bool.and_self, decide_true, decide_false, dmem, List.any_cons, List.any_nil, okd_non, okd_bl, okd_int, okd_str, okds_nil, okds_cons, okd_60t, okd_59t, okd_58t, okd_60l, okd_59l, okd_58l, st_tk, st_tb, st_tf, st_kt, st_kb, st_kf, st_bt, st_bk, st_bf, st_ft, st_fk, st_fb, nat_num, Int.reduceBEq, Int.reduceBNe, Int.reduceEq, Int.reduceLT, Int.reduceLE, Int.reduceAdd, Int.reduceSub, Int.reduceMul, Int.reduceNeg, Int.reduceToNat, Int.reducePow, atI_0, atI_1, atI_2, set_last, get_last, take_last, deq_str, deq_int, deq_non, deq_bl, deq_tt, deq_ll, deqs_nn, deqs_cc, deqs_nc, deqs_cn, Nat.lt_irrefl, List.set_set, ixN_20, ixN_21, tupI, okds_ints, atI_map', List.length_map, cutL_map, eq_self, if_true, if_false, ite_true, ite_false, Bool.false_eq_true, decide_eq_true_eq, true_and, and_true, and_self, Bool.not_true, Bool.not_false, true_or, or_true, false_or, or_false, Option.some.injEq, reduceCtorEq]))
theorem range_mem {lo hi : Int} {d : D} (h : d ∈ rangeD lo hi) : ∃ i : Int, d = .int i ∧ lo ≤ i ∧ i < hi := by
  obtain ⟨k, hk, rfl⟩ := List.mem_map.mp h
  rw [List.mem_range] at hk
  exact ⟨_, rfl, by omega, by omega⟩
abbrev dsl (x : Option D) : Option Sl := x.map .dat
def kindsB (n : Str) : List Bool := errN.tail.map (isaN n)
theorem deqs_bls : ∀ l : List Bool, deqs (l.map .bl) (l.map .bl) = true
  | [] => by simp [deqs_nn]
  | b :: l => by simp [deqs_cc, deq_bl, deqs_bls l]
theorem okds_bls (n : Nat) : ∀ l : List Bool, okds n (l.map .bl) = true
  | [] => okds_nil n
  | b :: l => by rw [List.map_cons, okds_cons, okd_bl, okds_bls n l]; rfl
/-- slots: 0 _law_e, 1 _law_told -/
def B_l_kinds : DS :=
  (sSeq (sSet 1 (dDat (dLst (dCons (dDat (dCB (gIsE errN) (dCons (dDat (dVar 0)) (dCons (dDat (dC (.fn "InvalidDrill"))) dNil)))) (dCons (dDat (dCB (gIsE errN) (dCons (dDat (dVar 0)) (dCons (dDat (dC (.fn "InvalidBeginning"))) dNil)))) (dCons (dDat (dCB (gIsE errN) (dCons (dDat (dVar 0)) (dCons (dDat (dC (.fn "InvalidMany"))) dNil)))) dNil))))))
  (sSeq (sSet 1 (dDat (dBin gAdd (dVar 1) (dLst (dCons (dDat (dCB (gIsE errN) (dCons (dDat (dVar 0)) (dCons (dDat (dC (.fn "InvalidSheep"))) dNil)))) (dCons (dDat (dCB (gIsE errN) (dCons (dDat (dVar 0)) (dCons (dDat (dC (.fn "InvalidPlace"))) dNil)))) (dCons (dDat (dCB (gIsE errN) (dCons (dDat (dVar 0)) (dCons (dDat (dC (.fn "InvalidRun"))) dNil)))) dNil)))))))
  (sSeq (sSet 1 (dDat (dBin gAdd (dVar 1) (dLst (dCons (dDat (dCB (gIsE errN) (dCons (dDat (dVar 0)) (dCons (dDat (dC (.fn "InvalidIndex"))) dNil)))) (dCons (dDat (dCB (gIsE errN) (dCons (dDat (dVar 0)) (dCons (dDat (dC (.fn "Unlike"))) dNil)))) (dCons (dDat (dCB (gIsE errN) (dCons (dDat (dVar 0)) (dCons (dDat (dC (.fn "NothingToUndo"))) dNil)))) dNil)))))))
  (sSeq (sSet 1 (dDat (dBin gAdd (dVar 1) (dLst (dCons (dDat (dCB (gIsE errN) (dCons (dDat (dVar 0)) (dCons (dDat (dC (.fn "TooMany"))) dNil)))) (dCons (dDat (dCB (gIsE errN) (dCons (dDat (dVar 0)) (dCons (dDat (dC (.fn "InvalidText"))) dNil)))) dNil))))))
  (sRet (dDat (dIf (dtAnd (dTest (dCB (gIsE errN) (dCons (dDat (dVar 0)) (dCons (dDat (dC (.fn "DogError"))) dNil)))) (dTest (dCB (gIsE errN) (dCons (dDat (dVar 0)) (dCons (dDat (dC (.raw (.ty "ValueError")))) dNil))))) (dVar 1) (dLst dNil))))))))
def S_l_kinds : DF := fun ss T Q _ => ∃ (n : Str) (f : Option (Str × Int)), ss = [.dat (.err n f)] ∧ errN.contains n = true ∧ Q (.dat (.lst ((kindsB n).map .bl))) T
theorem h_l_kinds : ∀ (ss : List Sl) (T : List Ob) (Q : Sl → List Ob → Prop) (QX : Xn → List Ob → Prop), ss.length = 1 → S_l_kinds ss T Q QX → B_l_kinds (endsOf T.length Q QX) (startD 2 1 ss T) := by
  intro ss T Q QX hl h
  obtain ⟨n, f, rfl, hn, h⟩ := h
  have hd : isaN n "DogError" = true := by simp [isaN]
  unfold B_l_kinds
  walk_at "dl"
  simp only [gIsE, hn, hd, if_true, true_and]
  repeat (first | (refine And.intro (by decide) ?_) | (refine And.intro (by rw [sizeLine_eq]; decide) ?_))
  exact h
/-- the error at a place of the law's list -/
def nmE (j : Nat) : Str := errN.getD (j + 1) ""
theorem kinds_at : ∀ j : Fin 11, kindsB (nmE j) = (List.range 11).map fun o => decide (j.val = o) := by decide
theorem nm_in : ∀ j : Fin 11, errN.contains (nmE j) = true := by decide
def madeD (m : Int) : List D := [.err "InvalidDrill" none, .err "InvalidBeginning" none, .err "InvalidMany" none, .err "InvalidSheep" none, .err "InvalidPlace" none, .err "InvalidRun" none, .err "InvalidIndex" none, .err "Unlike" none, .err "NothingToUndo" none, .err "TooMany" (some ("limit", m)), .err "InvalidText" (some ("line", m))]
theorem made_at (m : Int) : ∀ d ∈ enumD 0 (madeD m), ∃ (j : Fin 11) (f : Option (Str × Int)), d = .tup [.int ((j.val : Nat) : Int), .err (nmE j.val) f] := by
  intro d hd
  obtain ⟨n, hn⟩ := List.getElem?_of_mem hd
  obtain ⟨x, hx, rfl⟩ := enumD_get _ _ _ _ hn
  have hl : n < 11 := (List.getElem?_eq_some_iff.mp hx).1
  refine ⟨⟨n, hl⟩, ?_⟩
  rw [Nat.zero_add]
  have : n = 0 ∨ n = 1 ∨ n = 2 ∨ n = 3 ∨ n = 4 ∨ n = 5 ∨ n = 6 ∨ n = 7 ∨ n = 8 ∨ n = 9 ∨ n = 10 := by omega
  rcases this with rfl | rfl | rfl | rfl | rfl | rfl | rfl | rfl | rfl | rfl | rfl <;> (cases hx; exact ⟨_, rfl⟩)
/-- slots: 0 _law_script, 1 _law_k, 2 _law_cart, 3 _law_made, 4 _law_word, 5 _law_number, 6 _law_at, 7 _law_e, 8 _law_other -/
def B_law : DS :=
  (sSeq (sFor (dRng1 (dCons (dDat (dBin gAdd (dC (.int 1)) (dCB gMin2 (dCons (dDat (dCB gLen (dCons (dDat (dVar 0)) dNil))) (dCons (dDat (dC (.int 3))) dNil))))) dNil)) (gNm 1) (sSeq (sSet 2 (dCall 2 S_l_cart_of (dCons (dDat (dVar 0)) (dCons (dDat (dVar 1)) dNil))))
  (sSeq (sPar2 4 5 (dDat (dVal (dCall 2 S_l_any (dCons (dVarL 2) (dCons (dDat (dLst (dCons (dDat (dC (.str "a"))) (dCons (dDat (dC (.str ""))) (dCons (dDat (dC (.str "no word"))) (dCons (dDat (dC (.str "gap"))) dNil)))))) dNil))))) (dDat (dVal (dCall 2 S_l_take (dCons (dVarL 2) (dCons (dDat (dC (.int 1000))) dNil))))))
  (sSeq (sSet 3 (dDat (dLst (dCons (dDat (dErr "InvalidDrill" (dVar 4))) (dCons (dDat (dErr "InvalidBeginning" (dVar 4))) (dCons (dDat (dErr "InvalidMany" (dVar 4))) (dCons (dDat (dErr "InvalidSheep" (dVar 4))) dNil)))))))
  (sSeq (sSet 3 (dDat (dBin gAdd (dVar 3) (dLst (dCons (dDat (dErr "InvalidPlace" (dVar 4))) (dCons (dDat (dErr "InvalidRun" (dVar 4))) (dCons (dDat (dErr "InvalidIndex" (dVar 4))) (dCons (dDat (dErr "Unlike" (dVar 4))) dNil))))))))
  (sSeq (sSet 3 (dDat (dBin gAdd (dVar 3) (dLst (dCons (dDat (dErr "NothingToUndo" (dVar 4))) (dCons (dDat (dErf "TooMany" "limit" (dVar 5))) (dCons (dDat (dErf "InvalidText" "line" (dVar 5))) dNil)))))))
  (sSeq (sFor (dEnum (dCons (dDat (dVar 3)) dNil)) (gTp 2 (gCs (gNm 6) (gCs (gNm 7) gNl))) (sIf (dTest (dBin gNe (dVal (dCall 1 S_l_kinds (dCons (dDat (dVar 7)) dNil))) (dComp (dRng1 (dCons (dDat (dC (.int 11))) dNil)) (gNm 8) dYes (dBin gEq (dVar 6) (dVar 8)) [8]))) (sRet (dDat (dC (.bl false)))) sNil))
  (sSeq (sIf (dtOr (dTest (dBin gNe (dFld fldN "limit" (dBin gIx (dVar 3) (dC (.int 9)))) (dVar 5))) (dTest (dBin gNe (dFld fldN "line" (dBin gIx (dVar 3) (dC (.int 10)))) (dVar 5)))) (sRet (dDat (dC (.bl false)))) sNil)
  (sIf (dTest (dBin gNe (dVal (dCall 1 S_l_kinds (dCons (dDat (dErr "DogError" (dVar 4))) dNil))) (dBin gMulB (dLst (dCons (dDat (dC (.bl false))) dNil)) (dC (.int 11))))) (sRet (dDat (dC (.bl false)))) sNil)))))))))
  (sRet (dDat (dC (.bl true)))))
def S_law : DF := fun ss T Q _ => ∃ ns : List Int, ss = [.dat (.scr ns)] ∧ ns.length ≤ 63 ∧ ∀ T', Q (.dat (.bl true)) T'
theorem h_law : ∀ (ss : List Sl) (T : List Ob) (Q : Sl → List Ob → Prop) (QX : Xn → List Ob → Prop), ss.length = 1 → S_law ss T Q QX → B_law (endsOf T.length Q QX) (startD 9 1 ss T) := by
  intro ss T Q QX hl h
  obtain ⟨ns, rfl, hn, h⟩ := h
  unfold B_law
  walk_at "dl"
  refine ⟨by split <;> omega, ?_⟩
  refine loop_inv (fun ds ρ => (∀ d ∈ ds, ∃ i : Int, d = .int i ∧ 0 ≤ i ∧ i < 9) ∧ ∃ (T' : List Ob) (x2 : Option Sl) (x1 x3 x4 x5 x6 x7 x8 : Option D), ρ = ⟨T', [some (.dat (.scr ns)), dsl x1, x2, dsl x3, dsl x4, dsl x5, dsl x6, dsl x7, dsl x8]⟩) ?_ ?_ _ _ ?_
  · rintro d ds ρ ⟨hd, T', x2, x1, x3, x4, x5, x6, x7, x8, rfl⟩ N hN
    have hd' := hd
    obtain ⟨i, rfl, i0, i9⟩ := hd d (by simp)
    walk_at "dl"
    refine ⟨ns, i, rfl, i0, by omega, by omega, fun a b ok => ?_⟩
    have k1 : Cart (T' ++ [CartV a b]) T'.length := ⟨a, b, get_last _ _, ok⟩
    generalize hk : T'.length = k at *
    walk_at "dl"
    refine ⟨k, _, _, rfl, .inl rfl, k1, by simp, by simp, fun x T3 hx c3 => ?_⟩
    have k3 := c3.cart k1
    obtain ⟨w, rfl⟩ : ∃ w : Str, x = .str w := by
      simp only [List.mem_cons, List.not_mem_nil, or_false] at hx
      rcases hx with rfl | rfl | rfl | rfl <;> exact ⟨_, rfl⟩
    walk_at "dl"
    refine ⟨k, 1000, rfl, k3, by decide, by decide, fun m T4 m0 m1 c4 => ?_⟩
    walk_at "dl"
    simp only [dErr]
    walk_at "dl"
    refine ⟨by rw [sizeLine_eq]; decide, ?_⟩
    simp only [dErf]
    walk_at "dl"
    refine ⟨by rw [sizeLine_eq]; decide, ?_⟩
    have k4 := c4.cart k3
    refine loop_inv (fun ds ρ => (∀ d ∈ ds, ∃ (j : Fin 11) (f : Option (Str × Int)), d = .tup [.int ((j.val : Nat) : Int), .err (nmE j.val) f]) ∧ ∃ y6 y7 y8, ρ = ⟨T4, [some (.dat (.scr ns)), some (.dat (.int i)), some (.ob k), some (.dat (.lst (madeD m))), some (.dat (.str w)), some (.dat (.int m)), dsl y6, dsl y7, dsl y8]⟩) ?_ ?_ _ _ ⟨made_at m, _, _, _, rfl⟩
    · rintro d es ρ ⟨he, y6, y7, y8, rfl⟩ N' hN'
      have he' := he
      obtain ⟨j, f, rfl⟩ := he d (by simp)
      walk_at "dl"
      refine ⟨nmE j.val, f, rfl, nm_in j, ?_⟩
      walk_at "dl"
      rw [dComp_eq]
      walk_at "dl"
      refine compK_pure (fun d => some (.bl (deq (.int ((j.val : Nat) : Int)) d))) [some (.dat (.scr ns)), some (.dat (.int i)), some (.ob k), some (.dat (.lst (madeD m))), some (.dat (.str w)), some (.dat (.int m)), some (.dat (.int ((j.val : Nat) : Int))), some (.dat (.err (nmE j.val) f)), none] rfl rfl ?_ (by rw [rangeD_len, sizeLine_eq]; decide) ?_ ?_
      · have := k4.lt
        simpa [lowS] using this
      · intro d hd acc R hR'
        obtain ⟨o, rfl, o0, o1⟩ := range_mem hd
        walk_at "dl"
        exact hR' _ rfl
      rw [kinds_at j, show (rangeD 0 11).filterMap (fun d => some (D.bl (deq (.int ((j.val : Nat) : Int)) d))) = ((List.range 11).map fun o => decide (j.val = o)).map .bl by
        rw [rangeD, List.filterMap_map, List.map_map]
        rw [show (fun d => some (D.bl (deq (D.int ↑↑j) d))) ∘ (fun k : Nat => D.int (0 + (k : Int))) = fun k : Nat => some (D.bl (decide (j.val = k))) by
          funext o
          simp only [Function.comp, deq_int]
          congr 2
          rw [Bool.eq_iff_iff]
          simp
          omega]
        simp [List.filterMap_eq_map]]
      walk_at "dl"
      refine ⟨okds_bls _ _, okds_bls _ _, ?_⟩
      rw [deqs_bls]
      walk_at "dl"
      exact hN' _ ⟨fun d hd' => he' d (by simp [hd']), some _, some _, none, rfl⟩
    · rintro ρ ⟨he, y6, y7, y8, rfl⟩
      walk_at "dl"
      simp only [dFld]
      walk_at "dl"
      rw [show atI (madeD m) 9 = some (.err "TooMany" (some ("limit", m))) from rfl]
      walk_at "dl"
      refine ⟨by decide, ?_⟩
      rw [show atI (madeD m) 10 = some (.err "InvalidText" (some ("line", m))) from rfl]
      walk_at "dl"
      refine ⟨by decide, ?_⟩
      walk_at "dl"
      try simp only [dErr]
      walk_at "dl"
      refine ⟨"DogError", none, rfl, by decide, ?_⟩
      walk_at "dl"
      have e1 : ([[D.bl false], [D.bl false], [D.bl false], [D.bl false], [D.bl false], [D.bl false], [D.bl false], [D.bl false], [D.bl false], [D.bl false], [D.bl false]] : List (List D)).flatten = (kindsB "DogError").map .bl := rfl
      rw [e1]
      refine ⟨okds_bls _ _, okds_bls _ _, ?_⟩
      rw [deqs_bls]
      walk_at "dl"
      exact hN _ ⟨fun d hd' => hd d (by simp [hd']), T4, some (.ob k), some (.int i), some (.lst (madeD m)), some (.str w), some (.int m), y6, y7, y8, rfl⟩
  · rintro ρ ⟨hd, T', x2, x1, x3, x4, x5, x6, x7, x8, rfl⟩
    walk_at "dl"
    exact h _
  · refine ⟨fun d hd => ?_, T, none, none, none, none, none, none, none, none, rfl⟩
    obtain ⟨i, rfl, i0, i1⟩ := range_mem hd
    refine ⟨i, rfl, i0, ?_⟩
    split at i1 <;> omega
end DL
set_option Elab.async false
set_option linter.all false
set_option maxRecDepth 100000
set_option maxHeartbeats 4000000
set_option autoImplicit false
/-! The program's text keeps what the data level promises. -/
namespace DL
open PySem PySem.Spec PyProof.Rows L2
def topS (i : Nat) : Stmt := PySem.Challenge.pw_dogruns_k17_errors_and_their_classes.main.body.getD i (.Pass ⟨0, 0, 0, 0⟩)
theorem exm_mk {K : PySem.W.Frag} {cls : Value} {C : Addr} {b : Bool} (h1 : PySem.W.subIn K (.ref C) (.type "BaseException") = some true) (h2 : PySem.W.isClsIn K C = true) (h3 : PySem.W.typeIn K (.ref C) = some (.type "type")) (h4 : PySem.W.subIn K cls (.ref C) = some b) : PySem.W.exmOne K cls (.ref C) = some b := by
  unfold PySem.W.exmOne
  rw [h1, if_pos (by decide)]
  show (if ((PySem.W.clsIn K C).isSome && PySem.W.typeIn K (.ref C) == some (.type "type")) = true then PySem.W.subIn K cls (.ref C) else none) = some b
  rw [show (PySem.W.clsIn K C).isSome = true from h2, h3, if_pos (by decide)]
  exact h4
theorem tab_mk {K : PySem.W.Frag} {x : Str} {f c P : Addr} {oc oc2 : Value} {od od2 : Option Addr} {fd : FuncData} {sl sl2 : Array (Option Value)} {vs : Array Value} (h1 : PySem.W.nsIn K mainGlobals x = some (some (.ref f))) (h2 : K.lookup f = some ⟨oc, od, .func fd, sl⟩) (h3 : fd.code = .ref c) (h4 : K.lookup c = some ⟨oc2, od2, .fields vs, sl2⟩) (h5 : vs[11]? = some (.ref P)) : PySem.W.tabIn K x = some (c, P) := by
  unfold PySem.W.tabIn
  simp only [h1, h2, h3, h4, h5]
theorem tab_no {K : PySem.W.Frag} {x : Str} (h : PySem.W.nsIn K mainGlobals x = some none) : PySem.W.tabIn K x = none := by
  unfold PySem.W.tabIn
  simp only [h]
abbrev s_l_cart_of : Stmt := topS 14
theorem sc_l_cart_of : FnScope ["_law_script", "_law_k", "_law_cell"] ["_law_script", "_law_k"] (defScope s_l_cart_of) := ⟨rfl, rfl, rfl, by decide +kernel, rfl, by decide +kernel, by decide +kernel⟩
abbrev s_l_take : Stmt := topS 15
theorem sc_l_take : FnScope ["_law_cart", "_law_many", "_law_found", "_law_wide"] ["_law_cart", "_law_many"] (defScope s_l_take) := ⟨rfl, rfl, rfl, by decide +kernel, rfl, by decide +kernel, by decide +kernel⟩
abbrev s_l_any : Stmt := topS 16
theorem sc_l_any : FnScope ["_law_cart", "_law_things"] ["_law_cart", "_law_things"] (defScope s_l_any) := ⟨rfl, rfl, rfl, by decide +kernel, rfl, by decide +kernel, by decide +kernel⟩
abbrev s_l_kinds : Stmt := topS 17
theorem sc_l_kinds : FnScope ["_law_e", "_law_told"] ["_law_e"] (defScope s_l_kinds) := ⟨rfl, rfl, rfl, by decide +kernel, rfl, by decide +kernel, by decide +kernel⟩
abbrev s_law : Stmt := topS 18
theorem sc_law : FnScope ["_law_script", "_law_k", "_law_cart", "_law_made", "_law_word", "_law_number", "_law_at", "_law_e", "_law_other"] ["_law_script"] (defScope s_law) := ⟨rfl, rfl, rfl, by decide +kernel, rfl, by decide +kernel, by decide +kernel⟩
abbrev s_ini_TooMany : Stmt := match topS 11 with
  | .ClassDef _ _ _ b _ _ _ _ _ _ _ => b.getD 0 (.Pass ⟨0, 0, 0, 0⟩)
  | _ => .Pass ⟨0, 0, 0, 0⟩
theorem sc_ini_TooMany : FnScope ["self", "limit"] ["self", "limit"] (defScope s_ini_TooMany) := ⟨rfl, rfl, rfl, by decide +kernel, rfl, by decide +kernel, by decide +kernel⟩
abbrev s_ini_InvalidText : Stmt := match topS 12 with
  | .ClassDef _ _ _ b _ _ _ _ _ _ _ => b.getD 0 (.Pass ⟨0, 0, 0, 0⟩)
  | _ => .Pass ⟨0, 0, 0, 0⟩
theorem sc_ini_InvalidText : FnScope ["self", "line"] ["self", "line"] (defScope s_ini_InvalidText) := ⟨rfl, rfl, rfl, by decide +kernel, rfl, by decide +kernel, by decide +kernel⟩
structure Md (K : PySem.W.Frag) (mg : Str → Option Value) where
  f_l_cart_of : Addr
  d_l_cart_of : FuncData
  F_l_cart_of : Fun K "_law_cart_of" "_law_cart_of" s_l_cart_of f_l_cart_of d_l_cart_of
  g_l_cart_of : mg "_law_cart_of" = some (.ref f_l_cart_of)
  n_l_cart_of : PySem.W.nsIn K mainGlobals "_law_cart_of" = some (some (.ref f_l_cart_of))
  b_l_cart_of : Binds K d_l_cart_of ["_law_script", "_law_k"] []
  f_l_take : Addr
  d_l_take : FuncData
  F_l_take : Fun K "_law_take" "_law_take" s_l_take f_l_take d_l_take
  g_l_take : mg "_law_take" = some (.ref f_l_take)
  n_l_take : PySem.W.nsIn K mainGlobals "_law_take" = some (some (.ref f_l_take))
  b_l_take : Binds K d_l_take ["_law_cart", "_law_many"] []
  f_l_any : Addr
  d_l_any : FuncData
  F_l_any : Fun K "_law_any" "_law_any" s_l_any f_l_any d_l_any
  g_l_any : mg "_law_any" = some (.ref f_l_any)
  n_l_any : PySem.W.nsIn K mainGlobals "_law_any" = some (some (.ref f_l_any))
  b_l_any : Binds K d_l_any ["_law_cart", "_law_things"] []
  f_l_kinds : Addr
  d_l_kinds : FuncData
  F_l_kinds : Fun K "_law_kinds" "_law_kinds" s_l_kinds f_l_kinds d_l_kinds
  g_l_kinds : mg "_law_kinds" = some (.ref f_l_kinds)
  n_l_kinds : PySem.W.nsIn K mainGlobals "_law_kinds" = some (some (.ref f_l_kinds))
  b_l_kinds : Binds K d_l_kinds ["_law_e"] []
  f_law : Addr
  d_law : FuncData
  F_law : Fun K "law" "law" s_law f_law d_law
  g_law : mg "law" = some (.ref f_law)
  n_law : PySem.W.nsIn K mainGlobals "law" = some (some (.ref f_law))
  b_law : Binds K d_law ["_law_script"] []
  C_InvalidDrill : Addr
  e_InvalidDrill : ExcC K mg "InvalidDrill" C_InvalidDrill
  C_InvalidBeginning : Addr
  e_InvalidBeginning : ExcC K mg "InvalidBeginning" C_InvalidBeginning
  C_InvalidMany : Addr
  e_InvalidMany : ExcC K mg "InvalidMany" C_InvalidMany
  C_InvalidSheep : Addr
  e_InvalidSheep : ExcC K mg "InvalidSheep" C_InvalidSheep
  C_InvalidPlace : Addr
  e_InvalidPlace : ExcC K mg "InvalidPlace" C_InvalidPlace
  C_InvalidRun : Addr
  e_InvalidRun : ExcC K mg "InvalidRun" C_InvalidRun
  C_InvalidIndex : Addr
  e_InvalidIndex : ExcC K mg "InvalidIndex" C_InvalidIndex
  C_Unlike : Addr
  e_Unlike : ExcC K mg "Unlike" C_Unlike
  C_NothingToUndo : Addr
  e_NothingToUndo : ExcC K mg "NothingToUndo" C_NothingToUndo
  C_DogError : Addr
  e_DogError : ExcC K mg "DogError" C_DogError
  C_TooMany : Addr
  C_InvalidText : Addr
  c_TooMany : mg "TooMany" = some (.ref C_TooMany)
  n_TooMany : PySem.W.nsIn K mainGlobals "TooMany" = some (some (.ref C_TooMany))
  c_InvalidText : mg "InvalidText" = some (.ref C_InvalidText)
  n_InvalidText : PySem.W.nsIn K mainGlobals "InvalidText" = some (some (.ref C_InvalidText))
  T_TooMany : OexC K C_TooMany
  I_TooMany : Addr
  iC_TooMany : PySem.W.findIn K (.ref C_TooMany) "__init__" = some (some (.ref I_TooMany))
  tI_TooMany : PySem.W.typeIn K (.ref I_TooMany) = some (.type "function")
  (oi1_TooMany oi2_TooMany oi3_TooMany oi4_TooMany oi5_TooMany oi6_TooMany : Value)
  (ui1_TooMany ui2_TooMany : Option Addr)
  usi_TooMany : Array (Option Value)
  lkI_TooMany : K.lookup I_TooMany = some ⟨oi1_TooMany, ui1_TooMany, .func (PySem.W.fnOf "__init__" "TooMany.__init__" (defArgs s_ini_TooMany) (defBody s_ini_TooMany) (defScope s_ini_TooMany) .none oi2_TooMany oi3_TooMany oi4_TooMany ui2_TooMany oi5_TooMany oi6_TooMany), usi_TooMany⟩
  cdI_TooMany : PySem.W.codeIn K oi5_TooMany "TooMany.__init__" = true
  no_TooMany : PySem.W.findIn K (.ref C_TooMany) "limit" = some none
  bI_TooMany : Binds K (PySem.W.fnOf "__init__" "TooMany.__init__" (defArgs s_ini_TooMany) (defBody s_ini_TooMany) (defScope s_ini_TooMany) .none oi2_TooMany oi3_TooMany oi4_TooMany ui2_TooMany oi5_TooMany oi6_TooMany) ["self", "limit"] []
  T_InvalidText : OexC K C_InvalidText
  I_InvalidText : Addr
  iC_InvalidText : PySem.W.findIn K (.ref C_InvalidText) "__init__" = some (some (.ref I_InvalidText))
  tI_InvalidText : PySem.W.typeIn K (.ref I_InvalidText) = some (.type "function")
  (oi1_InvalidText oi2_InvalidText oi3_InvalidText oi4_InvalidText oi5_InvalidText oi6_InvalidText : Value)
  (ui1_InvalidText ui2_InvalidText : Option Addr)
  usi_InvalidText : Array (Option Value)
  lkI_InvalidText : K.lookup I_InvalidText = some ⟨oi1_InvalidText, ui1_InvalidText, .func (PySem.W.fnOf "__init__" "InvalidText.__init__" (defArgs s_ini_InvalidText) (defBody s_ini_InvalidText) (defScope s_ini_InvalidText) .none oi2_InvalidText oi3_InvalidText oi4_InvalidText ui2_InvalidText oi5_InvalidText oi6_InvalidText), usi_InvalidText⟩
  cdI_InvalidText : PySem.W.codeIn K oi5_InvalidText "InvalidText.__init__" = true
  no_InvalidText : PySem.W.findIn K (.ref C_InvalidText) "line" = some none
  bI_InvalidText : Binds K (PySem.W.fnOf "__init__" "InvalidText.__init__" (defArgs s_ini_InvalidText) (defBody s_ini_InvalidText) (defScope s_ini_InvalidText) .none oi2_InvalidText oi3_InvalidText oi4_InvalidText ui2_InvalidText oi5_InvalidText oi6_InvalidText) ["self", "line"] []
  B_DogError : BaseC K mg "DogError" C_DogError
  EA : ErrAll K errN
  FA : ∀ q ∈ fldN, ∀ C, PySem.W.nsIn K mainGlobals q.1 = some (some (.ref C)) → XfC K C ∧ PySem.W.findIn K (.ref C) q.2 = some none
  z_ValueError : mg "ValueError" = none
  z_abs : mg "abs" = none
  z_enumerate : mg "enumerate" = none
  z_int : mg "int" = none
  z_isinstance : mg "isinstance" = none
  z_len : mg "len" = none
  z_min : mg "min" = none
  z_range : mg "range" = none
section
variable {P : Program} {w : World} {K : PySem.W.Frag} {mg : Str → Option Value} {base : Heap}
theorem ok_ini_TooMany (M : Md K mg) : FnOk P w K mg base (L2.CX P w) 1 M.I_TooMany (PySem.W.fnOf "__init__" "TooMany.__init__" (defArgs s_ini_TooMany) (defBody s_ini_TooMany) (defScope s_ini_TooMany) .none M.oi2_TooMany M.oi3_TooMany M.oi4_TooMany M.ui2_TooMany M.oi5_TooMany M.oi6_TooMany) ["self", "limit"] (spI "limit" M.C_TooMany) :=
  fn_ini M.lkI_TooMany M.cdI_TooMany sc_ini_TooMany rfl M.T_TooMany M.no_TooMany "too many calls" (fun A outer s H E hr => pss_cons (ps_expr (pe_baseinit M.B_DogError (pa_cons (pe_var rfl (by first | exact Or.inl rfl | exact Or.inr (Or.inl rfl))) (pa_cons pe_str pa_nil)))) (pss_one (ps_ost (pe_var rfl (by first | exact Or.inl rfl | exact Or.inr (Or.inl rfl))) (pe_var rfl (by first | exact Or.inl rfl | exact Or.inr (Or.inl rfl))))))
theorem ok_ini_InvalidText (M : Md K mg) : FnOk P w K mg base (L2.CX P w) 1 M.I_InvalidText (PySem.W.fnOf "__init__" "InvalidText.__init__" (defArgs s_ini_InvalidText) (defBody s_ini_InvalidText) (defScope s_ini_InvalidText) .none M.oi2_InvalidText M.oi3_InvalidText M.oi4_InvalidText M.ui2_InvalidText M.oi5_InvalidText M.oi6_InvalidText) ["self", "line"] (spI "line" M.C_InvalidText) :=
  fn_ini M.lkI_InvalidText M.cdI_InvalidText sc_ini_InvalidText rfl M.T_InvalidText M.no_InvalidText "no such text" (fun A outer s H E hr => pss_cons (ps_expr (pe_baseinit M.B_DogError (pa_cons (pe_var rfl (by first | exact Or.inl rfl | exact Or.inr (Or.inl rfl))) (pa_cons pe_str pa_nil)))) (pss_one (ps_ost (pe_var rfl (by first | exact Or.inl rfl | exact Or.inr (Or.inl rfl))) (pe_var rfl (by first | exact Or.inl rfl | exact Or.inr (Or.inl rfl))))))
theorem ok_l_cart_of (M : Md K mg) : FnOk P w K mg base (L2.CX P w) 1 M.f_l_cart_of M.d_l_cart_of ["_law_script", "_law_k"] (spD K 2 S_l_cart_of) :=
  fn_D M.F_l_cart_of sc_l_cart_of rfl (fun cdv A outer s H E hr => (dss_cons (ds_set 2 sc_l_cart_of.nd (dl_dat (de_bin op_addA g_add (de_bin op_mulB g_mulB de_int (de_var 1)) de_int)))
  (dss_cons (ds_if (dt_cmp op_lt g_lt (de_var 1) (de_len M.z_len (da_cons (dl_dat (de_var 0)) da_nil)) (nomark _)) (dss_one (ds_set 2 sc_l_cart_of.nd (dl_dat (de_bin op_mod g_mod (de_cb call_abs c_abs M.z_abs bt_abs (da_cons (dl_dat (de_cty call_int1 c_int M.z_int bt_int (da_cons (dl_dat (de_ix (de_var 0) (de_var 1))) da_nil))) da_nil)) (de_bin op_mulB g_mulB (de_bin op_mulB g_mulB (de_bin op_mulB g_mulB (de_bin op_pow g_pow de_int de_int) (de_bin op_pow g_pow de_int de_int)) (de_bin op_pow g_pow de_int de_int)) (de_bin op_pow g_pow de_int de_int)))))) (dss_one (ds_if (dt_cmp op_gt g_gt (de_len M.z_len (da_cons (dl_dat (de_var 0)) da_nil)) de_int (nomark _)) (dss_one (ds_set 2 sc_l_cart_of.nd (dl_dat (de_bin op_addA g_add (de_var 2) (de_bin op_mod g_mod (de_cb call_abs c_abs M.z_abs bt_abs (da_cons (dl_dat (de_cty call_int1 c_int M.z_int bt_int (da_cons (dl_dat (de_ix (de_var 0) de_int)) da_nil))) da_nil)) de_int))))) dss_nil)))
  (dss_one (ds_ret (dl_new (da_cons (dl_dat (de_if (dt_cmp op_ge g_ge (de_var 2) (de_bin op_pow g_pow de_int de_int) (nomark _)) (de_var 2) de_int)) (da_cons (dl_dat (de_bin op_addA g_add (de_bin op_mod g_mod (de_cty call_int1 c_int M.z_int bt_int (da_cons (dl_dat (de_bin op_addA g_add (de_bin op_addA g_add (de_bin op_mulB g_mulB (de_bin op_mod g_mod (de_var 2) de_int) de_int) (de_bin op_mulB g_mulB de_int (de_var 1))) de_int)) da_nil)) de_int) de_int)) da_nil)))))))) h_l_cart_of
theorem ok_l_take (M : Md K mg) : FnOk P w K mg base (L2.CX P w) 1 M.f_l_take M.d_l_take ["_law_cart", "_law_many"] (spD K 2 S_l_take) :=
  fn_D M.F_l_take sc_l_take rfl (fun cdv A outer s H E hr => (dss_cons (ds_if (dt_cmp op_gt g_gt (de_ixO 0 de_int) de_int (nomark _)) (dss_cons (ds_set 2 sc_l_take.nd (dl_dat (de_bin op_mod g_mod (de_cty call_int1 c_int M.z_int bt_int (da_cons (dl_dat (de_ixO 0 de_int)) da_nil)) (de_var 1))))
  (dss_cons (ds_setix 0 (de_bin op_fdivW g_div (de_ixO 0 de_int) (de_var 1)) de_int)
  (dss_one (ds_ret (dl_dat (de_var 2)))))) dss_nil)
  (dss_cons (ds_to (de_tup (da_cons (dl_dat de_int) (da_cons (dl_dat de_int) da_nil))) (dg_tup rfl (dgs_cons (dg_name 2 sc_l_take.nd) (dgs_cons (dg_name 3 sc_l_take.nd) dgs_nil))))
  (dss_cons (ds_while (passes_of rfl) (dw (dw_or (dt_cmp op_lt g_lt (de_var 3) (de_var 1) (nomark _)) (dw_or1 (dt_cmp (op_eqP hr.units) g_eq (de_var 3) de_int (nomark _))))) (dss_cons (ds_setix 0 (de_bin op_mod g_mod (de_cty call_int1 c_int M.z_int bt_int (da_cons (dl_dat (de_bin op_addA g_add (de_bin op_mulB g_mulB (de_ixO 0 de_int) de_int) de_int)) da_nil)) de_int) de_int)
  (dss_cons (ds_set 2 sc_l_take.nd (dl_dat (de_bin op_addA g_add (de_bin op_mulB g_mulB (de_var 2) de_int) (de_bin op_mod g_mod (de_cty call_int1 c_int M.z_int bt_int (da_cons (dl_dat (de_bin op_fdivW g_div (de_ixO 0 de_int) de_int)) da_nil)) de_int))))
  (dss_one (ds_set 3 sc_l_take.nd (dl_dat (de_bin op_mulB g_mulB (de_var 3) de_int)))))))
  (dss_one (ds_ret (dl_dat (de_bin op_mod g_mod (de_cty call_int1 c_int M.z_int bt_int (da_cons (dl_dat (de_var 2)) da_nil)) (de_var 1))))))))) h_l_take
theorem ok_l_kinds (M : Md K mg) : FnOk P w K mg base (L2.CX P w) 1 M.f_l_kinds M.d_l_kinds ["_law_e"] (spD K 1 S_l_kinds) :=
  fn_D M.F_l_kinds sc_l_kinds rfl (fun cdv A outer s H E hr => (dss_cons (ds_set 1 sc_l_kinds.nd (dl_dat (de_lst (da_cons (dl_dat (de_cb call_isX (c_isE M.EA) M.z_isinstance bt_isinstance (da_cons (dl_dat (de_var 0)) (da_cons (dl_dat (de_fn M.e_InvalidDrill.g M.e_InvalidDrill.n)) da_nil)))) (da_cons (dl_dat (de_cb call_isX (c_isE M.EA) M.z_isinstance bt_isinstance (da_cons (dl_dat (de_var 0)) (da_cons (dl_dat (de_fn M.e_InvalidBeginning.g M.e_InvalidBeginning.n)) da_nil)))) (da_cons (dl_dat (de_cb call_isX (c_isE M.EA) M.z_isinstance bt_isinstance (da_cons (dl_dat (de_var 0)) (da_cons (dl_dat (de_fn M.e_InvalidMany.g M.e_InvalidMany.n)) da_nil)))) da_nil))))))
  (dss_cons (ds_set 1 sc_l_kinds.nd (dl_dat (de_bin op_addA g_add (de_var 1) (de_lst (da_cons (dl_dat (de_cb call_isX (c_isE M.EA) M.z_isinstance bt_isinstance (da_cons (dl_dat (de_var 0)) (da_cons (dl_dat (de_fn M.e_InvalidSheep.g M.e_InvalidSheep.n)) da_nil)))) (da_cons (dl_dat (de_cb call_isX (c_isE M.EA) M.z_isinstance bt_isinstance (da_cons (dl_dat (de_var 0)) (da_cons (dl_dat (de_fn M.e_InvalidPlace.g M.e_InvalidPlace.n)) da_nil)))) (da_cons (dl_dat (de_cb call_isX (c_isE M.EA) M.z_isinstance bt_isinstance (da_cons (dl_dat (de_var 0)) (da_cons (dl_dat (de_fn M.e_InvalidRun.g M.e_InvalidRun.n)) da_nil)))) da_nil)))))))
  (dss_cons (ds_set 1 sc_l_kinds.nd (dl_dat (de_bin op_addA g_add (de_var 1) (de_lst (da_cons (dl_dat (de_cb call_isX (c_isE M.EA) M.z_isinstance bt_isinstance (da_cons (dl_dat (de_var 0)) (da_cons (dl_dat (de_fn M.e_InvalidIndex.g M.e_InvalidIndex.n)) da_nil)))) (da_cons (dl_dat (de_cb call_isX (c_isE M.EA) M.z_isinstance bt_isinstance (da_cons (dl_dat (de_var 0)) (da_cons (dl_dat (de_fn M.e_Unlike.g M.e_Unlike.n)) da_nil)))) (da_cons (dl_dat (de_cb call_isX (c_isE M.EA) M.z_isinstance bt_isinstance (da_cons (dl_dat (de_var 0)) (da_cons (dl_dat (de_fn M.e_NothingToUndo.g M.e_NothingToUndo.n)) da_nil)))) da_nil)))))))
  (dss_cons (ds_set 1 sc_l_kinds.nd (dl_dat (de_bin op_addA g_add (de_var 1) (de_lst (da_cons (dl_dat (de_cb call_isX (c_isE M.EA) M.z_isinstance bt_isinstance (da_cons (dl_dat (de_var 0)) (da_cons (dl_dat (de_fn M.c_TooMany M.n_TooMany)) da_nil)))) (da_cons (dl_dat (de_cb call_isX (c_isE M.EA) M.z_isinstance bt_isinstance (da_cons (dl_dat (de_var 0)) (da_cons (dl_dat (de_fn M.c_InvalidText M.n_InvalidText)) da_nil)))) da_nil))))))
  (dss_one (ds_ret (dl_dat (de_if (dw (dw_and (dt_of (de_cb call_isX (c_isE M.EA) M.z_isinstance bt_isinstance (da_cons (dl_dat (de_var 0)) (da_cons (dl_dat (de_fn M.e_DogError.g M.e_DogError.n)) da_nil)))) (dw_and1 (dt_of (de_cb call_isX (c_isE M.EA) M.z_isinstance bt_isinstance (da_cons (dl_dat (de_var 0)) (da_cons (dl_dat (de_ty M.z_ValueError bt_ValueError)) da_nil))))))) (de_var 1) (de_lst da_nil)))))))))) h_l_kinds
theorem ok_l_any (M : Md K mg) : FnOk P w K mg base (L2.CX P w) 2 M.f_l_any M.d_l_any ["_law_cart", "_law_things"] (spD K 2 S_l_any) :=
  fn_D M.F_l_any sc_l_any rfl (fun cdv A outer s H E hr => (dss_one (ds_ret (dl_dat (de_ix (de_var 1) (de_val (dl_call (ok_l_take M) (hr.mono (by decide)) M.g_l_take M.F_l_take.kp M.b_l_take (takes_of rfl rfl rfl rfl) (da_cons (dl_var 0) (da_cons (dl_dat (de_len M.z_len (da_cons (dl_dat (de_var 1)) da_nil))) da_nil))))))))) h_l_any
theorem ok_law (M : Md K mg) : FnOk P w K mg base (L2.CX P w) 3 M.f_law M.d_law ["_law_script"] (spD K 1 S_law) :=
  fn_D M.F_law sc_law rfl (fun cdv A outer s H E hr => (dss_cons (ds_for (passes_of rfl) rfl (di_range1 M.z_range (da_cons (dl_dat (de_bin op_addA g_add de_int (de_cb (call_min2 rfl) c_min2 M.z_min bt_min (da_cons (dl_dat (de_len M.z_len (da_cons (dl_dat (de_var 0)) da_nil))) (da_cons (dl_dat de_int) da_nil))))) da_nil)) (dg_name 1 sc_law.nd) (dss_cons (ds_set 2 sc_law.nd (dl_call (ok_l_cart_of M) (hr.mono (by decide)) M.g_l_cart_of M.F_l_cart_of.kp M.b_l_cart_of (takes_of rfl rfl rfl rfl) (da_cons (dl_dat (de_var 0)) (da_cons (dl_dat (de_var 1)) da_nil))))
  (dss_cons (ds_par2 4 5 rfl sc_law.nd (da_cons (dl_dat (de_val (dl_call (ok_l_any M) (hr.mono (by decide)) M.g_l_any M.F_l_any.kp M.b_l_any (takes_of rfl rfl rfl rfl) (da_cons (dl_var 2) (da_cons (dl_dat (de_lst (da_cons (dl_dat de_str) (da_cons (dl_dat de_str) (da_cons (dl_dat de_str) (da_cons (dl_dat de_str) da_nil)))))) da_nil))))) (da_cons (dl_dat (de_val (dl_call (ok_l_take M) (hr.mono (by decide)) M.g_l_take M.F_l_take.kp M.b_l_take (takes_of rfl rfl rfl rfl) (da_cons (dl_var 2) (da_cons (dl_dat de_int) da_nil))))) da_nil)))
  (dss_cons (ds_set 3 sc_law.nd (dl_dat (de_lst (da_cons (dl_dat (de_exc M.e_InvalidDrill (de_var 4))) (da_cons (dl_dat (de_exc M.e_InvalidBeginning (de_var 4))) (da_cons (dl_dat (de_exc M.e_InvalidMany (de_var 4))) (da_cons (dl_dat (de_exc M.e_InvalidSheep (de_var 4))) da_nil)))))))
  (dss_cons (ds_set 3 sc_law.nd (dl_dat (de_bin op_addA g_add (de_var 3) (de_lst (da_cons (dl_dat (de_exc M.e_InvalidPlace (de_var 4))) (da_cons (dl_dat (de_exc M.e_InvalidRun (de_var 4))) (da_cons (dl_dat (de_exc M.e_InvalidIndex (de_var 4))) (da_cons (dl_dat (de_exc M.e_Unlike (de_var 4))) da_nil))))))))
  (dss_cons (ds_set 3 sc_law.nd (dl_dat (de_bin op_addA g_add (de_var 3) (de_lst (da_cons (dl_dat (de_exc M.e_NothingToUndo (de_var 4))) (da_cons (dl_dat (de_excF M.T_TooMany M.iC_TooMany M.tI_TooMany (ok_ini_TooMany M) (hr.mono (by decide)) M.bI_TooMany (takes_of rfl rfl rfl rfl) M.c_TooMany M.n_TooMany (de_var 5))) (da_cons (dl_dat (de_excF M.T_InvalidText M.iC_InvalidText M.tI_InvalidText (ok_ini_InvalidText M) (hr.mono (by decide)) M.bI_InvalidText (takes_of rfl rfl rfl rfl) M.c_InvalidText M.n_InvalidText (de_var 5))) da_nil)))))))
  (dss_cons (ds_for (passes_of rfl) rfl (di_enum M.z_enumerate (da_cons (dl_dat (de_var 3)) da_nil)) (dg_tup rfl (dgs_cons (dg_name 6 sc_law.nd) (dgs_cons (dg_name 7 sc_law.nd) dgs_nil))) (dss_one (ds_if (dt_cmp (op_neP hr.units) g_ne (de_val (dl_call (ok_l_kinds M) (hr.mono (by decide)) M.g_l_kinds M.F_l_kinds.kp M.b_l_kinds (takes_of rfl rfl rfl rfl) (da_cons (dl_dat (de_var 7)) da_nil))) (de_comp (own := [("_law_other", 8)]) rfl sc_law.nd (di_range1 M.z_range (da_cons (dl_dat de_int) da_nil)) (by kernel_rfl) (fun _ _ _ _ _ => (dg_name 8 sc_law.nd)) (fun _ _ _ _ _ => dts_nil) (fun _ _ _ _ _ => (de_cmp (op_eqP hr.units) g_eq (de_var 6) (de_var 8) (nomark _)))) (nomark _)) (dss_one (ds_ret (dl_dat de_bl))) dss_nil)))
  (dss_cons (ds_if (dw (dw_or (dt_cmp (op_neP hr.units) g_ne (de_fld M.FA (de_ix (de_var 3) de_int)) (de_var 5) (nomark _)) (dw_or1 (dt_cmp (op_neP hr.units) g_ne (de_fld M.FA (de_ix (de_var 3) de_int)) (de_var 5) (nomark _))))) (dss_one (ds_ret (dl_dat de_bl))) dss_nil)
  (dss_one (ds_if (dt_cmp (op_neP hr.units) g_ne (de_val (dl_call (ok_l_kinds M) (hr.mono (by decide)) M.g_l_kinds M.F_l_kinds.kp M.b_l_kinds (takes_of rfl rfl rfl rfl) (da_cons (dl_dat (de_exc M.e_DogError (de_var 4))) da_nil))) (de_bin op_mulB g_mulB (de_lst (da_cons (dl_dat de_bl) da_nil)) de_int) (nomark _)) (dss_one (ds_ret (dl_dat de_bl))) dss_nil))))))))))
  (dss_one (ds_ret (dl_dat de_bl))))) h_law
end
theorem law_in (ns : List Int) (T : List Ob) (Q : Sl → List Ob → Prop) (QX : Xn → List Ob → Prop) (h : ns.length ≤ 63) (q : ∀ T', Q (.dat (.bl true)) T') : S_law [.dat (.scr ns)] T Q QX := by
  refine ⟨ns, rfl, h, ?_⟩
  first | exact q | exact ⟨by decide, q⟩ | exact ⟨by decide, by decide, q⟩ | exact ⟨by decide, by decide, by decide, q⟩ | exact ⟨by decide, by decide, by decide, by decide, q⟩
theorem all_mk {l : PySem.W.OpenLaw} {w : World} {K : PySem.W.Frag} {h : Heap} {mg mb : Str → Option Value} {q : Program} {lo : List Str} {mean : ExcName → Option Value} {fa f0 f1 f2 f3 f4 cc4 pp4 C_InvalidDrill C_InvalidBeginning C_InvalidMany C_InvalidSheep C_InvalidPlace C_InvalidRun C_InvalidIndex C_Unlike C_NothingToUndo C_DogError C_TooMany C_InvalidText I_TooMany I_InvalidText : Addr} (X : K.In h) (T : Top q lo mean mg mb h) (hfa : mg "law" = some (.ref fa))
    {oi1_TooMany oi2_TooMany oi3_TooMany oi4_TooMany oi5_TooMany oi6_TooMany : Value} {ui1_TooMany ui2_TooMany : Option Addr} {usi_TooMany : Array (Option Value)} {nm_TooMany qn_TooMany : Str} {N_TooMany : Addr} {bs_TooMany bm_TooMany : List Value} {sn_TooMany : List Str} {sub_TooMany : List Value} {ab_TooMany : Bool} {col_TooMany : Option Bool} {dd_TooMany : Option Addr} {k0_TooMany k1_TooMany k2_TooMany k3_TooMany k5_TooMany : Option Value}
    {oi1_InvalidText oi2_InvalidText oi3_InvalidText oi4_InvalidText oi5_InvalidText oi6_InvalidText : Value} {ui1_InvalidText ui2_InvalidText : Option Addr} {usi_InvalidText : Array (Option Value)} {nm_InvalidText qn_InvalidText : Str} {N_InvalidText : Addr} {bs_InvalidText bm_InvalidText : List Value} {sn_InvalidText : List Str} {sub_InvalidText : List Value} {ab_InvalidText : Bool} {col_InvalidText : Option Bool} {dd_InvalidText : Option Addr} {k0_InvalidText k1_InvalidText k2_InvalidText k3_InvalidText k5_InvalidText : Option Value}
    {od0 od1 od2 od3 od4 an0 an1 an2 an3 an4 yd4 : Option Addr} {sl0 sl1 sl2 sl3 sl4 ys4 : Array (Option Value)} {yv4 : Array Value} {oc0 oc1 oc2 oc3 oc4 kV0 kV1 kV2 kV3 kV4 dc0 dc1 dc2 dc3 dc4 pm0 pm1 pm2 pm3 pm4 cd0 cd1 cd2 cd3 ct0 ct1 ct2 ct3 ct4 yc4 : Value} {qd4 : DefRec} 
    (a0 : PySem.W.nsIn K mainGlobals "_law_cart_of" = some (some (.ref f0)))
    (l0 : K.lookup f0 = some ⟨oc0, od0, .func (PySem.W.fnOf "_law_cart_of" "_law_cart_of" (defArgs s_l_cart_of) (defBody s_l_cart_of) (defScope s_l_cart_of) .none kV0 dc0 pm0 an0 cd0 ct0), sl0⟩)
    (c0 : PySem.W.codeIn K cd0 "_law_cart_of" = true)
    (k0 : PySem.W.keepIn K (.ref f0) = true)
    (a1 : PySem.W.nsIn K mainGlobals "_law_take" = some (some (.ref f1)))
    (l1 : K.lookup f1 = some ⟨oc1, od1, .func (PySem.W.fnOf "_law_take" "_law_take" (defArgs s_l_take) (defBody s_l_take) (defScope s_l_take) .none kV1 dc1 pm1 an1 cd1 ct1), sl1⟩)
    (c1 : PySem.W.codeIn K cd1 "_law_take" = true)
    (k1 : PySem.W.keepIn K (.ref f1) = true)
    (a2 : PySem.W.nsIn K mainGlobals "_law_any" = some (some (.ref f2)))
    (l2 : K.lookup f2 = some ⟨oc2, od2, .func (PySem.W.fnOf "_law_any" "_law_any" (defArgs s_l_any) (defBody s_l_any) (defScope s_l_any) .none kV2 dc2 pm2 an2 cd2 ct2), sl2⟩)
    (c2 : PySem.W.codeIn K cd2 "_law_any" = true)
    (k2 : PySem.W.keepIn K (.ref f2) = true)
    (a3 : PySem.W.nsIn K mainGlobals "_law_kinds" = some (some (.ref f3)))
    (l3 : K.lookup f3 = some ⟨oc3, od3, .func (PySem.W.fnOf "_law_kinds" "_law_kinds" (defArgs s_l_kinds) (defBody s_l_kinds) (defScope s_l_kinds) .none kV3 dc3 pm3 an3 cd3 ct3), sl3⟩)
    (c3 : PySem.W.codeIn K cd3 "_law_kinds" = true)
    (k3 : PySem.W.keepIn K (.ref f3) = true)
    (a4 : PySem.W.nsIn K mainGlobals "law" = some (some (.ref f4)))
    (l4 : K.lookup f4 = some ⟨oc4, od4, .func (PySem.W.fnOf "law" "law" (defArgs s_law) (defBody s_law) (defScope s_law) .none kV4 dc4 pm4 an4 (.ref cc4) ct4), sl4⟩)
    (c4 : PySem.W.codeIn K (.ref cc4) "law" = true)
    (k4 : PySem.W.keepIn K (.ref f4) = true)
    (y4 : K.lookup cc4 = some ⟨yc4, yd4, .fields yv4, ys4⟩)
    (p4 : yv4[11]? = some (.ref pp4))
    (r4 : K.lookup pp4 = none)
    (q4 : (recsOf q).find? (fun e => e.name == ("law" : Str)) = some qd4)
    (u__law_lots : PySem.W.nsIn K mainGlobals "_law_lots" = some none)
    (u__law_tried : PySem.W.nsIn K mainGlobals "_law_tried" = some none)
    (u__law_signs_right : PySem.W.nsIn K mainGlobals "_law_signs_right" = some none)
    (u__law_refused : PySem.W.nsIn K mainGlobals "_law_refused" = some none)
    (u__law_called : PySem.W.nsIn K mainGlobals "_law_called" = some none)
    (u__law_shows : PySem.W.nsIn K mainGlobals "_law_shows" = some none)
    (u__law_nested : PySem.W.nsIn K mainGlobals "_law_nested" = some none)
    (u__law_ended : PySem.W.nsIn K mainGlobals "_law_ended" = some none)
    (u__law_back : PySem.W.nsIn K mainGlobals "_law_back" = some none)
    (u__law_full_right : PySem.W.nsIn K mainGlobals "_law_full_right" = some none)
    (u__law_first_calls : PySem.W.nsIn K mainGlobals "_law_first_calls" = some none)
    (u__law_pair_calls : PySem.W.nsIn K mainGlobals "_law_pair_calls" = some none)
    (u__law_place_calls : PySem.W.nsIn K mainGlobals "_law_place_calls" = some none)
    (u__law_many_calls : PySem.W.nsIn K mainGlobals "_law_many_calls" = some none)
    (eg_InvalidDrill : PySem.W.nsIn K mainGlobals "InvalidDrill" = some (some (.ref C_InvalidDrill)))
    (ex_InvalidDrill : PySem.W.excIn K C_InvalidDrill [.type "ValueError", .type "Exception", .type "BaseException", .type "object"] "ValueError.__new__" = true)
    (ek_InvalidDrill : PySem.W.keepIn K (.ref C_InvalidDrill) = true)
    (eb_InvalidDrill : PySem.W.subIn K (.ref C_InvalidDrill) (.type "BaseException") = some true)
    (et_InvalidDrill : PySem.W.typeIn K (.ref C_InvalidDrill) = some (.type "type"))
    (eg_InvalidBeginning : PySem.W.nsIn K mainGlobals "InvalidBeginning" = some (some (.ref C_InvalidBeginning)))
    (ex_InvalidBeginning : PySem.W.excIn K C_InvalidBeginning [.type "ValueError", .type "Exception", .type "BaseException", .type "object"] "ValueError.__new__" = true)
    (ek_InvalidBeginning : PySem.W.keepIn K (.ref C_InvalidBeginning) = true)
    (eb_InvalidBeginning : PySem.W.subIn K (.ref C_InvalidBeginning) (.type "BaseException") = some true)
    (et_InvalidBeginning : PySem.W.typeIn K (.ref C_InvalidBeginning) = some (.type "type"))
    (eg_InvalidMany : PySem.W.nsIn K mainGlobals "InvalidMany" = some (some (.ref C_InvalidMany)))
    (ex_InvalidMany : PySem.W.excIn K C_InvalidMany [.type "ValueError", .type "Exception", .type "BaseException", .type "object"] "ValueError.__new__" = true)
    (ek_InvalidMany : PySem.W.keepIn K (.ref C_InvalidMany) = true)
    (eb_InvalidMany : PySem.W.subIn K (.ref C_InvalidMany) (.type "BaseException") = some true)
    (et_InvalidMany : PySem.W.typeIn K (.ref C_InvalidMany) = some (.type "type"))
    (eg_InvalidSheep : PySem.W.nsIn K mainGlobals "InvalidSheep" = some (some (.ref C_InvalidSheep)))
    (ex_InvalidSheep : PySem.W.excIn K C_InvalidSheep [.type "ValueError", .type "Exception", .type "BaseException", .type "object"] "ValueError.__new__" = true)
    (ek_InvalidSheep : PySem.W.keepIn K (.ref C_InvalidSheep) = true)
    (eb_InvalidSheep : PySem.W.subIn K (.ref C_InvalidSheep) (.type "BaseException") = some true)
    (et_InvalidSheep : PySem.W.typeIn K (.ref C_InvalidSheep) = some (.type "type"))
    (eg_InvalidPlace : PySem.W.nsIn K mainGlobals "InvalidPlace" = some (some (.ref C_InvalidPlace)))
    (ex_InvalidPlace : PySem.W.excIn K C_InvalidPlace [.type "ValueError", .type "Exception", .type "BaseException", .type "object"] "ValueError.__new__" = true)
    (ek_InvalidPlace : PySem.W.keepIn K (.ref C_InvalidPlace) = true)
    (eb_InvalidPlace : PySem.W.subIn K (.ref C_InvalidPlace) (.type "BaseException") = some true)
    (et_InvalidPlace : PySem.W.typeIn K (.ref C_InvalidPlace) = some (.type "type"))
    (eg_InvalidRun : PySem.W.nsIn K mainGlobals "InvalidRun" = some (some (.ref C_InvalidRun)))
    (ex_InvalidRun : PySem.W.excIn K C_InvalidRun [.type "ValueError", .type "Exception", .type "BaseException", .type "object"] "ValueError.__new__" = true)
    (ek_InvalidRun : PySem.W.keepIn K (.ref C_InvalidRun) = true)
    (eb_InvalidRun : PySem.W.subIn K (.ref C_InvalidRun) (.type "BaseException") = some true)
    (et_InvalidRun : PySem.W.typeIn K (.ref C_InvalidRun) = some (.type "type"))
    (eg_InvalidIndex : PySem.W.nsIn K mainGlobals "InvalidIndex" = some (some (.ref C_InvalidIndex)))
    (ex_InvalidIndex : PySem.W.excIn K C_InvalidIndex [.type "ValueError", .type "Exception", .type "BaseException", .type "object"] "ValueError.__new__" = true)
    (ek_InvalidIndex : PySem.W.keepIn K (.ref C_InvalidIndex) = true)
    (eb_InvalidIndex : PySem.W.subIn K (.ref C_InvalidIndex) (.type "BaseException") = some true)
    (et_InvalidIndex : PySem.W.typeIn K (.ref C_InvalidIndex) = some (.type "type"))
    (eg_Unlike : PySem.W.nsIn K mainGlobals "Unlike" = some (some (.ref C_Unlike)))
    (ex_Unlike : PySem.W.excIn K C_Unlike [.type "ValueError", .type "Exception", .type "BaseException", .type "object"] "ValueError.__new__" = true)
    (ek_Unlike : PySem.W.keepIn K (.ref C_Unlike) = true)
    (eb_Unlike : PySem.W.subIn K (.ref C_Unlike) (.type "BaseException") = some true)
    (et_Unlike : PySem.W.typeIn K (.ref C_Unlike) = some (.type "type"))
    (eg_NothingToUndo : PySem.W.nsIn K mainGlobals "NothingToUndo" = some (some (.ref C_NothingToUndo)))
    (ex_NothingToUndo : PySem.W.excIn K C_NothingToUndo [.type "ValueError", .type "Exception", .type "BaseException", .type "object"] "ValueError.__new__" = true)
    (ek_NothingToUndo : PySem.W.keepIn K (.ref C_NothingToUndo) = true)
    (eb_NothingToUndo : PySem.W.subIn K (.ref C_NothingToUndo) (.type "BaseException") = some true)
    (et_NothingToUndo : PySem.W.typeIn K (.ref C_NothingToUndo) = some (.type "type"))
    (eg_DogError : PySem.W.nsIn K mainGlobals "DogError" = some (some (.ref C_DogError)))
    (ex_DogError : PySem.W.excIn K C_DogError [.type "ValueError", .type "Exception", .type "BaseException", .type "object"] "ValueError.__new__" = true)
    (ek_DogError : PySem.W.keepIn K (.ref C_DogError) = true)
    (eb_DogError : PySem.W.subIn K (.ref C_DogError) (.type "BaseException") = some true)
    (et_DogError : PySem.W.typeIn K (.ref C_DogError) = some (.type "type"))
    (eg_TooMany : PySem.W.nsIn K mainGlobals "TooMany" = some (some (.ref C_TooMany)))
    (eg_InvalidText : PySem.W.nsIn K mainGlobals "InvalidText" = some (some (.ref C_InvalidText)))
    (ik_TooMany : PySem.W.keepIn K (.ref C_TooMany) = true)
    (eb_TooMany : PySem.W.subIn K (.ref C_TooMany) (.type "BaseException") = some true)
    (et_TooMany : PySem.W.typeIn K (.ref C_TooMany) = some (.type "type"))
    (il_TooMany : K.lookup C_TooMany = some (excClassObj nm_TooMany qn_TooMany C_TooMany N_TooMany bs_TooMany bm_TooMany true sn_TooMany sub_TooMany ab_TooMany col_TooMany dd_TooMany k0_TooMany k1_TooMany k2_TooMany k3_TooMany k5_TooMany "ValueError.__new__"))
    (im_TooMany : PySem.HandSPX.refsVE bm_TooMany = true)
    (ia_TooMany : PySem.W.findIn K (.ref C_TooMany) "__setattr__" = some (some (.builtin "object.__setattr__")))
    (ii_TooMany : PySem.W.findIn K (.ref C_TooMany) "__init__" = some (some (.ref I_TooMany)))
    (it_TooMany : PySem.W.typeIn K (.ref I_TooMany) = some (.type "function"))
    (ip_TooMany : K.lookup I_TooMany = some ⟨oi1_TooMany, ui1_TooMany, .func (PySem.W.fnOf "__init__" "TooMany.__init__" (defArgs s_ini_TooMany) (defBody s_ini_TooMany) (defScope s_ini_TooMany) .none oi2_TooMany oi3_TooMany oi4_TooMany ui2_TooMany oi5_TooMany oi6_TooMany), usi_TooMany⟩)
    (ic_TooMany : PySem.W.codeIn K oi5_TooMany "TooMany.__init__" = true)
    (in_TooMany : PySem.W.findIn K (.ref C_TooMany) "limit" = some none)
    (ik_InvalidText : PySem.W.keepIn K (.ref C_InvalidText) = true)
    (eb_InvalidText : PySem.W.subIn K (.ref C_InvalidText) (.type "BaseException") = some true)
    (et_InvalidText : PySem.W.typeIn K (.ref C_InvalidText) = some (.type "type"))
    (il_InvalidText : K.lookup C_InvalidText = some (excClassObj nm_InvalidText qn_InvalidText C_InvalidText N_InvalidText bs_InvalidText bm_InvalidText true sn_InvalidText sub_InvalidText ab_InvalidText col_InvalidText dd_InvalidText k0_InvalidText k1_InvalidText k2_InvalidText k3_InvalidText k5_InvalidText "ValueError.__new__"))
    (im_InvalidText : PySem.HandSPX.refsVE bm_InvalidText = true)
    (ia_InvalidText : PySem.W.findIn K (.ref C_InvalidText) "__setattr__" = some (some (.builtin "object.__setattr__")))
    (ii_InvalidText : PySem.W.findIn K (.ref C_InvalidText) "__init__" = some (some (.ref I_InvalidText)))
    (it_InvalidText : PySem.W.typeIn K (.ref I_InvalidText) = some (.type "function"))
    (ip_InvalidText : K.lookup I_InvalidText = some ⟨oi1_InvalidText, ui1_InvalidText, .func (PySem.W.fnOf "__init__" "InvalidText.__init__" (defArgs s_ini_InvalidText) (defBody s_ini_InvalidText) (defScope s_ini_InvalidText) .none oi2_InvalidText oi3_InvalidText oi4_InvalidText ui2_InvalidText oi5_InvalidText oi6_InvalidText), usi_InvalidText⟩)
    (ic_InvalidText : PySem.W.codeIn K oi5_InvalidText "InvalidText.__init__" = true)
    (in_InvalidText : PySem.W.findIn K (.ref C_InvalidText) "line" = some none)
    (bk_DogError : PySem.W.keepIn K (.ref C_DogError) = true)
    (br_DogError : PySem.W.readsIn K C_DogError (.type "type") = true)
    (ba_DogError : PySem.W.specialIn K (.ref C_DogError) "__getattribute__" = some (some (.builtin "type.__getattribute__")))
    (bi_DogError : PySem.W.findCls K (.ref C_DogError) (.type "type") "__init__" = some (.val (.builtin "ValueError.__init__")))
    (gn : PySem.W.specialIn K (.builtin "object.__class__") "__get__" = some (some (.builtin "getset_descriptor.__get__")))
    (gt : PySem.W.takesIn K (.builtin "object.__class__") = some true)
    (ea_DogError : PySem.W.isClsIn K C_DogError = true)
    (ec_DogError : PySem.W.findIn K (.ref C_DogError) "__getattribute__" = some (some (.builtin "BaseException.__getattribute__")))
    (ed_DogError : PySem.W.findIn K (.ref C_DogError) "__getattr__" = some none)
    (ee_DogError : PySem.W.subIn K (.ref C_DogError) (.type "BaseException") = some true)
    (ef_DogError : PySem.W.findIn K (.ref C_DogError) "__class__" = some (some (.builtin "object.__class__")))
    (eh_DogError : PySem.W.mroIn K C_DogError (.type "object") = some true)
    (ea_InvalidDrill : PySem.W.isClsIn K C_InvalidDrill = true)
    (ec_InvalidDrill : PySem.W.findIn K (.ref C_InvalidDrill) "__getattribute__" = some (some (.builtin "BaseException.__getattribute__")))
    (ed_InvalidDrill : PySem.W.findIn K (.ref C_InvalidDrill) "__getattr__" = some none)
    (ee_InvalidDrill : PySem.W.subIn K (.ref C_InvalidDrill) (.type "BaseException") = some true)
    (ef_InvalidDrill : PySem.W.findIn K (.ref C_InvalidDrill) "__class__" = some (some (.builtin "object.__class__")))
    (eh_InvalidDrill : PySem.W.mroIn K C_InvalidDrill (.type "object") = some true)
    (ea_InvalidBeginning : PySem.W.isClsIn K C_InvalidBeginning = true)
    (ec_InvalidBeginning : PySem.W.findIn K (.ref C_InvalidBeginning) "__getattribute__" = some (some (.builtin "BaseException.__getattribute__")))
    (ed_InvalidBeginning : PySem.W.findIn K (.ref C_InvalidBeginning) "__getattr__" = some none)
    (ee_InvalidBeginning : PySem.W.subIn K (.ref C_InvalidBeginning) (.type "BaseException") = some true)
    (ef_InvalidBeginning : PySem.W.findIn K (.ref C_InvalidBeginning) "__class__" = some (some (.builtin "object.__class__")))
    (eh_InvalidBeginning : PySem.W.mroIn K C_InvalidBeginning (.type "object") = some true)
    (ea_InvalidMany : PySem.W.isClsIn K C_InvalidMany = true)
    (ec_InvalidMany : PySem.W.findIn K (.ref C_InvalidMany) "__getattribute__" = some (some (.builtin "BaseException.__getattribute__")))
    (ed_InvalidMany : PySem.W.findIn K (.ref C_InvalidMany) "__getattr__" = some none)
    (ee_InvalidMany : PySem.W.subIn K (.ref C_InvalidMany) (.type "BaseException") = some true)
    (ef_InvalidMany : PySem.W.findIn K (.ref C_InvalidMany) "__class__" = some (some (.builtin "object.__class__")))
    (eh_InvalidMany : PySem.W.mroIn K C_InvalidMany (.type "object") = some true)
    (ea_InvalidSheep : PySem.W.isClsIn K C_InvalidSheep = true)
    (ec_InvalidSheep : PySem.W.findIn K (.ref C_InvalidSheep) "__getattribute__" = some (some (.builtin "BaseException.__getattribute__")))
    (ed_InvalidSheep : PySem.W.findIn K (.ref C_InvalidSheep) "__getattr__" = some none)
    (ee_InvalidSheep : PySem.W.subIn K (.ref C_InvalidSheep) (.type "BaseException") = some true)
    (ef_InvalidSheep : PySem.W.findIn K (.ref C_InvalidSheep) "__class__" = some (some (.builtin "object.__class__")))
    (eh_InvalidSheep : PySem.W.mroIn K C_InvalidSheep (.type "object") = some true)
    (ea_InvalidPlace : PySem.W.isClsIn K C_InvalidPlace = true)
    (ec_InvalidPlace : PySem.W.findIn K (.ref C_InvalidPlace) "__getattribute__" = some (some (.builtin "BaseException.__getattribute__")))
    (ed_InvalidPlace : PySem.W.findIn K (.ref C_InvalidPlace) "__getattr__" = some none)
    (ee_InvalidPlace : PySem.W.subIn K (.ref C_InvalidPlace) (.type "BaseException") = some true)
    (ef_InvalidPlace : PySem.W.findIn K (.ref C_InvalidPlace) "__class__" = some (some (.builtin "object.__class__")))
    (eh_InvalidPlace : PySem.W.mroIn K C_InvalidPlace (.type "object") = some true)
    (ea_InvalidRun : PySem.W.isClsIn K C_InvalidRun = true)
    (ec_InvalidRun : PySem.W.findIn K (.ref C_InvalidRun) "__getattribute__" = some (some (.builtin "BaseException.__getattribute__")))
    (ed_InvalidRun : PySem.W.findIn K (.ref C_InvalidRun) "__getattr__" = some none)
    (ee_InvalidRun : PySem.W.subIn K (.ref C_InvalidRun) (.type "BaseException") = some true)
    (ef_InvalidRun : PySem.W.findIn K (.ref C_InvalidRun) "__class__" = some (some (.builtin "object.__class__")))
    (eh_InvalidRun : PySem.W.mroIn K C_InvalidRun (.type "object") = some true)
    (ea_InvalidIndex : PySem.W.isClsIn K C_InvalidIndex = true)
    (ec_InvalidIndex : PySem.W.findIn K (.ref C_InvalidIndex) "__getattribute__" = some (some (.builtin "BaseException.__getattribute__")))
    (ed_InvalidIndex : PySem.W.findIn K (.ref C_InvalidIndex) "__getattr__" = some none)
    (ee_InvalidIndex : PySem.W.subIn K (.ref C_InvalidIndex) (.type "BaseException") = some true)
    (ef_InvalidIndex : PySem.W.findIn K (.ref C_InvalidIndex) "__class__" = some (some (.builtin "object.__class__")))
    (eh_InvalidIndex : PySem.W.mroIn K C_InvalidIndex (.type "object") = some true)
    (ea_Unlike : PySem.W.isClsIn K C_Unlike = true)
    (ec_Unlike : PySem.W.findIn K (.ref C_Unlike) "__getattribute__" = some (some (.builtin "BaseException.__getattribute__")))
    (ed_Unlike : PySem.W.findIn K (.ref C_Unlike) "__getattr__" = some none)
    (ee_Unlike : PySem.W.subIn K (.ref C_Unlike) (.type "BaseException") = some true)
    (ef_Unlike : PySem.W.findIn K (.ref C_Unlike) "__class__" = some (some (.builtin "object.__class__")))
    (eh_Unlike : PySem.W.mroIn K C_Unlike (.type "object") = some true)
    (ea_NothingToUndo : PySem.W.isClsIn K C_NothingToUndo = true)
    (ec_NothingToUndo : PySem.W.findIn K (.ref C_NothingToUndo) "__getattribute__" = some (some (.builtin "BaseException.__getattribute__")))
    (ed_NothingToUndo : PySem.W.findIn K (.ref C_NothingToUndo) "__getattr__" = some none)
    (ee_NothingToUndo : PySem.W.subIn K (.ref C_NothingToUndo) (.type "BaseException") = some true)
    (ef_NothingToUndo : PySem.W.findIn K (.ref C_NothingToUndo) "__class__" = some (some (.builtin "object.__class__")))
    (eh_NothingToUndo : PySem.W.mroIn K C_NothingToUndo (.type "object") = some true)
    (ea_TooMany : PySem.W.isClsIn K C_TooMany = true)
    (ec_TooMany : PySem.W.findIn K (.ref C_TooMany) "__getattribute__" = some (some (.builtin "BaseException.__getattribute__")))
    (ed_TooMany : PySem.W.findIn K (.ref C_TooMany) "__getattr__" = some none)
    (ee_TooMany : PySem.W.subIn K (.ref C_TooMany) (.type "BaseException") = some true)
    (ef_TooMany : PySem.W.findIn K (.ref C_TooMany) "__class__" = some (some (.builtin "object.__class__")))
    (eh_TooMany : PySem.W.mroIn K C_TooMany (.type "object") = some true)
    (ea_InvalidText : PySem.W.isClsIn K C_InvalidText = true)
    (ec_InvalidText : PySem.W.findIn K (.ref C_InvalidText) "__getattribute__" = some (some (.builtin "BaseException.__getattribute__")))
    (ed_InvalidText : PySem.W.findIn K (.ref C_InvalidText) "__getattr__" = some none)
    (ee_InvalidText : PySem.W.subIn K (.ref C_InvalidText) (.type "BaseException") = some true)
    (ef_InvalidText : PySem.W.findIn K (.ref C_InvalidText) "__class__" = some (some (.builtin "object.__class__")))
    (eh_InvalidText : PySem.W.mroIn K C_InvalidText (.type "object") = some true)
    (ev_DogError : PySem.W.subIn K (.ref C_DogError) (.type "ValueError") = some true)
    (ej_DogError : PySem.W.typeIn K (.ref C_DogError) = some (.type "type"))
    (ew_DogError_DogError : PySem.W.subIn K (.ref C_DogError) (.ref C_DogError) = some true)
    (ew_DogError_InvalidDrill : PySem.W.subIn K (.ref C_DogError) (.ref C_InvalidDrill) = some false)
    (ew_DogError_InvalidBeginning : PySem.W.subIn K (.ref C_DogError) (.ref C_InvalidBeginning) = some false)
    (ew_DogError_InvalidMany : PySem.W.subIn K (.ref C_DogError) (.ref C_InvalidMany) = some false)
    (ew_DogError_InvalidSheep : PySem.W.subIn K (.ref C_DogError) (.ref C_InvalidSheep) = some false)
    (ew_DogError_InvalidPlace : PySem.W.subIn K (.ref C_DogError) (.ref C_InvalidPlace) = some false)
    (ew_DogError_InvalidRun : PySem.W.subIn K (.ref C_DogError) (.ref C_InvalidRun) = some false)
    (ew_DogError_InvalidIndex : PySem.W.subIn K (.ref C_DogError) (.ref C_InvalidIndex) = some false)
    (ew_DogError_Unlike : PySem.W.subIn K (.ref C_DogError) (.ref C_Unlike) = some false)
    (ew_DogError_NothingToUndo : PySem.W.subIn K (.ref C_DogError) (.ref C_NothingToUndo) = some false)
    (ew_DogError_TooMany : PySem.W.subIn K (.ref C_DogError) (.ref C_TooMany) = some false)
    (ew_DogError_InvalidText : PySem.W.subIn K (.ref C_DogError) (.ref C_InvalidText) = some false)
    (ev_InvalidDrill : PySem.W.subIn K (.ref C_InvalidDrill) (.type "ValueError") = some true)
    (ej_InvalidDrill : PySem.W.typeIn K (.ref C_InvalidDrill) = some (.type "type"))
    (ew_InvalidDrill_DogError : PySem.W.subIn K (.ref C_InvalidDrill) (.ref C_DogError) = some true)
    (ew_InvalidDrill_InvalidDrill : PySem.W.subIn K (.ref C_InvalidDrill) (.ref C_InvalidDrill) = some true)
    (ew_InvalidDrill_InvalidBeginning : PySem.W.subIn K (.ref C_InvalidDrill) (.ref C_InvalidBeginning) = some false)
    (ew_InvalidDrill_InvalidMany : PySem.W.subIn K (.ref C_InvalidDrill) (.ref C_InvalidMany) = some false)
    (ew_InvalidDrill_InvalidSheep : PySem.W.subIn K (.ref C_InvalidDrill) (.ref C_InvalidSheep) = some false)
    (ew_InvalidDrill_InvalidPlace : PySem.W.subIn K (.ref C_InvalidDrill) (.ref C_InvalidPlace) = some false)
    (ew_InvalidDrill_InvalidRun : PySem.W.subIn K (.ref C_InvalidDrill) (.ref C_InvalidRun) = some false)
    (ew_InvalidDrill_InvalidIndex : PySem.W.subIn K (.ref C_InvalidDrill) (.ref C_InvalidIndex) = some false)
    (ew_InvalidDrill_Unlike : PySem.W.subIn K (.ref C_InvalidDrill) (.ref C_Unlike) = some false)
    (ew_InvalidDrill_NothingToUndo : PySem.W.subIn K (.ref C_InvalidDrill) (.ref C_NothingToUndo) = some false)
    (ew_InvalidDrill_TooMany : PySem.W.subIn K (.ref C_InvalidDrill) (.ref C_TooMany) = some false)
    (ew_InvalidDrill_InvalidText : PySem.W.subIn K (.ref C_InvalidDrill) (.ref C_InvalidText) = some false)
    (ev_InvalidBeginning : PySem.W.subIn K (.ref C_InvalidBeginning) (.type "ValueError") = some true)
    (ej_InvalidBeginning : PySem.W.typeIn K (.ref C_InvalidBeginning) = some (.type "type"))
    (ew_InvalidBeginning_DogError : PySem.W.subIn K (.ref C_InvalidBeginning) (.ref C_DogError) = some true)
    (ew_InvalidBeginning_InvalidDrill : PySem.W.subIn K (.ref C_InvalidBeginning) (.ref C_InvalidDrill) = some false)
    (ew_InvalidBeginning_InvalidBeginning : PySem.W.subIn K (.ref C_InvalidBeginning) (.ref C_InvalidBeginning) = some true)
    (ew_InvalidBeginning_InvalidMany : PySem.W.subIn K (.ref C_InvalidBeginning) (.ref C_InvalidMany) = some false)
    (ew_InvalidBeginning_InvalidSheep : PySem.W.subIn K (.ref C_InvalidBeginning) (.ref C_InvalidSheep) = some false)
    (ew_InvalidBeginning_InvalidPlace : PySem.W.subIn K (.ref C_InvalidBeginning) (.ref C_InvalidPlace) = some false)
    (ew_InvalidBeginning_InvalidRun : PySem.W.subIn K (.ref C_InvalidBeginning) (.ref C_InvalidRun) = some false)
    (ew_InvalidBeginning_InvalidIndex : PySem.W.subIn K (.ref C_InvalidBeginning) (.ref C_InvalidIndex) = some false)
    (ew_InvalidBeginning_Unlike : PySem.W.subIn K (.ref C_InvalidBeginning) (.ref C_Unlike) = some false)
    (ew_InvalidBeginning_NothingToUndo : PySem.W.subIn K (.ref C_InvalidBeginning) (.ref C_NothingToUndo) = some false)
    (ew_InvalidBeginning_TooMany : PySem.W.subIn K (.ref C_InvalidBeginning) (.ref C_TooMany) = some false)
    (ew_InvalidBeginning_InvalidText : PySem.W.subIn K (.ref C_InvalidBeginning) (.ref C_InvalidText) = some false)
    (ev_InvalidMany : PySem.W.subIn K (.ref C_InvalidMany) (.type "ValueError") = some true)
    (ej_InvalidMany : PySem.W.typeIn K (.ref C_InvalidMany) = some (.type "type"))
    (ew_InvalidMany_DogError : PySem.W.subIn K (.ref C_InvalidMany) (.ref C_DogError) = some true)
    (ew_InvalidMany_InvalidDrill : PySem.W.subIn K (.ref C_InvalidMany) (.ref C_InvalidDrill) = some false)
    (ew_InvalidMany_InvalidBeginning : PySem.W.subIn K (.ref C_InvalidMany) (.ref C_InvalidBeginning) = some false)
    (ew_InvalidMany_InvalidMany : PySem.W.subIn K (.ref C_InvalidMany) (.ref C_InvalidMany) = some true)
    (ew_InvalidMany_InvalidSheep : PySem.W.subIn K (.ref C_InvalidMany) (.ref C_InvalidSheep) = some false)
    (ew_InvalidMany_InvalidPlace : PySem.W.subIn K (.ref C_InvalidMany) (.ref C_InvalidPlace) = some false)
    (ew_InvalidMany_InvalidRun : PySem.W.subIn K (.ref C_InvalidMany) (.ref C_InvalidRun) = some false)
    (ew_InvalidMany_InvalidIndex : PySem.W.subIn K (.ref C_InvalidMany) (.ref C_InvalidIndex) = some false)
    (ew_InvalidMany_Unlike : PySem.W.subIn K (.ref C_InvalidMany) (.ref C_Unlike) = some false)
    (ew_InvalidMany_NothingToUndo : PySem.W.subIn K (.ref C_InvalidMany) (.ref C_NothingToUndo) = some false)
    (ew_InvalidMany_TooMany : PySem.W.subIn K (.ref C_InvalidMany) (.ref C_TooMany) = some false)
    (ew_InvalidMany_InvalidText : PySem.W.subIn K (.ref C_InvalidMany) (.ref C_InvalidText) = some false)
    (ev_InvalidSheep : PySem.W.subIn K (.ref C_InvalidSheep) (.type "ValueError") = some true)
    (ej_InvalidSheep : PySem.W.typeIn K (.ref C_InvalidSheep) = some (.type "type"))
    (ew_InvalidSheep_DogError : PySem.W.subIn K (.ref C_InvalidSheep) (.ref C_DogError) = some true)
    (ew_InvalidSheep_InvalidDrill : PySem.W.subIn K (.ref C_InvalidSheep) (.ref C_InvalidDrill) = some false)
    (ew_InvalidSheep_InvalidBeginning : PySem.W.subIn K (.ref C_InvalidSheep) (.ref C_InvalidBeginning) = some false)
    (ew_InvalidSheep_InvalidMany : PySem.W.subIn K (.ref C_InvalidSheep) (.ref C_InvalidMany) = some false)
    (ew_InvalidSheep_InvalidSheep : PySem.W.subIn K (.ref C_InvalidSheep) (.ref C_InvalidSheep) = some true)
    (ew_InvalidSheep_InvalidPlace : PySem.W.subIn K (.ref C_InvalidSheep) (.ref C_InvalidPlace) = some false)
    (ew_InvalidSheep_InvalidRun : PySem.W.subIn K (.ref C_InvalidSheep) (.ref C_InvalidRun) = some false)
    (ew_InvalidSheep_InvalidIndex : PySem.W.subIn K (.ref C_InvalidSheep) (.ref C_InvalidIndex) = some false)
    (ew_InvalidSheep_Unlike : PySem.W.subIn K (.ref C_InvalidSheep) (.ref C_Unlike) = some false)
    (ew_InvalidSheep_NothingToUndo : PySem.W.subIn K (.ref C_InvalidSheep) (.ref C_NothingToUndo) = some false)
    (ew_InvalidSheep_TooMany : PySem.W.subIn K (.ref C_InvalidSheep) (.ref C_TooMany) = some false)
    (ew_InvalidSheep_InvalidText : PySem.W.subIn K (.ref C_InvalidSheep) (.ref C_InvalidText) = some false)
    (ev_InvalidPlace : PySem.W.subIn K (.ref C_InvalidPlace) (.type "ValueError") = some true)
    (ej_InvalidPlace : PySem.W.typeIn K (.ref C_InvalidPlace) = some (.type "type"))
    (ew_InvalidPlace_DogError : PySem.W.subIn K (.ref C_InvalidPlace) (.ref C_DogError) = some true)
    (ew_InvalidPlace_InvalidDrill : PySem.W.subIn K (.ref C_InvalidPlace) (.ref C_InvalidDrill) = some false)
    (ew_InvalidPlace_InvalidBeginning : PySem.W.subIn K (.ref C_InvalidPlace) (.ref C_InvalidBeginning) = some false)
    (ew_InvalidPlace_InvalidMany : PySem.W.subIn K (.ref C_InvalidPlace) (.ref C_InvalidMany) = some false)
    (ew_InvalidPlace_InvalidSheep : PySem.W.subIn K (.ref C_InvalidPlace) (.ref C_InvalidSheep) = some false)
    (ew_InvalidPlace_InvalidPlace : PySem.W.subIn K (.ref C_InvalidPlace) (.ref C_InvalidPlace) = some true)
    (ew_InvalidPlace_InvalidRun : PySem.W.subIn K (.ref C_InvalidPlace) (.ref C_InvalidRun) = some false)
    (ew_InvalidPlace_InvalidIndex : PySem.W.subIn K (.ref C_InvalidPlace) (.ref C_InvalidIndex) = some false)
    (ew_InvalidPlace_Unlike : PySem.W.subIn K (.ref C_InvalidPlace) (.ref C_Unlike) = some false)
    (ew_InvalidPlace_NothingToUndo : PySem.W.subIn K (.ref C_InvalidPlace) (.ref C_NothingToUndo) = some false)
    (ew_InvalidPlace_TooMany : PySem.W.subIn K (.ref C_InvalidPlace) (.ref C_TooMany) = some false)
    (ew_InvalidPlace_InvalidText : PySem.W.subIn K (.ref C_InvalidPlace) (.ref C_InvalidText) = some false)
    (ev_InvalidRun : PySem.W.subIn K (.ref C_InvalidRun) (.type "ValueError") = some true)
    (ej_InvalidRun : PySem.W.typeIn K (.ref C_InvalidRun) = some (.type "type"))
    (ew_InvalidRun_DogError : PySem.W.subIn K (.ref C_InvalidRun) (.ref C_DogError) = some true)
    (ew_InvalidRun_InvalidDrill : PySem.W.subIn K (.ref C_InvalidRun) (.ref C_InvalidDrill) = some false)
    (ew_InvalidRun_InvalidBeginning : PySem.W.subIn K (.ref C_InvalidRun) (.ref C_InvalidBeginning) = some false)
    (ew_InvalidRun_InvalidMany : PySem.W.subIn K (.ref C_InvalidRun) (.ref C_InvalidMany) = some false)
    (ew_InvalidRun_InvalidSheep : PySem.W.subIn K (.ref C_InvalidRun) (.ref C_InvalidSheep) = some false)
    (ew_InvalidRun_InvalidPlace : PySem.W.subIn K (.ref C_InvalidRun) (.ref C_InvalidPlace) = some false)
    (ew_InvalidRun_InvalidRun : PySem.W.subIn K (.ref C_InvalidRun) (.ref C_InvalidRun) = some true)
    (ew_InvalidRun_InvalidIndex : PySem.W.subIn K (.ref C_InvalidRun) (.ref C_InvalidIndex) = some false)
    (ew_InvalidRun_Unlike : PySem.W.subIn K (.ref C_InvalidRun) (.ref C_Unlike) = some false)
    (ew_InvalidRun_NothingToUndo : PySem.W.subIn K (.ref C_InvalidRun) (.ref C_NothingToUndo) = some false)
    (ew_InvalidRun_TooMany : PySem.W.subIn K (.ref C_InvalidRun) (.ref C_TooMany) = some false)
    (ew_InvalidRun_InvalidText : PySem.W.subIn K (.ref C_InvalidRun) (.ref C_InvalidText) = some false)
    (ev_InvalidIndex : PySem.W.subIn K (.ref C_InvalidIndex) (.type "ValueError") = some true)
    (ej_InvalidIndex : PySem.W.typeIn K (.ref C_InvalidIndex) = some (.type "type"))
    (ew_InvalidIndex_DogError : PySem.W.subIn K (.ref C_InvalidIndex) (.ref C_DogError) = some true)
    (ew_InvalidIndex_InvalidDrill : PySem.W.subIn K (.ref C_InvalidIndex) (.ref C_InvalidDrill) = some false)
    (ew_InvalidIndex_InvalidBeginning : PySem.W.subIn K (.ref C_InvalidIndex) (.ref C_InvalidBeginning) = some false)
    (ew_InvalidIndex_InvalidMany : PySem.W.subIn K (.ref C_InvalidIndex) (.ref C_InvalidMany) = some false)
    (ew_InvalidIndex_InvalidSheep : PySem.W.subIn K (.ref C_InvalidIndex) (.ref C_InvalidSheep) = some false)
    (ew_InvalidIndex_InvalidPlace : PySem.W.subIn K (.ref C_InvalidIndex) (.ref C_InvalidPlace) = some false)
    (ew_InvalidIndex_InvalidRun : PySem.W.subIn K (.ref C_InvalidIndex) (.ref C_InvalidRun) = some false)
    (ew_InvalidIndex_InvalidIndex : PySem.W.subIn K (.ref C_InvalidIndex) (.ref C_InvalidIndex) = some true)
    (ew_InvalidIndex_Unlike : PySem.W.subIn K (.ref C_InvalidIndex) (.ref C_Unlike) = some false)
    (ew_InvalidIndex_NothingToUndo : PySem.W.subIn K (.ref C_InvalidIndex) (.ref C_NothingToUndo) = some false)
    (ew_InvalidIndex_TooMany : PySem.W.subIn K (.ref C_InvalidIndex) (.ref C_TooMany) = some false)
    (ew_InvalidIndex_InvalidText : PySem.W.subIn K (.ref C_InvalidIndex) (.ref C_InvalidText) = some false)
    (ev_Unlike : PySem.W.subIn K (.ref C_Unlike) (.type "ValueError") = some true)
    (ej_Unlike : PySem.W.typeIn K (.ref C_Unlike) = some (.type "type"))
    (ew_Unlike_DogError : PySem.W.subIn K (.ref C_Unlike) (.ref C_DogError) = some true)
    (ew_Unlike_InvalidDrill : PySem.W.subIn K (.ref C_Unlike) (.ref C_InvalidDrill) = some false)
    (ew_Unlike_InvalidBeginning : PySem.W.subIn K (.ref C_Unlike) (.ref C_InvalidBeginning) = some false)
    (ew_Unlike_InvalidMany : PySem.W.subIn K (.ref C_Unlike) (.ref C_InvalidMany) = some false)
    (ew_Unlike_InvalidSheep : PySem.W.subIn K (.ref C_Unlike) (.ref C_InvalidSheep) = some false)
    (ew_Unlike_InvalidPlace : PySem.W.subIn K (.ref C_Unlike) (.ref C_InvalidPlace) = some false)
    (ew_Unlike_InvalidRun : PySem.W.subIn K (.ref C_Unlike) (.ref C_InvalidRun) = some false)
    (ew_Unlike_InvalidIndex : PySem.W.subIn K (.ref C_Unlike) (.ref C_InvalidIndex) = some false)
    (ew_Unlike_Unlike : PySem.W.subIn K (.ref C_Unlike) (.ref C_Unlike) = some true)
    (ew_Unlike_NothingToUndo : PySem.W.subIn K (.ref C_Unlike) (.ref C_NothingToUndo) = some false)
    (ew_Unlike_TooMany : PySem.W.subIn K (.ref C_Unlike) (.ref C_TooMany) = some false)
    (ew_Unlike_InvalidText : PySem.W.subIn K (.ref C_Unlike) (.ref C_InvalidText) = some false)
    (ev_NothingToUndo : PySem.W.subIn K (.ref C_NothingToUndo) (.type "ValueError") = some true)
    (ej_NothingToUndo : PySem.W.typeIn K (.ref C_NothingToUndo) = some (.type "type"))
    (ew_NothingToUndo_DogError : PySem.W.subIn K (.ref C_NothingToUndo) (.ref C_DogError) = some true)
    (ew_NothingToUndo_InvalidDrill : PySem.W.subIn K (.ref C_NothingToUndo) (.ref C_InvalidDrill) = some false)
    (ew_NothingToUndo_InvalidBeginning : PySem.W.subIn K (.ref C_NothingToUndo) (.ref C_InvalidBeginning) = some false)
    (ew_NothingToUndo_InvalidMany : PySem.W.subIn K (.ref C_NothingToUndo) (.ref C_InvalidMany) = some false)
    (ew_NothingToUndo_InvalidSheep : PySem.W.subIn K (.ref C_NothingToUndo) (.ref C_InvalidSheep) = some false)
    (ew_NothingToUndo_InvalidPlace : PySem.W.subIn K (.ref C_NothingToUndo) (.ref C_InvalidPlace) = some false)
    (ew_NothingToUndo_InvalidRun : PySem.W.subIn K (.ref C_NothingToUndo) (.ref C_InvalidRun) = some false)
    (ew_NothingToUndo_InvalidIndex : PySem.W.subIn K (.ref C_NothingToUndo) (.ref C_InvalidIndex) = some false)
    (ew_NothingToUndo_Unlike : PySem.W.subIn K (.ref C_NothingToUndo) (.ref C_Unlike) = some false)
    (ew_NothingToUndo_NothingToUndo : PySem.W.subIn K (.ref C_NothingToUndo) (.ref C_NothingToUndo) = some true)
    (ew_NothingToUndo_TooMany : PySem.W.subIn K (.ref C_NothingToUndo) (.ref C_TooMany) = some false)
    (ew_NothingToUndo_InvalidText : PySem.W.subIn K (.ref C_NothingToUndo) (.ref C_InvalidText) = some false)
    (ev_TooMany : PySem.W.subIn K (.ref C_TooMany) (.type "ValueError") = some true)
    (ej_TooMany : PySem.W.typeIn K (.ref C_TooMany) = some (.type "type"))
    (ew_TooMany_DogError : PySem.W.subIn K (.ref C_TooMany) (.ref C_DogError) = some true)
    (ew_TooMany_InvalidDrill : PySem.W.subIn K (.ref C_TooMany) (.ref C_InvalidDrill) = some false)
    (ew_TooMany_InvalidBeginning : PySem.W.subIn K (.ref C_TooMany) (.ref C_InvalidBeginning) = some false)
    (ew_TooMany_InvalidMany : PySem.W.subIn K (.ref C_TooMany) (.ref C_InvalidMany) = some false)
    (ew_TooMany_InvalidSheep : PySem.W.subIn K (.ref C_TooMany) (.ref C_InvalidSheep) = some false)
    (ew_TooMany_InvalidPlace : PySem.W.subIn K (.ref C_TooMany) (.ref C_InvalidPlace) = some false)
    (ew_TooMany_InvalidRun : PySem.W.subIn K (.ref C_TooMany) (.ref C_InvalidRun) = some false)
    (ew_TooMany_InvalidIndex : PySem.W.subIn K (.ref C_TooMany) (.ref C_InvalidIndex) = some false)
    (ew_TooMany_Unlike : PySem.W.subIn K (.ref C_TooMany) (.ref C_Unlike) = some false)
    (ew_TooMany_NothingToUndo : PySem.W.subIn K (.ref C_TooMany) (.ref C_NothingToUndo) = some false)
    (ew_TooMany_TooMany : PySem.W.subIn K (.ref C_TooMany) (.ref C_TooMany) = some true)
    (ew_TooMany_InvalidText : PySem.W.subIn K (.ref C_TooMany) (.ref C_InvalidText) = some false)
    (ev_InvalidText : PySem.W.subIn K (.ref C_InvalidText) (.type "ValueError") = some true)
    (ej_InvalidText : PySem.W.typeIn K (.ref C_InvalidText) = some (.type "type"))
    (ew_InvalidText_DogError : PySem.W.subIn K (.ref C_InvalidText) (.ref C_DogError) = some true)
    (ew_InvalidText_InvalidDrill : PySem.W.subIn K (.ref C_InvalidText) (.ref C_InvalidDrill) = some false)
    (ew_InvalidText_InvalidBeginning : PySem.W.subIn K (.ref C_InvalidText) (.ref C_InvalidBeginning) = some false)
    (ew_InvalidText_InvalidMany : PySem.W.subIn K (.ref C_InvalidText) (.ref C_InvalidMany) = some false)
    (ew_InvalidText_InvalidSheep : PySem.W.subIn K (.ref C_InvalidText) (.ref C_InvalidSheep) = some false)
    (ew_InvalidText_InvalidPlace : PySem.W.subIn K (.ref C_InvalidText) (.ref C_InvalidPlace) = some false)
    (ew_InvalidText_InvalidRun : PySem.W.subIn K (.ref C_InvalidText) (.ref C_InvalidRun) = some false)
    (ew_InvalidText_InvalidIndex : PySem.W.subIn K (.ref C_InvalidText) (.ref C_InvalidIndex) = some false)
    (ew_InvalidText_Unlike : PySem.W.subIn K (.ref C_InvalidText) (.ref C_Unlike) = some false)
    (ew_InvalidText_NothingToUndo : PySem.W.subIn K (.ref C_InvalidText) (.ref C_NothingToUndo) = some false)
    (ew_InvalidText_TooMany : PySem.W.subIn K (.ref C_InvalidText) (.ref C_TooMany) = some false)
    (ew_InvalidText_InvalidText : PySem.W.subIn K (.ref C_InvalidText) (.ref C_InvalidText) = some true)
    (hd_TooMany : PySem.W.hasDictIn K C_TooMany = true)
    (hf_TooMany : PySem.W.findIn K (.ref C_TooMany) "limit" = some none)
    (hd_InvalidText : PySem.W.hasDictIn K C_InvalidText = true)
    (hf_InvalidText : PySem.W.findIn K (.ref C_InvalidText) "line" = some none)
    (z_ValueError : PySem.W.nsIn K mainGlobals "ValueError" = some none)
    (z_abs : PySem.W.nsIn K mainGlobals "abs" = some none)
    (z_enumerate : PySem.W.nsIn K mainGlobals "enumerate" = some none)
    (z_int : PySem.W.nsIn K mainGlobals "int" = some none)
    (z_isinstance : PySem.W.nsIn K mainGlobals "isinstance" = some none)
    (z_len : PySem.W.nsIn K mainGlobals "len" = some none)
    (z_min : PySem.W.nsIn K mainGlobals "min" = some none)
    (z_range : PySem.W.nsIn K mainGlobals "range" = some none) :
    LamX.LawAtS l w K (L2.CX l.prog w) 3 63 "_law_script" mg fa h := by
  have G := T.g
  have e := hfa.symm.trans (PySem.W.mg_of X G a4)
  cases e
  have F0 := fun_mk (st := s_l_cart_of) l0 c0 k0
  have F1 := fun_mk (st := s_l_take) l1 c1 k1
  have F2 := fun_mk (st := s_l_any) l2 c2 k2
  have F3 := fun_mk (st := s_l_kinds) l3 c3 k3
  have F4 := fun_mk (st := s_law) l4 c4 k4
  have tt4 := tab_mk a4 l4 rfl y4 p4
  have tabs : tabsOf K = [(pp4, (("law" : Str) ++ ".<locals>." ++ "<lambda>"))] := by
    simp only [tabsOf, lamDefs, List.filterMap_cons, List.filterMap_nil, Option.map_some, Option.map_none, tt4, tab_no u__law_lots, tab_no u__law_tried, tab_no u__law_signs_right, tab_no u__law_refused, tab_no u__law_called, tab_no u__law_shows, tab_no u__law_nested, tab_no u__law_ended, tab_no u__law_back, tab_no u__law_full_right, tab_no u__law_first_calls, tab_no u__law_pair_calls, tab_no u__law_place_calls, tab_no u__law_many_calls]
  let M : Md K mg := {
    f_l_cart_of := _, d_l_cart_of := _, F_l_cart_of := F0, g_l_cart_of := PySem.W.mg_of X G a0, n_l_cart_of := a0, b_l_cart_of := F0.binds (ps := ["_law_script", "_law_k"]) (fun _ _ _ _ _ _ us hl => match us, hl with | [_, _], _ => rfl),
    f_l_take := _, d_l_take := _, F_l_take := F1, g_l_take := PySem.W.mg_of X G a1, n_l_take := a1, b_l_take := F1.binds (ps := ["_law_cart", "_law_many"]) (fun _ _ _ _ _ _ us hl => match us, hl with | [_, _], _ => rfl),
    f_l_any := _, d_l_any := _, F_l_any := F2, g_l_any := PySem.W.mg_of X G a2, n_l_any := a2, b_l_any := F2.binds (ps := ["_law_cart", "_law_things"]) (fun _ _ _ _ _ _ us hl => match us, hl with | [_, _], _ => rfl),
    f_l_kinds := _, d_l_kinds := _, F_l_kinds := F3, g_l_kinds := PySem.W.mg_of X G a3, n_l_kinds := a3, b_l_kinds := F3.binds (ps := ["_law_e"]) (fun _ _ _ _ _ _ us hl => match us, hl with | [_], _ => rfl),
    f_law := _, d_law := _, F_law := F4, g_law := PySem.W.mg_of X G a4, n_law := a4, b_law := F4.binds (ps := ["_law_script"]) (fun _ _ _ _ _ _ us hl => match us, hl with | [_], _ => rfl),
    C_InvalidDrill := C_InvalidDrill, e_InvalidDrill := ⟨PySem.W.mg_of X G eg_InvalidDrill, eg_InvalidDrill, ex_InvalidDrill, ek_InvalidDrill, eb_InvalidDrill, et_InvalidDrill⟩,
    C_InvalidBeginning := C_InvalidBeginning, e_InvalidBeginning := ⟨PySem.W.mg_of X G eg_InvalidBeginning, eg_InvalidBeginning, ex_InvalidBeginning, ek_InvalidBeginning, eb_InvalidBeginning, et_InvalidBeginning⟩,
    C_InvalidMany := C_InvalidMany, e_InvalidMany := ⟨PySem.W.mg_of X G eg_InvalidMany, eg_InvalidMany, ex_InvalidMany, ek_InvalidMany, eb_InvalidMany, et_InvalidMany⟩,
    C_InvalidSheep := C_InvalidSheep, e_InvalidSheep := ⟨PySem.W.mg_of X G eg_InvalidSheep, eg_InvalidSheep, ex_InvalidSheep, ek_InvalidSheep, eb_InvalidSheep, et_InvalidSheep⟩,
    C_InvalidPlace := C_InvalidPlace, e_InvalidPlace := ⟨PySem.W.mg_of X G eg_InvalidPlace, eg_InvalidPlace, ex_InvalidPlace, ek_InvalidPlace, eb_InvalidPlace, et_InvalidPlace⟩,
    C_InvalidRun := C_InvalidRun, e_InvalidRun := ⟨PySem.W.mg_of X G eg_InvalidRun, eg_InvalidRun, ex_InvalidRun, ek_InvalidRun, eb_InvalidRun, et_InvalidRun⟩,
    C_InvalidIndex := C_InvalidIndex, e_InvalidIndex := ⟨PySem.W.mg_of X G eg_InvalidIndex, eg_InvalidIndex, ex_InvalidIndex, ek_InvalidIndex, eb_InvalidIndex, et_InvalidIndex⟩,
    C_Unlike := C_Unlike, e_Unlike := ⟨PySem.W.mg_of X G eg_Unlike, eg_Unlike, ex_Unlike, ek_Unlike, eb_Unlike, et_Unlike⟩,
    C_NothingToUndo := C_NothingToUndo, e_NothingToUndo := ⟨PySem.W.mg_of X G eg_NothingToUndo, eg_NothingToUndo, ex_NothingToUndo, ek_NothingToUndo, eb_NothingToUndo, et_NothingToUndo⟩,
    C_DogError := C_DogError, e_DogError := ⟨PySem.W.mg_of X G eg_DogError, eg_DogError, ex_DogError, ek_DogError, eb_DogError, et_DogError⟩,
    C_TooMany := C_TooMany,
    C_InvalidText := C_InvalidText,
    c_TooMany := PySem.W.mg_of X G eg_TooMany,
    n_TooMany := eg_TooMany,
    c_InvalidText := PySem.W.mg_of X G eg_InvalidText,
    n_InvalidText := eg_InvalidText,
    T_TooMany := ⟨⟨_, _, _, _, _, _, _, _, _, _, _, _, _, _, _, il_TooMany, im_TooMany⟩, ia_TooMany, eb_TooMany, et_TooMany, ik_TooMany⟩, I_TooMany := I_TooMany, iC_TooMany := ii_TooMany, tI_TooMany := it_TooMany,
    oi1_TooMany := _, oi2_TooMany := _, oi3_TooMany := _, oi4_TooMany := _, oi5_TooMany := _, oi6_TooMany := _, ui1_TooMany := _, ui2_TooMany := _, usi_TooMany := _, lkI_TooMany := ip_TooMany, cdI_TooMany := ic_TooMany, no_TooMany := in_TooMany,
    bI_TooMany := Binds.all (ps := ["self", "limit"]) (fun us hl => match us, hl with | [_, _], _ => rfl),
    T_InvalidText := ⟨⟨_, _, _, _, _, _, _, _, _, _, _, _, _, _, _, il_InvalidText, im_InvalidText⟩, ia_InvalidText, eb_InvalidText, et_InvalidText, ik_InvalidText⟩, I_InvalidText := I_InvalidText, iC_InvalidText := ii_InvalidText, tI_InvalidText := it_InvalidText,
    oi1_InvalidText := _, oi2_InvalidText := _, oi3_InvalidText := _, oi4_InvalidText := _, oi5_InvalidText := _, oi6_InvalidText := _, ui1_InvalidText := _, ui2_InvalidText := _, usi_InvalidText := _, lkI_InvalidText := ip_InvalidText, cdI_InvalidText := ic_InvalidText, no_InvalidText := in_InvalidText,
    bI_InvalidText := Binds.all (ps := ["self", "line"]) (fun us hl => match us, hl with | [_, _], _ => rfl),
    B_DogError := ⟨PySem.W.mg_of X G eg_DogError, bk_DogError, br_DogError, ba_DogError, bi_DogError⟩,
    EA := errAll_mk [("DogError", C_DogError), ("InvalidDrill", C_InvalidDrill), ("InvalidBeginning", C_InvalidBeginning), ("InvalidMany", C_InvalidMany), ("InvalidSheep", C_InvalidSheep), ("InvalidPlace", C_InvalidPlace), ("InvalidRun", C_InvalidRun), ("InvalidIndex", C_InvalidIndex), ("Unlike", C_Unlike), ("NothingToUndo", C_NothingToUndo), ("TooMany", C_TooMany), ("InvalidText", C_InvalidText)] rfl (fm2 eg_DogError (fm2 eg_InvalidDrill (fm2 eg_InvalidBeginning (fm2 eg_InvalidMany (fm2 eg_InvalidSheep (fm2 eg_InvalidPlace (fm2 eg_InvalidRun (fm2 eg_InvalidIndex (fm2 eg_Unlike (fm2 eg_NothingToUndo (fm2 eg_TooMany (fm2 eg_InvalidText fm0)))))))))))) (fm2 ⟨ea_DogError, ec_DogError, ed_DogError, ee_DogError, ef_DogError, eh_DogError⟩ (fm2 ⟨ea_InvalidDrill, ec_InvalidDrill, ed_InvalidDrill, ee_InvalidDrill, ef_InvalidDrill, eh_InvalidDrill⟩ (fm2 ⟨ea_InvalidBeginning, ec_InvalidBeginning, ed_InvalidBeginning, ee_InvalidBeginning, ef_InvalidBeginning, eh_InvalidBeginning⟩ (fm2 ⟨ea_InvalidMany, ec_InvalidMany, ed_InvalidMany, ee_InvalidMany, ef_InvalidMany, eh_InvalidMany⟩ (fm2 ⟨ea_InvalidSheep, ec_InvalidSheep, ed_InvalidSheep, ee_InvalidSheep, ef_InvalidSheep, eh_InvalidSheep⟩ (fm2 ⟨ea_InvalidPlace, ec_InvalidPlace, ed_InvalidPlace, ee_InvalidPlace, ef_InvalidPlace, eh_InvalidPlace⟩ (fm2 ⟨ea_InvalidRun, ec_InvalidRun, ed_InvalidRun, ee_InvalidRun, ef_InvalidRun, eh_InvalidRun⟩ (fm2 ⟨ea_InvalidIndex, ec_InvalidIndex, ed_InvalidIndex, ee_InvalidIndex, ef_InvalidIndex, eh_InvalidIndex⟩ (fm2 ⟨ea_Unlike, ec_Unlike, ed_Unlike, ee_Unlike, ef_Unlike, eh_Unlike⟩ (fm2 ⟨ea_NothingToUndo, ec_NothingToUndo, ed_NothingToUndo, ee_NothingToUndo, ef_NothingToUndo, eh_NothingToUndo⟩ (fm2 ⟨ea_TooMany, ec_TooMany, ed_TooMany, ee_TooMany, ef_TooMany, eh_TooMany⟩ (fm2 ⟨ea_InvalidText, ec_InvalidText, ed_InvalidText, ee_InvalidText, ef_InvalidText, eh_InvalidText⟩ fm0)))))))))))) (fm2 (fm2 (fmI (n := "DogError") (c := "DogError") (kit_mk ew_DogError_DogError ew_DogError_DogError ea_DogError ej_DogError)) (fm2 (fmI (n := "DogError") (c := "InvalidDrill") (kit_mk ew_DogError_InvalidDrill ew_DogError_DogError ea_InvalidDrill ej_InvalidDrill)) (fm2 (fmI (n := "DogError") (c := "InvalidBeginning") (kit_mk ew_DogError_InvalidBeginning ew_DogError_DogError ea_InvalidBeginning ej_InvalidBeginning)) (fm2 (fmI (n := "DogError") (c := "InvalidMany") (kit_mk ew_DogError_InvalidMany ew_DogError_DogError ea_InvalidMany ej_InvalidMany)) (fm2 (fmI (n := "DogError") (c := "InvalidSheep") (kit_mk ew_DogError_InvalidSheep ew_DogError_DogError ea_InvalidSheep ej_InvalidSheep)) (fm2 (fmI (n := "DogError") (c := "InvalidPlace") (kit_mk ew_DogError_InvalidPlace ew_DogError_DogError ea_InvalidPlace ej_InvalidPlace)) (fm2 (fmI (n := "DogError") (c := "InvalidRun") (kit_mk ew_DogError_InvalidRun ew_DogError_DogError ea_InvalidRun ej_InvalidRun)) (fm2 (fmI (n := "DogError") (c := "InvalidIndex") (kit_mk ew_DogError_InvalidIndex ew_DogError_DogError ea_InvalidIndex ej_InvalidIndex)) (fm2 (fmI (n := "DogError") (c := "Unlike") (kit_mk ew_DogError_Unlike ew_DogError_DogError ea_Unlike ej_Unlike)) (fm2 (fmI (n := "DogError") (c := "NothingToUndo") (kit_mk ew_DogError_NothingToUndo ew_DogError_DogError ea_NothingToUndo ej_NothingToUndo)) (fm2 (fmI (n := "DogError") (c := "TooMany") (kit_mk ew_DogError_TooMany ew_DogError_DogError ea_TooMany ej_TooMany)) (fm2 (fmI (n := "DogError") (c := "InvalidText") (kit_mk ew_DogError_InvalidText ew_DogError_DogError ea_InvalidText ej_InvalidText)) fm0)))))))))))) (fm2 (fm2 (fmI (n := "InvalidDrill") (c := "DogError") (kit_mk ew_InvalidDrill_DogError ew_InvalidDrill_InvalidDrill ea_DogError ej_DogError)) (fm2 (fmI (n := "InvalidDrill") (c := "InvalidDrill") (kit_mk ew_InvalidDrill_InvalidDrill ew_InvalidDrill_InvalidDrill ea_InvalidDrill ej_InvalidDrill)) (fm2 (fmI (n := "InvalidDrill") (c := "InvalidBeginning") (kit_mk ew_InvalidDrill_InvalidBeginning ew_InvalidDrill_InvalidDrill ea_InvalidBeginning ej_InvalidBeginning)) (fm2 (fmI (n := "InvalidDrill") (c := "InvalidMany") (kit_mk ew_InvalidDrill_InvalidMany ew_InvalidDrill_InvalidDrill ea_InvalidMany ej_InvalidMany)) (fm2 (fmI (n := "InvalidDrill") (c := "InvalidSheep") (kit_mk ew_InvalidDrill_InvalidSheep ew_InvalidDrill_InvalidDrill ea_InvalidSheep ej_InvalidSheep)) (fm2 (fmI (n := "InvalidDrill") (c := "InvalidPlace") (kit_mk ew_InvalidDrill_InvalidPlace ew_InvalidDrill_InvalidDrill ea_InvalidPlace ej_InvalidPlace)) (fm2 (fmI (n := "InvalidDrill") (c := "InvalidRun") (kit_mk ew_InvalidDrill_InvalidRun ew_InvalidDrill_InvalidDrill ea_InvalidRun ej_InvalidRun)) (fm2 (fmI (n := "InvalidDrill") (c := "InvalidIndex") (kit_mk ew_InvalidDrill_InvalidIndex ew_InvalidDrill_InvalidDrill ea_InvalidIndex ej_InvalidIndex)) (fm2 (fmI (n := "InvalidDrill") (c := "Unlike") (kit_mk ew_InvalidDrill_Unlike ew_InvalidDrill_InvalidDrill ea_Unlike ej_Unlike)) (fm2 (fmI (n := "InvalidDrill") (c := "NothingToUndo") (kit_mk ew_InvalidDrill_NothingToUndo ew_InvalidDrill_InvalidDrill ea_NothingToUndo ej_NothingToUndo)) (fm2 (fmI (n := "InvalidDrill") (c := "TooMany") (kit_mk ew_InvalidDrill_TooMany ew_InvalidDrill_InvalidDrill ea_TooMany ej_TooMany)) (fm2 (fmI (n := "InvalidDrill") (c := "InvalidText") (kit_mk ew_InvalidDrill_InvalidText ew_InvalidDrill_InvalidDrill ea_InvalidText ej_InvalidText)) fm0)))))))))))) (fm2 (fm2 (fmI (n := "InvalidBeginning") (c := "DogError") (kit_mk ew_InvalidBeginning_DogError ew_InvalidBeginning_InvalidBeginning ea_DogError ej_DogError)) (fm2 (fmI (n := "InvalidBeginning") (c := "InvalidDrill") (kit_mk ew_InvalidBeginning_InvalidDrill ew_InvalidBeginning_InvalidBeginning ea_InvalidDrill ej_InvalidDrill)) (fm2 (fmI (n := "InvalidBeginning") (c := "InvalidBeginning") (kit_mk ew_InvalidBeginning_InvalidBeginning ew_InvalidBeginning_InvalidBeginning ea_InvalidBeginning ej_InvalidBeginning)) (fm2 (fmI (n := "InvalidBeginning") (c := "InvalidMany") (kit_mk ew_InvalidBeginning_InvalidMany ew_InvalidBeginning_InvalidBeginning ea_InvalidMany ej_InvalidMany)) (fm2 (fmI (n := "InvalidBeginning") (c := "InvalidSheep") (kit_mk ew_InvalidBeginning_InvalidSheep ew_InvalidBeginning_InvalidBeginning ea_InvalidSheep ej_InvalidSheep)) (fm2 (fmI (n := "InvalidBeginning") (c := "InvalidPlace") (kit_mk ew_InvalidBeginning_InvalidPlace ew_InvalidBeginning_InvalidBeginning ea_InvalidPlace ej_InvalidPlace)) (fm2 (fmI (n := "InvalidBeginning") (c := "InvalidRun") (kit_mk ew_InvalidBeginning_InvalidRun ew_InvalidBeginning_InvalidBeginning ea_InvalidRun ej_InvalidRun)) (fm2 (fmI (n := "InvalidBeginning") (c := "InvalidIndex") (kit_mk ew_InvalidBeginning_InvalidIndex ew_InvalidBeginning_InvalidBeginning ea_InvalidIndex ej_InvalidIndex)) (fm2 (fmI (n := "InvalidBeginning") (c := "Unlike") (kit_mk ew_InvalidBeginning_Unlike ew_InvalidBeginning_InvalidBeginning ea_Unlike ej_Unlike)) (fm2 (fmI (n := "InvalidBeginning") (c := "NothingToUndo") (kit_mk ew_InvalidBeginning_NothingToUndo ew_InvalidBeginning_InvalidBeginning ea_NothingToUndo ej_NothingToUndo)) (fm2 (fmI (n := "InvalidBeginning") (c := "TooMany") (kit_mk ew_InvalidBeginning_TooMany ew_InvalidBeginning_InvalidBeginning ea_TooMany ej_TooMany)) (fm2 (fmI (n := "InvalidBeginning") (c := "InvalidText") (kit_mk ew_InvalidBeginning_InvalidText ew_InvalidBeginning_InvalidBeginning ea_InvalidText ej_InvalidText)) fm0)))))))))))) (fm2 (fm2 (fmI (n := "InvalidMany") (c := "DogError") (kit_mk ew_InvalidMany_DogError ew_InvalidMany_InvalidMany ea_DogError ej_DogError)) (fm2 (fmI (n := "InvalidMany") (c := "InvalidDrill") (kit_mk ew_InvalidMany_InvalidDrill ew_InvalidMany_InvalidMany ea_InvalidDrill ej_InvalidDrill)) (fm2 (fmI (n := "InvalidMany") (c := "InvalidBeginning") (kit_mk ew_InvalidMany_InvalidBeginning ew_InvalidMany_InvalidMany ea_InvalidBeginning ej_InvalidBeginning)) (fm2 (fmI (n := "InvalidMany") (c := "InvalidMany") (kit_mk ew_InvalidMany_InvalidMany ew_InvalidMany_InvalidMany ea_InvalidMany ej_InvalidMany)) (fm2 (fmI (n := "InvalidMany") (c := "InvalidSheep") (kit_mk ew_InvalidMany_InvalidSheep ew_InvalidMany_InvalidMany ea_InvalidSheep ej_InvalidSheep)) (fm2 (fmI (n := "InvalidMany") (c := "InvalidPlace") (kit_mk ew_InvalidMany_InvalidPlace ew_InvalidMany_InvalidMany ea_InvalidPlace ej_InvalidPlace)) (fm2 (fmI (n := "InvalidMany") (c := "InvalidRun") (kit_mk ew_InvalidMany_InvalidRun ew_InvalidMany_InvalidMany ea_InvalidRun ej_InvalidRun)) (fm2 (fmI (n := "InvalidMany") (c := "InvalidIndex") (kit_mk ew_InvalidMany_InvalidIndex ew_InvalidMany_InvalidMany ea_InvalidIndex ej_InvalidIndex)) (fm2 (fmI (n := "InvalidMany") (c := "Unlike") (kit_mk ew_InvalidMany_Unlike ew_InvalidMany_InvalidMany ea_Unlike ej_Unlike)) (fm2 (fmI (n := "InvalidMany") (c := "NothingToUndo") (kit_mk ew_InvalidMany_NothingToUndo ew_InvalidMany_InvalidMany ea_NothingToUndo ej_NothingToUndo)) (fm2 (fmI (n := "InvalidMany") (c := "TooMany") (kit_mk ew_InvalidMany_TooMany ew_InvalidMany_InvalidMany ea_TooMany ej_TooMany)) (fm2 (fmI (n := "InvalidMany") (c := "InvalidText") (kit_mk ew_InvalidMany_InvalidText ew_InvalidMany_InvalidMany ea_InvalidText ej_InvalidText)) fm0)))))))))))) (fm2 (fm2 (fmI (n := "InvalidSheep") (c := "DogError") (kit_mk ew_InvalidSheep_DogError ew_InvalidSheep_InvalidSheep ea_DogError ej_DogError)) (fm2 (fmI (n := "InvalidSheep") (c := "InvalidDrill") (kit_mk ew_InvalidSheep_InvalidDrill ew_InvalidSheep_InvalidSheep ea_InvalidDrill ej_InvalidDrill)) (fm2 (fmI (n := "InvalidSheep") (c := "InvalidBeginning") (kit_mk ew_InvalidSheep_InvalidBeginning ew_InvalidSheep_InvalidSheep ea_InvalidBeginning ej_InvalidBeginning)) (fm2 (fmI (n := "InvalidSheep") (c := "InvalidMany") (kit_mk ew_InvalidSheep_InvalidMany ew_InvalidSheep_InvalidSheep ea_InvalidMany ej_InvalidMany)) (fm2 (fmI (n := "InvalidSheep") (c := "InvalidSheep") (kit_mk ew_InvalidSheep_InvalidSheep ew_InvalidSheep_InvalidSheep ea_InvalidSheep ej_InvalidSheep)) (fm2 (fmI (n := "InvalidSheep") (c := "InvalidPlace") (kit_mk ew_InvalidSheep_InvalidPlace ew_InvalidSheep_InvalidSheep ea_InvalidPlace ej_InvalidPlace)) (fm2 (fmI (n := "InvalidSheep") (c := "InvalidRun") (kit_mk ew_InvalidSheep_InvalidRun ew_InvalidSheep_InvalidSheep ea_InvalidRun ej_InvalidRun)) (fm2 (fmI (n := "InvalidSheep") (c := "InvalidIndex") (kit_mk ew_InvalidSheep_InvalidIndex ew_InvalidSheep_InvalidSheep ea_InvalidIndex ej_InvalidIndex)) (fm2 (fmI (n := "InvalidSheep") (c := "Unlike") (kit_mk ew_InvalidSheep_Unlike ew_InvalidSheep_InvalidSheep ea_Unlike ej_Unlike)) (fm2 (fmI (n := "InvalidSheep") (c := "NothingToUndo") (kit_mk ew_InvalidSheep_NothingToUndo ew_InvalidSheep_InvalidSheep ea_NothingToUndo ej_NothingToUndo)) (fm2 (fmI (n := "InvalidSheep") (c := "TooMany") (kit_mk ew_InvalidSheep_TooMany ew_InvalidSheep_InvalidSheep ea_TooMany ej_TooMany)) (fm2 (fmI (n := "InvalidSheep") (c := "InvalidText") (kit_mk ew_InvalidSheep_InvalidText ew_InvalidSheep_InvalidSheep ea_InvalidText ej_InvalidText)) fm0)))))))))))) (fm2 (fm2 (fmI (n := "InvalidPlace") (c := "DogError") (kit_mk ew_InvalidPlace_DogError ew_InvalidPlace_InvalidPlace ea_DogError ej_DogError)) (fm2 (fmI (n := "InvalidPlace") (c := "InvalidDrill") (kit_mk ew_InvalidPlace_InvalidDrill ew_InvalidPlace_InvalidPlace ea_InvalidDrill ej_InvalidDrill)) (fm2 (fmI (n := "InvalidPlace") (c := "InvalidBeginning") (kit_mk ew_InvalidPlace_InvalidBeginning ew_InvalidPlace_InvalidPlace ea_InvalidBeginning ej_InvalidBeginning)) (fm2 (fmI (n := "InvalidPlace") (c := "InvalidMany") (kit_mk ew_InvalidPlace_InvalidMany ew_InvalidPlace_InvalidPlace ea_InvalidMany ej_InvalidMany)) (fm2 (fmI (n := "InvalidPlace") (c := "InvalidSheep") (kit_mk ew_InvalidPlace_InvalidSheep ew_InvalidPlace_InvalidPlace ea_InvalidSheep ej_InvalidSheep)) (fm2 (fmI (n := "InvalidPlace") (c := "InvalidPlace") (kit_mk ew_InvalidPlace_InvalidPlace ew_InvalidPlace_InvalidPlace ea_InvalidPlace ej_InvalidPlace)) (fm2 (fmI (n := "InvalidPlace") (c := "InvalidRun") (kit_mk ew_InvalidPlace_InvalidRun ew_InvalidPlace_InvalidPlace ea_InvalidRun ej_InvalidRun)) (fm2 (fmI (n := "InvalidPlace") (c := "InvalidIndex") (kit_mk ew_InvalidPlace_InvalidIndex ew_InvalidPlace_InvalidPlace ea_InvalidIndex ej_InvalidIndex)) (fm2 (fmI (n := "InvalidPlace") (c := "Unlike") (kit_mk ew_InvalidPlace_Unlike ew_InvalidPlace_InvalidPlace ea_Unlike ej_Unlike)) (fm2 (fmI (n := "InvalidPlace") (c := "NothingToUndo") (kit_mk ew_InvalidPlace_NothingToUndo ew_InvalidPlace_InvalidPlace ea_NothingToUndo ej_NothingToUndo)) (fm2 (fmI (n := "InvalidPlace") (c := "TooMany") (kit_mk ew_InvalidPlace_TooMany ew_InvalidPlace_InvalidPlace ea_TooMany ej_TooMany)) (fm2 (fmI (n := "InvalidPlace") (c := "InvalidText") (kit_mk ew_InvalidPlace_InvalidText ew_InvalidPlace_InvalidPlace ea_InvalidText ej_InvalidText)) fm0)))))))))))) (fm2 (fm2 (fmI (n := "InvalidRun") (c := "DogError") (kit_mk ew_InvalidRun_DogError ew_InvalidRun_InvalidRun ea_DogError ej_DogError)) (fm2 (fmI (n := "InvalidRun") (c := "InvalidDrill") (kit_mk ew_InvalidRun_InvalidDrill ew_InvalidRun_InvalidRun ea_InvalidDrill ej_InvalidDrill)) (fm2 (fmI (n := "InvalidRun") (c := "InvalidBeginning") (kit_mk ew_InvalidRun_InvalidBeginning ew_InvalidRun_InvalidRun ea_InvalidBeginning ej_InvalidBeginning)) (fm2 (fmI (n := "InvalidRun") (c := "InvalidMany") (kit_mk ew_InvalidRun_InvalidMany ew_InvalidRun_InvalidRun ea_InvalidMany ej_InvalidMany)) (fm2 (fmI (n := "InvalidRun") (c := "InvalidSheep") (kit_mk ew_InvalidRun_InvalidSheep ew_InvalidRun_InvalidRun ea_InvalidSheep ej_InvalidSheep)) (fm2 (fmI (n := "InvalidRun") (c := "InvalidPlace") (kit_mk ew_InvalidRun_InvalidPlace ew_InvalidRun_InvalidRun ea_InvalidPlace ej_InvalidPlace)) (fm2 (fmI (n := "InvalidRun") (c := "InvalidRun") (kit_mk ew_InvalidRun_InvalidRun ew_InvalidRun_InvalidRun ea_InvalidRun ej_InvalidRun)) (fm2 (fmI (n := "InvalidRun") (c := "InvalidIndex") (kit_mk ew_InvalidRun_InvalidIndex ew_InvalidRun_InvalidRun ea_InvalidIndex ej_InvalidIndex)) (fm2 (fmI (n := "InvalidRun") (c := "Unlike") (kit_mk ew_InvalidRun_Unlike ew_InvalidRun_InvalidRun ea_Unlike ej_Unlike)) (fm2 (fmI (n := "InvalidRun") (c := "NothingToUndo") (kit_mk ew_InvalidRun_NothingToUndo ew_InvalidRun_InvalidRun ea_NothingToUndo ej_NothingToUndo)) (fm2 (fmI (n := "InvalidRun") (c := "TooMany") (kit_mk ew_InvalidRun_TooMany ew_InvalidRun_InvalidRun ea_TooMany ej_TooMany)) (fm2 (fmI (n := "InvalidRun") (c := "InvalidText") (kit_mk ew_InvalidRun_InvalidText ew_InvalidRun_InvalidRun ea_InvalidText ej_InvalidText)) fm0)))))))))))) (fm2 (fm2 (fmI (n := "InvalidIndex") (c := "DogError") (kit_mk ew_InvalidIndex_DogError ew_InvalidIndex_InvalidIndex ea_DogError ej_DogError)) (fm2 (fmI (n := "InvalidIndex") (c := "InvalidDrill") (kit_mk ew_InvalidIndex_InvalidDrill ew_InvalidIndex_InvalidIndex ea_InvalidDrill ej_InvalidDrill)) (fm2 (fmI (n := "InvalidIndex") (c := "InvalidBeginning") (kit_mk ew_InvalidIndex_InvalidBeginning ew_InvalidIndex_InvalidIndex ea_InvalidBeginning ej_InvalidBeginning)) (fm2 (fmI (n := "InvalidIndex") (c := "InvalidMany") (kit_mk ew_InvalidIndex_InvalidMany ew_InvalidIndex_InvalidIndex ea_InvalidMany ej_InvalidMany)) (fm2 (fmI (n := "InvalidIndex") (c := "InvalidSheep") (kit_mk ew_InvalidIndex_InvalidSheep ew_InvalidIndex_InvalidIndex ea_InvalidSheep ej_InvalidSheep)) (fm2 (fmI (n := "InvalidIndex") (c := "InvalidPlace") (kit_mk ew_InvalidIndex_InvalidPlace ew_InvalidIndex_InvalidIndex ea_InvalidPlace ej_InvalidPlace)) (fm2 (fmI (n := "InvalidIndex") (c := "InvalidRun") (kit_mk ew_InvalidIndex_InvalidRun ew_InvalidIndex_InvalidIndex ea_InvalidRun ej_InvalidRun)) (fm2 (fmI (n := "InvalidIndex") (c := "InvalidIndex") (kit_mk ew_InvalidIndex_InvalidIndex ew_InvalidIndex_InvalidIndex ea_InvalidIndex ej_InvalidIndex)) (fm2 (fmI (n := "InvalidIndex") (c := "Unlike") (kit_mk ew_InvalidIndex_Unlike ew_InvalidIndex_InvalidIndex ea_Unlike ej_Unlike)) (fm2 (fmI (n := "InvalidIndex") (c := "NothingToUndo") (kit_mk ew_InvalidIndex_NothingToUndo ew_InvalidIndex_InvalidIndex ea_NothingToUndo ej_NothingToUndo)) (fm2 (fmI (n := "InvalidIndex") (c := "TooMany") (kit_mk ew_InvalidIndex_TooMany ew_InvalidIndex_InvalidIndex ea_TooMany ej_TooMany)) (fm2 (fmI (n := "InvalidIndex") (c := "InvalidText") (kit_mk ew_InvalidIndex_InvalidText ew_InvalidIndex_InvalidIndex ea_InvalidText ej_InvalidText)) fm0)))))))))))) (fm2 (fm2 (fmI (n := "Unlike") (c := "DogError") (kit_mk ew_Unlike_DogError ew_Unlike_Unlike ea_DogError ej_DogError)) (fm2 (fmI (n := "Unlike") (c := "InvalidDrill") (kit_mk ew_Unlike_InvalidDrill ew_Unlike_Unlike ea_InvalidDrill ej_InvalidDrill)) (fm2 (fmI (n := "Unlike") (c := "InvalidBeginning") (kit_mk ew_Unlike_InvalidBeginning ew_Unlike_Unlike ea_InvalidBeginning ej_InvalidBeginning)) (fm2 (fmI (n := "Unlike") (c := "InvalidMany") (kit_mk ew_Unlike_InvalidMany ew_Unlike_Unlike ea_InvalidMany ej_InvalidMany)) (fm2 (fmI (n := "Unlike") (c := "InvalidSheep") (kit_mk ew_Unlike_InvalidSheep ew_Unlike_Unlike ea_InvalidSheep ej_InvalidSheep)) (fm2 (fmI (n := "Unlike") (c := "InvalidPlace") (kit_mk ew_Unlike_InvalidPlace ew_Unlike_Unlike ea_InvalidPlace ej_InvalidPlace)) (fm2 (fmI (n := "Unlike") (c := "InvalidRun") (kit_mk ew_Unlike_InvalidRun ew_Unlike_Unlike ea_InvalidRun ej_InvalidRun)) (fm2 (fmI (n := "Unlike") (c := "InvalidIndex") (kit_mk ew_Unlike_InvalidIndex ew_Unlike_Unlike ea_InvalidIndex ej_InvalidIndex)) (fm2 (fmI (n := "Unlike") (c := "Unlike") (kit_mk ew_Unlike_Unlike ew_Unlike_Unlike ea_Unlike ej_Unlike)) (fm2 (fmI (n := "Unlike") (c := "NothingToUndo") (kit_mk ew_Unlike_NothingToUndo ew_Unlike_Unlike ea_NothingToUndo ej_NothingToUndo)) (fm2 (fmI (n := "Unlike") (c := "TooMany") (kit_mk ew_Unlike_TooMany ew_Unlike_Unlike ea_TooMany ej_TooMany)) (fm2 (fmI (n := "Unlike") (c := "InvalidText") (kit_mk ew_Unlike_InvalidText ew_Unlike_Unlike ea_InvalidText ej_InvalidText)) fm0)))))))))))) (fm2 (fm2 (fmI (n := "NothingToUndo") (c := "DogError") (kit_mk ew_NothingToUndo_DogError ew_NothingToUndo_NothingToUndo ea_DogError ej_DogError)) (fm2 (fmI (n := "NothingToUndo") (c := "InvalidDrill") (kit_mk ew_NothingToUndo_InvalidDrill ew_NothingToUndo_NothingToUndo ea_InvalidDrill ej_InvalidDrill)) (fm2 (fmI (n := "NothingToUndo") (c := "InvalidBeginning") (kit_mk ew_NothingToUndo_InvalidBeginning ew_NothingToUndo_NothingToUndo ea_InvalidBeginning ej_InvalidBeginning)) (fm2 (fmI (n := "NothingToUndo") (c := "InvalidMany") (kit_mk ew_NothingToUndo_InvalidMany ew_NothingToUndo_NothingToUndo ea_InvalidMany ej_InvalidMany)) (fm2 (fmI (n := "NothingToUndo") (c := "InvalidSheep") (kit_mk ew_NothingToUndo_InvalidSheep ew_NothingToUndo_NothingToUndo ea_InvalidSheep ej_InvalidSheep)) (fm2 (fmI (n := "NothingToUndo") (c := "InvalidPlace") (kit_mk ew_NothingToUndo_InvalidPlace ew_NothingToUndo_NothingToUndo ea_InvalidPlace ej_InvalidPlace)) (fm2 (fmI (n := "NothingToUndo") (c := "InvalidRun") (kit_mk ew_NothingToUndo_InvalidRun ew_NothingToUndo_NothingToUndo ea_InvalidRun ej_InvalidRun)) (fm2 (fmI (n := "NothingToUndo") (c := "InvalidIndex") (kit_mk ew_NothingToUndo_InvalidIndex ew_NothingToUndo_NothingToUndo ea_InvalidIndex ej_InvalidIndex)) (fm2 (fmI (n := "NothingToUndo") (c := "Unlike") (kit_mk ew_NothingToUndo_Unlike ew_NothingToUndo_NothingToUndo ea_Unlike ej_Unlike)) (fm2 (fmI (n := "NothingToUndo") (c := "NothingToUndo") (kit_mk ew_NothingToUndo_NothingToUndo ew_NothingToUndo_NothingToUndo ea_NothingToUndo ej_NothingToUndo)) (fm2 (fmI (n := "NothingToUndo") (c := "TooMany") (kit_mk ew_NothingToUndo_TooMany ew_NothingToUndo_NothingToUndo ea_TooMany ej_TooMany)) (fm2 (fmI (n := "NothingToUndo") (c := "InvalidText") (kit_mk ew_NothingToUndo_InvalidText ew_NothingToUndo_NothingToUndo ea_InvalidText ej_InvalidText)) fm0)))))))))))) (fm2 (fm2 (fmI (n := "TooMany") (c := "DogError") (kit_mk ew_TooMany_DogError ew_TooMany_TooMany ea_DogError ej_DogError)) (fm2 (fmI (n := "TooMany") (c := "InvalidDrill") (kit_mk ew_TooMany_InvalidDrill ew_TooMany_TooMany ea_InvalidDrill ej_InvalidDrill)) (fm2 (fmI (n := "TooMany") (c := "InvalidBeginning") (kit_mk ew_TooMany_InvalidBeginning ew_TooMany_TooMany ea_InvalidBeginning ej_InvalidBeginning)) (fm2 (fmI (n := "TooMany") (c := "InvalidMany") (kit_mk ew_TooMany_InvalidMany ew_TooMany_TooMany ea_InvalidMany ej_InvalidMany)) (fm2 (fmI (n := "TooMany") (c := "InvalidSheep") (kit_mk ew_TooMany_InvalidSheep ew_TooMany_TooMany ea_InvalidSheep ej_InvalidSheep)) (fm2 (fmI (n := "TooMany") (c := "InvalidPlace") (kit_mk ew_TooMany_InvalidPlace ew_TooMany_TooMany ea_InvalidPlace ej_InvalidPlace)) (fm2 (fmI (n := "TooMany") (c := "InvalidRun") (kit_mk ew_TooMany_InvalidRun ew_TooMany_TooMany ea_InvalidRun ej_InvalidRun)) (fm2 (fmI (n := "TooMany") (c := "InvalidIndex") (kit_mk ew_TooMany_InvalidIndex ew_TooMany_TooMany ea_InvalidIndex ej_InvalidIndex)) (fm2 (fmI (n := "TooMany") (c := "Unlike") (kit_mk ew_TooMany_Unlike ew_TooMany_TooMany ea_Unlike ej_Unlike)) (fm2 (fmI (n := "TooMany") (c := "NothingToUndo") (kit_mk ew_TooMany_NothingToUndo ew_TooMany_TooMany ea_NothingToUndo ej_NothingToUndo)) (fm2 (fmI (n := "TooMany") (c := "TooMany") (kit_mk ew_TooMany_TooMany ew_TooMany_TooMany ea_TooMany ej_TooMany)) (fm2 (fmI (n := "TooMany") (c := "InvalidText") (kit_mk ew_TooMany_InvalidText ew_TooMany_TooMany ea_InvalidText ej_InvalidText)) fm0)))))))))))) (fm2 (fm2 (fmI (n := "InvalidText") (c := "DogError") (kit_mk ew_InvalidText_DogError ew_InvalidText_InvalidText ea_DogError ej_DogError)) (fm2 (fmI (n := "InvalidText") (c := "InvalidDrill") (kit_mk ew_InvalidText_InvalidDrill ew_InvalidText_InvalidText ea_InvalidDrill ej_InvalidDrill)) (fm2 (fmI (n := "InvalidText") (c := "InvalidBeginning") (kit_mk ew_InvalidText_InvalidBeginning ew_InvalidText_InvalidText ea_InvalidBeginning ej_InvalidBeginning)) (fm2 (fmI (n := "InvalidText") (c := "InvalidMany") (kit_mk ew_InvalidText_InvalidMany ew_InvalidText_InvalidText ea_InvalidMany ej_InvalidMany)) (fm2 (fmI (n := "InvalidText") (c := "InvalidSheep") (kit_mk ew_InvalidText_InvalidSheep ew_InvalidText_InvalidText ea_InvalidSheep ej_InvalidSheep)) (fm2 (fmI (n := "InvalidText") (c := "InvalidPlace") (kit_mk ew_InvalidText_InvalidPlace ew_InvalidText_InvalidText ea_InvalidPlace ej_InvalidPlace)) (fm2 (fmI (n := "InvalidText") (c := "InvalidRun") (kit_mk ew_InvalidText_InvalidRun ew_InvalidText_InvalidText ea_InvalidRun ej_InvalidRun)) (fm2 (fmI (n := "InvalidText") (c := "InvalidIndex") (kit_mk ew_InvalidText_InvalidIndex ew_InvalidText_InvalidText ea_InvalidIndex ej_InvalidIndex)) (fm2 (fmI (n := "InvalidText") (c := "Unlike") (kit_mk ew_InvalidText_Unlike ew_InvalidText_InvalidText ea_Unlike ej_Unlike)) (fm2 (fmI (n := "InvalidText") (c := "NothingToUndo") (kit_mk ew_InvalidText_NothingToUndo ew_InvalidText_InvalidText ea_NothingToUndo ej_NothingToUndo)) (fm2 (fmI (n := "InvalidText") (c := "TooMany") (kit_mk ew_InvalidText_TooMany ew_InvalidText_InvalidText ea_TooMany ej_TooMany)) (fm2 (fmI (n := "InvalidText") (c := "InvalidText") (kit_mk ew_InvalidText_InvalidText ew_InvalidText_InvalidText ea_InvalidText ej_InvalidText)) fm0)))))))))))) fm0)))))))))))) (fm2 (kit_ve ev_DogError) (fm2 (kit_ve ev_InvalidDrill) (fm2 (kit_ve ev_InvalidBeginning) (fm2 (kit_ve ev_InvalidMany) (fm2 (kit_ve ev_InvalidSheep) (fm2 (kit_ve ev_InvalidPlace) (fm2 (kit_ve ev_InvalidRun) (fm2 (kit_ve ev_InvalidIndex) (fm2 (kit_ve ev_Unlike) (fm2 (kit_ve ev_NothingToUndo) (fm2 (kit_ve ev_TooMany) (fm2 (kit_ve ev_InvalidText) fm0)))))))))))) gn gt,
    FA := fldAll_mk [(("TooMany", "limit"), C_TooMany), (("InvalidText", "line"), C_InvalidText)] rfl (fm2 eg_TooMany (fm2 eg_InvalidText fm0)) (fm2 ⟨⟨ec_TooMany, ed_TooMany, ee_TooMany, hd_TooMany⟩, hf_TooMany⟩ (fm2 ⟨⟨ec_InvalidText, ed_InvalidText, ee_InvalidText, hd_InvalidText⟩, hf_InvalidText⟩ fm0)),
    z_ValueError := PySem.W.mg_none_of X G z_ValueError,
    z_abs := PySem.W.mg_none_of X G z_abs,
    z_enumerate := PySem.W.mg_none_of X G z_enumerate,
    z_int := PySem.W.mg_none_of X G z_int,
    z_isinstance := PySem.W.mg_none_of X G z_isinstance,
    z_len := PySem.W.mg_none_of X G z_len,
    z_min := PySem.W.mg_none_of X G z_min,
    z_range := PySem.W.mg_none_of X G z_range }
  have tab1 := fun (x : Str) (c P : Addr) (d : DefRec) (t : PySem.W.tabIn K x = some (c, P)) (r : (recsOf q).find? (fun e => e.name == x) = some d) => PySem.W.tab_of T X r t
  have hT : ∀ p ∈ ([(cc4, pp4)] : List (Addr × Addr)), h.get? p.2 = some { cls := .none, data := .fields #[] } := fun p hp => by
    simp only [List.mem_cons, List.not_mem_nil, or_false] at hp
    rcases hp with rfl
    · exact (tab1 _ _ _ _ tt4 q4).2
  have hC : ∀ p ∈ ([(cc4, pp4)] : List (Addr × Addr)), PySem.W.CodeHd h p.1 p.2 := fun p hp => by
    simp only [List.mem_cons, List.not_mem_nil, or_false] at hp
    rcases hp with rfl
    · exact (tab1 _ _ _ _ tt4 q4).1
  have hN : ∀ p ∈ ([(cc4, pp4)] : List (Addr × Addr)), K.lookup p.2 = none := fun p hp => by
    simp only [List.mem_cons, List.not_mem_nil, or_false] at hp
    rcases hp with rfl
    · exact r4
  have hin : ∀ p ∈ tabsOf K, ∃ c, (c, p.1) ∈ ([(cc4, pp4)] : List (Addr × Addr)) := by
    rw [tabs]
    intro p hp
    simp only [List.mem_cons, List.not_mem_nil, or_false] at hp
    rcases hp with rfl
    · exact ⟨cc4, by simp⟩
  exact ⟨(PySem.W.fnOf "law" "law" (defArgs s_law) (defBody s_law) (defScope s_law) .none kV4 dc4 pm4 an4 (.ref cc4) ct4), [(cc4, pp4)], spD K 1 (S_law), hT, hN, hC, fun s u => .of_eq rfl, fun H a ns hl _ hH hS => law_spT hin (fun ns T Q QX hl q => law_in ns T Q QX hl q) H a ns hl hH hS, fun base _ _ TB => ok_law M⟩
end DL
set_option Elab.async false
set_option linter.all false
set_option maxRecDepth 100000
set_option maxHeartbeats 4000000
set_option autoImplicit false
open PySem PySem.W PyProof.Rows
set_option maxHeartbeats 0 in
theorem PySem.Challenge.cw_dogruns_k17_errors_and_their_classes_holds : PySem.Challenge.rw_dogruns_k17_errors_and_their_classes.Holds := by
  w_on; o_law; k_head; (case hw => w_witness2)
  k_fill
  refine DL.walk_ofD (l := PySem.Challenge.rw_dogruns_k17_errors_and_their_classes) (n := 63) (k := 3) (x := "_law_script") (CX := fun w => L2.CX PySem.Challenge.rw_dogruns_k17_errors_and_their_classes.prog w) rfl (by decide) rfl ⟨rfl, by decide, by decide⟩ (fun w h Y => PySem.W.kIn_of Y) ?F ?X
  case F =>
    intro w mg mb fa h lo mean Y KX T hmg
    refine' DL.all_mk KX T hmg ?a0 ?l0 ?c0 ?k0 ?a1 ?l1 ?c1 ?k1 ?a2 ?l2 ?c2 ?k2 ?a3 ?l3 ?c3 ?k3 ?a4 ?l4 ?c4 ?k4 ?y4 ?p4 ?r4 ?q4 ?u__law_lots ?u__law_tried ?u__law_signs_right ?u__law_refused ?u__law_called ?u__law_shows ?u__law_nested ?u__law_ended ?u__law_back ?u__law_full_right ?u__law_first_calls ?u__law_pair_calls ?u__law_place_calls ?u__law_many_calls ?eg_InvalidDrill ?ex_InvalidDrill ?ek_InvalidDrill ?eb_InvalidDrill ?et_InvalidDrill ?eg_InvalidBeginning ?ex_InvalidBeginning ?ek_InvalidBeginning ?eb_InvalidBeginning ?et_InvalidBeginning ?eg_InvalidMany ?ex_InvalidMany ?ek_InvalidMany ?eb_InvalidMany ?et_InvalidMany ?eg_InvalidSheep ?ex_InvalidSheep ?ek_InvalidSheep ?eb_InvalidSheep ?et_InvalidSheep ?eg_InvalidPlace ?ex_InvalidPlace ?ek_InvalidPlace ?eb_InvalidPlace ?et_InvalidPlace ?eg_InvalidRun ?ex_InvalidRun ?ek_InvalidRun ?eb_InvalidRun ?et_InvalidRun ?eg_InvalidIndex ?ex_InvalidIndex ?ek_InvalidIndex ?eb_InvalidIndex ?et_InvalidIndex ?eg_Unlike ?ex_Unlike ?ek_Unlike ?eb_Unlike ?et_Unlike ?eg_NothingToUndo ?ex_NothingToUndo ?ek_NothingToUndo ?eb_NothingToUndo ?et_NothingToUndo ?eg_DogError ?ex_DogError ?ek_DogError ?eb_DogError ?et_DogError ?eg_TooMany ?eg_InvalidText ?ik_TooMany ?eb_TooMany ?et_TooMany ?il_TooMany ?im_TooMany ?ia_TooMany ?ii_TooMany ?it_TooMany ?ip_TooMany ?ic_TooMany ?in_TooMany ?ik_InvalidText ?eb_InvalidText ?et_InvalidText ?il_InvalidText ?im_InvalidText ?ia_InvalidText ?ii_InvalidText ?it_InvalidText ?ip_InvalidText ?ic_InvalidText ?in_InvalidText ?bk_DogError ?br_DogError ?ba_DogError ?bi_DogError ?gn ?gt ?ea_DogError ?ec_DogError ?ed_DogError ?ee_DogError ?ef_DogError ?eh_DogError ?ea_InvalidDrill ?ec_InvalidDrill ?ed_InvalidDrill ?ee_InvalidDrill ?ef_InvalidDrill ?eh_InvalidDrill ?ea_InvalidBeginning ?ec_InvalidBeginning ?ed_InvalidBeginning ?ee_InvalidBeginning ?ef_InvalidBeginning ?eh_InvalidBeginning ?ea_InvalidMany ?ec_InvalidMany ?ed_InvalidMany ?ee_InvalidMany ?ef_InvalidMany ?eh_InvalidMany ?ea_InvalidSheep ?ec_InvalidSheep ?ed_InvalidSheep ?ee_InvalidSheep ?ef_InvalidSheep ?eh_InvalidSheep ?ea_InvalidPlace ?ec_InvalidPlace ?ed_InvalidPlace ?ee_InvalidPlace ?ef_InvalidPlace ?eh_InvalidPlace ?ea_InvalidRun ?ec_InvalidRun ?ed_InvalidRun ?ee_InvalidRun ?ef_InvalidRun ?eh_InvalidRun ?ea_InvalidIndex ?ec_InvalidIndex ?ed_InvalidIndex ?ee_InvalidIndex ?ef_InvalidIndex ?eh_InvalidIndex ?ea_Unlike ?ec_Unlike ?ed_Unlike ?ee_Unlike ?ef_Unlike ?eh_Unlike ?ea_NothingToUndo ?ec_NothingToUndo ?ed_NothingToUndo ?ee_NothingToUndo ?ef_NothingToUndo ?eh_NothingToUndo ?ea_TooMany ?ec_TooMany ?ed_TooMany ?ee_TooMany ?ef_TooMany ?eh_TooMany ?ea_InvalidText ?ec_InvalidText ?ed_InvalidText ?ee_InvalidText ?ef_InvalidText ?eh_InvalidText ?ev_DogError ?ej_DogError ?ew_DogError_DogError ?ew_DogError_InvalidDrill ?ew_DogError_InvalidBeginning ?ew_DogError_InvalidMany ?ew_DogError_InvalidSheep ?ew_DogError_InvalidPlace ?ew_DogError_InvalidRun ?ew_DogError_InvalidIndex ?ew_DogError_Unlike ?ew_DogError_NothingToUndo ?ew_DogError_TooMany ?ew_DogError_InvalidText ?ev_InvalidDrill ?ej_InvalidDrill ?ew_InvalidDrill_DogError ?ew_InvalidDrill_InvalidDrill ?ew_InvalidDrill_InvalidBeginning ?ew_InvalidDrill_InvalidMany ?ew_InvalidDrill_InvalidSheep ?ew_InvalidDrill_InvalidPlace ?ew_InvalidDrill_InvalidRun ?ew_InvalidDrill_InvalidIndex ?ew_InvalidDrill_Unlike ?ew_InvalidDrill_NothingToUndo ?ew_InvalidDrill_TooMany ?ew_InvalidDrill_InvalidText ?ev_InvalidBeginning ?ej_InvalidBeginning ?ew_InvalidBeginning_DogError ?ew_InvalidBeginning_InvalidDrill ?ew_InvalidBeginning_InvalidBeginning ?ew_InvalidBeginning_InvalidMany ?ew_InvalidBeginning_InvalidSheep ?ew_InvalidBeginning_InvalidPlace ?ew_InvalidBeginning_InvalidRun ?ew_InvalidBeginning_InvalidIndex ?ew_InvalidBeginning_Unlike ?ew_InvalidBeginning_NothingToUndo ?ew_InvalidBeginning_TooMany ?ew_InvalidBeginning_InvalidText ?ev_InvalidMany ?ej_InvalidMany ?ew_InvalidMany_DogError ?ew_InvalidMany_InvalidDrill ?ew_InvalidMany_InvalidBeginning ?ew_InvalidMany_InvalidMany ?ew_InvalidMany_InvalidSheep ?ew_InvalidMany_InvalidPlace ?ew_InvalidMany_InvalidRun ?ew_InvalidMany_InvalidIndex ?ew_InvalidMany_Unlike ?ew_InvalidMany_NothingToUndo ?ew_InvalidMany_TooMany ?ew_InvalidMany_InvalidText ?ev_InvalidSheep ?ej_InvalidSheep ?ew_InvalidSheep_DogError ?ew_InvalidSheep_InvalidDrill ?ew_InvalidSheep_InvalidBeginning ?ew_InvalidSheep_InvalidMany ?ew_InvalidSheep_InvalidSheep ?ew_InvalidSheep_InvalidPlace ?ew_InvalidSheep_InvalidRun ?ew_InvalidSheep_InvalidIndex ?ew_InvalidSheep_Unlike ?ew_InvalidSheep_NothingToUndo ?ew_InvalidSheep_TooMany ?ew_InvalidSheep_InvalidText ?ev_InvalidPlace ?ej_InvalidPlace ?ew_InvalidPlace_DogError ?ew_InvalidPlace_InvalidDrill ?ew_InvalidPlace_InvalidBeginning ?ew_InvalidPlace_InvalidMany ?ew_InvalidPlace_InvalidSheep ?ew_InvalidPlace_InvalidPlace ?ew_InvalidPlace_InvalidRun ?ew_InvalidPlace_InvalidIndex ?ew_InvalidPlace_Unlike ?ew_InvalidPlace_NothingToUndo ?ew_InvalidPlace_TooMany ?ew_InvalidPlace_InvalidText ?ev_InvalidRun ?ej_InvalidRun ?ew_InvalidRun_DogError ?ew_InvalidRun_InvalidDrill ?ew_InvalidRun_InvalidBeginning ?ew_InvalidRun_InvalidMany ?ew_InvalidRun_InvalidSheep ?ew_InvalidRun_InvalidPlace ?ew_InvalidRun_InvalidRun ?ew_InvalidRun_InvalidIndex ?ew_InvalidRun_Unlike ?ew_InvalidRun_NothingToUndo ?ew_InvalidRun_TooMany ?ew_InvalidRun_InvalidText ?ev_InvalidIndex ?ej_InvalidIndex ?ew_InvalidIndex_DogError ?ew_InvalidIndex_InvalidDrill ?ew_InvalidIndex_InvalidBeginning ?ew_InvalidIndex_InvalidMany ?ew_InvalidIndex_InvalidSheep ?ew_InvalidIndex_InvalidPlace ?ew_InvalidIndex_InvalidRun ?ew_InvalidIndex_InvalidIndex ?ew_InvalidIndex_Unlike ?ew_InvalidIndex_NothingToUndo ?ew_InvalidIndex_TooMany ?ew_InvalidIndex_InvalidText ?ev_Unlike ?ej_Unlike ?ew_Unlike_DogError ?ew_Unlike_InvalidDrill ?ew_Unlike_InvalidBeginning ?ew_Unlike_InvalidMany ?ew_Unlike_InvalidSheep ?ew_Unlike_InvalidPlace ?ew_Unlike_InvalidRun ?ew_Unlike_InvalidIndex ?ew_Unlike_Unlike ?ew_Unlike_NothingToUndo ?ew_Unlike_TooMany ?ew_Unlike_InvalidText ?ev_NothingToUndo ?ej_NothingToUndo ?ew_NothingToUndo_DogError ?ew_NothingToUndo_InvalidDrill ?ew_NothingToUndo_InvalidBeginning ?ew_NothingToUndo_InvalidMany ?ew_NothingToUndo_InvalidSheep ?ew_NothingToUndo_InvalidPlace ?ew_NothingToUndo_InvalidRun ?ew_NothingToUndo_InvalidIndex ?ew_NothingToUndo_Unlike ?ew_NothingToUndo_NothingToUndo ?ew_NothingToUndo_TooMany ?ew_NothingToUndo_InvalidText ?ev_TooMany ?ej_TooMany ?ew_TooMany_DogError ?ew_TooMany_InvalidDrill ?ew_TooMany_InvalidBeginning ?ew_TooMany_InvalidMany ?ew_TooMany_InvalidSheep ?ew_TooMany_InvalidPlace ?ew_TooMany_InvalidRun ?ew_TooMany_InvalidIndex ?ew_TooMany_Unlike ?ew_TooMany_NothingToUndo ?ew_TooMany_TooMany ?ew_TooMany_InvalidText ?ev_InvalidText ?ej_InvalidText ?ew_InvalidText_DogError ?ew_InvalidText_InvalidDrill ?ew_InvalidText_InvalidBeginning ?ew_InvalidText_InvalidMany ?ew_InvalidText_InvalidSheep ?ew_InvalidText_InvalidPlace ?ew_InvalidText_InvalidRun ?ew_InvalidText_InvalidIndex ?ew_InvalidText_Unlike ?ew_InvalidText_NothingToUndo ?ew_InvalidText_TooMany ?ew_InvalidText_InvalidText ?hd_TooMany ?hf_TooMany ?hd_InvalidText ?hf_InvalidText ?z_ValueError ?z_abs ?z_enumerate ?z_int ?z_isinstance ?z_len ?z_min ?z_range
    (case a0 => k_is); (case l0 => k_is); (case c0 => k_is); (case k0 => k_is); (case a1 => k_is); (case l1 => k_is); (case c1 => k_is); (case k1 => k_is)
    (case a2 => k_is); (case l2 => k_is); (case c2 => k_is); (case k2 => k_is); (case a3 => k_is); (case l3 => k_is); (case c3 => k_is); (case k3 => k_is)
    (case a4 => k_is); (case l4 => k_is); (case c4 => k_is); (case k4 => k_is); (case y4 => k_is); (case p4 => rfl); (case r4 => first | kernel_rfl | rfl | decide +kernel); (case q4 => first | rfl | kernel_rfl)
    (case u__law_lots => k_is); (case u__law_tried => k_is); (case u__law_signs_right => k_is); (case u__law_refused => k_is); (case u__law_called => k_is); (case u__law_shows => k_is); (case u__law_nested => k_is); (case u__law_ended => k_is)
    (case u__law_back => k_is); (case u__law_full_right => k_is); (case u__law_first_calls => k_is); (case u__law_pair_calls => k_is); (case u__law_place_calls => k_is); (case u__law_many_calls => k_is); (case eg_InvalidDrill => k_is); (case ex_InvalidDrill => k_exc)
    (case ek_InvalidDrill => k_is); (case eb_InvalidDrill => k_is); (case et_InvalidDrill => k_is); (case eg_InvalidBeginning => k_is); (case ex_InvalidBeginning => k_exc); (case ek_InvalidBeginning => k_is); (case eb_InvalidBeginning => k_is); (case et_InvalidBeginning => k_is)
    (case eg_InvalidMany => k_is); (case ex_InvalidMany => k_exc); (case ek_InvalidMany => k_is); (case eb_InvalidMany => k_is); (case et_InvalidMany => k_is); (case eg_InvalidSheep => k_is); (case ex_InvalidSheep => k_exc); (case ek_InvalidSheep => k_is)
    (case eb_InvalidSheep => k_is); (case et_InvalidSheep => k_is); (case eg_InvalidPlace => k_is); (case ex_InvalidPlace => k_exc); (case ek_InvalidPlace => k_is); (case eb_InvalidPlace => k_is); (case et_InvalidPlace => k_is); (case eg_InvalidRun => k_is)
    (case ex_InvalidRun => k_exc); (case ek_InvalidRun => k_is); (case eb_InvalidRun => k_is); (case et_InvalidRun => k_is); (case eg_InvalidIndex => k_is); (case ex_InvalidIndex => k_exc); (case ek_InvalidIndex => k_is); (case eb_InvalidIndex => k_is)
    (case et_InvalidIndex => k_is); (case eg_Unlike => k_is); (case ex_Unlike => k_exc); (case ek_Unlike => k_is); (case eb_Unlike => k_is); (case et_Unlike => k_is); (case eg_NothingToUndo => k_is); (case ex_NothingToUndo => k_exc)
    (case ek_NothingToUndo => k_is); (case eb_NothingToUndo => k_is); (case et_NothingToUndo => k_is); (case eg_DogError => k_is); (case ex_DogError => k_exc); (case ek_DogError => k_is); (case eb_DogError => k_is); (case et_DogError => k_is)
    (case eg_TooMany => k_is); (case eg_InvalidText => k_is); (case ik_TooMany => k_is); (case eb_TooMany => k_is); (case et_TooMany => k_is); (case il_TooMany => k_is); (case im_TooMany => first | rfl | kernel_rfl | decide +kernel); (case ia_TooMany => k_is)
    (case ii_TooMany => k_is); (case it_TooMany => k_is); (case ip_TooMany => k_is); (case ic_TooMany => k_is); (case in_TooMany => k_is); (case ik_InvalidText => k_is); (case eb_InvalidText => k_is); (case et_InvalidText => k_is)
    (case il_InvalidText => k_is); (case im_InvalidText => first | rfl | kernel_rfl | decide +kernel); (case ia_InvalidText => k_is); (case ii_InvalidText => k_is); (case it_InvalidText => k_is); (case ip_InvalidText => k_is); (case ic_InvalidText => k_is); (case in_InvalidText => k_is)
    (case bk_DogError => k_is); (case br_DogError => k_is); (case ba_DogError => k_is); (case bi_DogError => k_is); (case gn => k_is); (case gt => k_is); (case ea_DogError => k_is); (case ec_DogError => k_is)
    (case ed_DogError => k_is); (case ee_DogError => k_is); (case ef_DogError => k_is); (case eh_DogError => k_is); (case ea_InvalidDrill => k_is); (case ec_InvalidDrill => k_is); (case ed_InvalidDrill => k_is); (case ee_InvalidDrill => k_is)
    (case ef_InvalidDrill => k_is); (case eh_InvalidDrill => k_is); (case ea_InvalidBeginning => k_is); (case ec_InvalidBeginning => k_is); (case ed_InvalidBeginning => k_is); (case ee_InvalidBeginning => k_is); (case ef_InvalidBeginning => k_is); (case eh_InvalidBeginning => k_is)
    (case ea_InvalidMany => k_is); (case ec_InvalidMany => k_is); (case ed_InvalidMany => k_is); (case ee_InvalidMany => k_is); (case ef_InvalidMany => k_is); (case eh_InvalidMany => k_is); (case ea_InvalidSheep => k_is); (case ec_InvalidSheep => k_is)
    (case ed_InvalidSheep => k_is); (case ee_InvalidSheep => k_is); (case ef_InvalidSheep => k_is); (case eh_InvalidSheep => k_is); (case ea_InvalidPlace => k_is); (case ec_InvalidPlace => k_is); (case ed_InvalidPlace => k_is); (case ee_InvalidPlace => k_is)
    (case ef_InvalidPlace => k_is); (case eh_InvalidPlace => k_is); (case ea_InvalidRun => k_is); (case ec_InvalidRun => k_is); (case ed_InvalidRun => k_is); (case ee_InvalidRun => k_is); (case ef_InvalidRun => k_is); (case eh_InvalidRun => k_is)
    (case ea_InvalidIndex => k_is); (case ec_InvalidIndex => k_is); (case ed_InvalidIndex => k_is); (case ee_InvalidIndex => k_is); (case ef_InvalidIndex => k_is); (case eh_InvalidIndex => k_is); (case ea_Unlike => k_is); (case ec_Unlike => k_is)
    (case ed_Unlike => k_is); (case ee_Unlike => k_is); (case ef_Unlike => k_is); (case eh_Unlike => k_is); (case ea_NothingToUndo => k_is); (case ec_NothingToUndo => k_is); (case ed_NothingToUndo => k_is); (case ee_NothingToUndo => k_is)
    (case ef_NothingToUndo => k_is); (case eh_NothingToUndo => k_is); (case ea_TooMany => k_is); (case ec_TooMany => k_is); (case ed_TooMany => k_is); (case ee_TooMany => k_is); (case ef_TooMany => k_is); (case eh_TooMany => k_is)
    (case ea_InvalidText => k_is); (case ec_InvalidText => k_is); (case ed_InvalidText => k_is); (case ee_InvalidText => k_is); (case ef_InvalidText => k_is); (case eh_InvalidText => k_is); (case ev_DogError => k_is); (case ej_DogError => k_is)
    (case ew_DogError_DogError => first | k_is | rfl); (case ew_DogError_InvalidDrill => first | k_is | rfl); (case ew_DogError_InvalidBeginning => first | k_is | rfl); (case ew_DogError_InvalidMany => first | k_is | rfl); (case ew_DogError_InvalidSheep => first | k_is | rfl); (case ew_DogError_InvalidPlace => first | k_is | rfl); (case ew_DogError_InvalidRun => first | k_is | rfl); (case ew_DogError_InvalidIndex => first | k_is | rfl)
    (case ew_DogError_Unlike => first | k_is | rfl); (case ew_DogError_NothingToUndo => first | k_is | rfl); (case ew_DogError_TooMany => first | k_is | rfl); (case ew_DogError_InvalidText => first | k_is | rfl); (case ev_InvalidDrill => k_is); (case ej_InvalidDrill => k_is); (case ew_InvalidDrill_DogError => first | k_is | rfl); (case ew_InvalidDrill_InvalidDrill => first | k_is | rfl)
    (case ew_InvalidDrill_InvalidBeginning => first | k_is | rfl); (case ew_InvalidDrill_InvalidMany => first | k_is | rfl); (case ew_InvalidDrill_InvalidSheep => first | k_is | rfl); (case ew_InvalidDrill_InvalidPlace => first | k_is | rfl); (case ew_InvalidDrill_InvalidRun => first | k_is | rfl); (case ew_InvalidDrill_InvalidIndex => first | k_is | rfl); (case ew_InvalidDrill_Unlike => first | k_is | rfl); (case ew_InvalidDrill_NothingToUndo => first | k_is | rfl)
    (case ew_InvalidDrill_TooMany => first | k_is | rfl); (case ew_InvalidDrill_InvalidText => first | k_is | rfl); (case ev_InvalidBeginning => k_is); (case ej_InvalidBeginning => k_is); (case ew_InvalidBeginning_DogError => first | k_is | rfl); (case ew_InvalidBeginning_InvalidDrill => first | k_is | rfl); (case ew_InvalidBeginning_InvalidBeginning => first | k_is | rfl); (case ew_InvalidBeginning_InvalidMany => first | k_is | rfl)
    (case ew_InvalidBeginning_InvalidSheep => first | k_is | rfl); (case ew_InvalidBeginning_InvalidPlace => first | k_is | rfl); (case ew_InvalidBeginning_InvalidRun => first | k_is | rfl); (case ew_InvalidBeginning_InvalidIndex => first | k_is | rfl); (case ew_InvalidBeginning_Unlike => first | k_is | rfl); (case ew_InvalidBeginning_NothingToUndo => first | k_is | rfl); (case ew_InvalidBeginning_TooMany => first | k_is | rfl); (case ew_InvalidBeginning_InvalidText => first | k_is | rfl)
    (case ev_InvalidMany => k_is); (case ej_InvalidMany => k_is); (case ew_InvalidMany_DogError => first | k_is | rfl); (case ew_InvalidMany_InvalidDrill => first | k_is | rfl); (case ew_InvalidMany_InvalidBeginning => first | k_is | rfl); (case ew_InvalidMany_InvalidMany => first | k_is | rfl); (case ew_InvalidMany_InvalidSheep => first | k_is | rfl); (case ew_InvalidMany_InvalidPlace => first | k_is | rfl)
    (case ew_InvalidMany_InvalidRun => first | k_is | rfl); (case ew_InvalidMany_InvalidIndex => first | k_is | rfl); (case ew_InvalidMany_Unlike => first | k_is | rfl); (case ew_InvalidMany_NothingToUndo => first | k_is | rfl); (case ew_InvalidMany_TooMany => first | k_is | rfl); (case ew_InvalidMany_InvalidText => first | k_is | rfl); (case ev_InvalidSheep => k_is); (case ej_InvalidSheep => k_is)
    (case ew_InvalidSheep_DogError => first | k_is | rfl); (case ew_InvalidSheep_InvalidDrill => first | k_is | rfl); (case ew_InvalidSheep_InvalidBeginning => first | k_is | rfl); (case ew_InvalidSheep_InvalidMany => first | k_is | rfl); (case ew_InvalidSheep_InvalidSheep => first | k_is | rfl); (case ew_InvalidSheep_InvalidPlace => first | k_is | rfl); (case ew_InvalidSheep_InvalidRun => first | k_is | rfl); (case ew_InvalidSheep_InvalidIndex => first | k_is | rfl)
    (case ew_InvalidSheep_Unlike => first | k_is | rfl); (case ew_InvalidSheep_NothingToUndo => first | k_is | rfl); (case ew_InvalidSheep_TooMany => first | k_is | rfl); (case ew_InvalidSheep_InvalidText => first | k_is | rfl); (case ev_InvalidPlace => k_is); (case ej_InvalidPlace => k_is); (case ew_InvalidPlace_DogError => first | k_is | rfl); (case ew_InvalidPlace_InvalidDrill => first | k_is | rfl)
    (case ew_InvalidPlace_InvalidBeginning => first | k_is | rfl); (case ew_InvalidPlace_InvalidMany => first | k_is | rfl); (case ew_InvalidPlace_InvalidSheep => first | k_is | rfl); (case ew_InvalidPlace_InvalidPlace => first | k_is | rfl); (case ew_InvalidPlace_InvalidRun => first | k_is | rfl); (case ew_InvalidPlace_InvalidIndex => first | k_is | rfl); (case ew_InvalidPlace_Unlike => first | k_is | rfl); (case ew_InvalidPlace_NothingToUndo => first | k_is | rfl)
    (case ew_InvalidPlace_TooMany => first | k_is | rfl); (case ew_InvalidPlace_InvalidText => first | k_is | rfl); (case ev_InvalidRun => k_is); (case ej_InvalidRun => k_is); (case ew_InvalidRun_DogError => first | k_is | rfl); (case ew_InvalidRun_InvalidDrill => first | k_is | rfl); (case ew_InvalidRun_InvalidBeginning => first | k_is | rfl); (case ew_InvalidRun_InvalidMany => first | k_is | rfl)
    (case ew_InvalidRun_InvalidSheep => first | k_is | rfl); (case ew_InvalidRun_InvalidPlace => first | k_is | rfl); (case ew_InvalidRun_InvalidRun => first | k_is | rfl); (case ew_InvalidRun_InvalidIndex => first | k_is | rfl); (case ew_InvalidRun_Unlike => first | k_is | rfl); (case ew_InvalidRun_NothingToUndo => first | k_is | rfl); (case ew_InvalidRun_TooMany => first | k_is | rfl); (case ew_InvalidRun_InvalidText => first | k_is | rfl)
    (case ev_InvalidIndex => k_is); (case ej_InvalidIndex => k_is); (case ew_InvalidIndex_DogError => first | k_is | rfl); (case ew_InvalidIndex_InvalidDrill => first | k_is | rfl); (case ew_InvalidIndex_InvalidBeginning => first | k_is | rfl); (case ew_InvalidIndex_InvalidMany => first | k_is | rfl); (case ew_InvalidIndex_InvalidSheep => first | k_is | rfl); (case ew_InvalidIndex_InvalidPlace => first | k_is | rfl)
    (case ew_InvalidIndex_InvalidRun => first | k_is | rfl); (case ew_InvalidIndex_InvalidIndex => first | k_is | rfl); (case ew_InvalidIndex_Unlike => first | k_is | rfl); (case ew_InvalidIndex_NothingToUndo => first | k_is | rfl); (case ew_InvalidIndex_TooMany => first | k_is | rfl); (case ew_InvalidIndex_InvalidText => first | k_is | rfl); (case ev_Unlike => k_is); (case ej_Unlike => k_is)
    (case ew_Unlike_DogError => first | k_is | rfl); (case ew_Unlike_InvalidDrill => first | k_is | rfl); (case ew_Unlike_InvalidBeginning => first | k_is | rfl); (case ew_Unlike_InvalidMany => first | k_is | rfl); (case ew_Unlike_InvalidSheep => first | k_is | rfl); (case ew_Unlike_InvalidPlace => first | k_is | rfl); (case ew_Unlike_InvalidRun => first | k_is | rfl); (case ew_Unlike_InvalidIndex => first | k_is | rfl)
    (case ew_Unlike_Unlike => first | k_is | rfl); (case ew_Unlike_NothingToUndo => first | k_is | rfl); (case ew_Unlike_TooMany => first | k_is | rfl); (case ew_Unlike_InvalidText => first | k_is | rfl); (case ev_NothingToUndo => k_is); (case ej_NothingToUndo => k_is); (case ew_NothingToUndo_DogError => first | k_is | rfl); (case ew_NothingToUndo_InvalidDrill => first | k_is | rfl)
    (case ew_NothingToUndo_InvalidBeginning => first | k_is | rfl); (case ew_NothingToUndo_InvalidMany => first | k_is | rfl); (case ew_NothingToUndo_InvalidSheep => first | k_is | rfl); (case ew_NothingToUndo_InvalidPlace => first | k_is | rfl); (case ew_NothingToUndo_InvalidRun => first | k_is | rfl); (case ew_NothingToUndo_InvalidIndex => first | k_is | rfl); (case ew_NothingToUndo_Unlike => first | k_is | rfl); (case ew_NothingToUndo_NothingToUndo => first | k_is | rfl)
    (case ew_NothingToUndo_TooMany => first | k_is | rfl); (case ew_NothingToUndo_InvalidText => first | k_is | rfl); (case ev_TooMany => k_is); (case ej_TooMany => k_is); (case ew_TooMany_DogError => first | k_is | rfl); (case ew_TooMany_InvalidDrill => first | k_is | rfl); (case ew_TooMany_InvalidBeginning => first | k_is | rfl); (case ew_TooMany_InvalidMany => first | k_is | rfl)
    (case ew_TooMany_InvalidSheep => first | k_is | rfl); (case ew_TooMany_InvalidPlace => first | k_is | rfl); (case ew_TooMany_InvalidRun => first | k_is | rfl); (case ew_TooMany_InvalidIndex => first | k_is | rfl); (case ew_TooMany_Unlike => first | k_is | rfl); (case ew_TooMany_NothingToUndo => first | k_is | rfl); (case ew_TooMany_TooMany => first | k_is | rfl); (case ew_TooMany_InvalidText => first | k_is | rfl)
    (case ev_InvalidText => k_is); (case ej_InvalidText => k_is); (case ew_InvalidText_DogError => first | k_is | rfl); (case ew_InvalidText_InvalidDrill => first | k_is | rfl); (case ew_InvalidText_InvalidBeginning => first | k_is | rfl); (case ew_InvalidText_InvalidMany => first | k_is | rfl); (case ew_InvalidText_InvalidSheep => first | k_is | rfl); (case ew_InvalidText_InvalidPlace => first | k_is | rfl)
    (case ew_InvalidText_InvalidRun => first | k_is | rfl); (case ew_InvalidText_InvalidIndex => first | k_is | rfl); (case ew_InvalidText_Unlike => first | k_is | rfl); (case ew_InvalidText_NothingToUndo => first | k_is | rfl); (case ew_InvalidText_TooMany => first | k_is | rfl); (case ew_InvalidText_InvalidText => first | k_is | rfl); (case hd_TooMany => k_is); (case hf_TooMany => k_is)
    (case hd_InvalidText => k_is); (case hf_InvalidText => k_is); (case z_ValueError => k_is); (case z_abs => k_is); (case z_enumerate => k_is); (case z_int => k_is); (case z_isinstance => k_is); (case z_len => k_is)
    (case z_min => k_is); (case z_range => k_is)
  case X =>
    intro w H s e s' h
    exact DL.cx_none h
