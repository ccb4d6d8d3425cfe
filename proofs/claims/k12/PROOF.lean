import PyProof.Rows.All
import Wide.All
import OpenK.AllK
import Wide.FinOn
import HandS.ForMost
import HandS.ForExc
import HandS.TryMany
import HandS.Walk
import HandS.TupAny
import HandS.TupMul
import HandS.Wide
import HandS.IsInst
import HandS.Zip
import HandS.Flow
import HandS.Lambda
import HandS.EndTab
import HandS.ExcValue
import HandS.ExcInit
import KE.DataEq
import PyProof.ListMulRoad
import PyProof.FactsAll.tuple_2
import PyProof.EnumMake
import HandS.Style
import HandS.SortKw
import HandS.Dict
import HandS.CallLocal
import HandS.ExcField
import HandS.ClsMeth
import HandS.ExcIs
import KE.KExcIs
import HandS.Text
import HandS.StrMore
import HandS.RaiseMore
import HandS.Iter
import HandS.Deep
import HandS.SetFor
import HandS.Strs
import PyProof.StrOps2
import PySem.Challenge.RW_dogruns_k12_texts_of_drills
set_option Elab.async false
set_option linter.all false
set_option maxRecDepth 100000
set_option maxHeartbeats 4000000
/-! try with several clauses, some of which name the error. -/
namespace DL
open PySem PySem.Spec PyProof.Rows L2
/-- a clause: its class, the slot of its name, its suite -/
structure Cl where
  c : Value
  i : Option Nat
  ts : Addr → Value → Option Addr → TS
def outEnds (i : Nat) (D : Ends) : Ends where
  nx := fun σ H => D.nx (σ.set i none) H
  rt := D.rt
  bk := fun σ H => D.bk (σ.set i none) H
  ct := fun σ H => D.ct (σ.set i none) H
def Cl.run (k : Cl) (D : Ends) (cls : Value) (d : Option Addr) (σ : L2.St) (H : Hp) : Prop := ∀ a, H a = none → match k.i with
  | none => k.ts a cls d D σ H
  | some i => k.ts a cls d (outEnds i D) (σ.set i (some (.ref a))) H
def wMix (K : PySem.W.Frag) (Wout : WX) (D : Ends) : List Cl → WX
  | [] => Wout
  | k :: r => fun cls d σ H => ∃ b, PySem.W.exmOne K cls k.c = some b ∧ (b = true → k.run D cls d σ H) ∧ (b = false → wMix K Wout D r cls d σ H)
inductive ClOk (X : Cx) : ExceptHandler → Cl → Prop
  | only {x : Str} {c : Value} {ts : Addr → Value → Option Addr → TS} {b : Stmt} {su : List Stmt} {np p : Pos} (nm : Names X x c)
      (run : ∀ (a : Addr) (o : Obj) (cls : Value) (d : Option Addr) (pn : List (Addr × Obj)), Zc cls d o → (∃ vs, o.data = .fields vs) → PSs (X.suite a ((a, o) :: pn)) (b :: su) (ts a cls d)) :
      ClOk X (.ExceptHandler (some (.Name x np)) none (b :: su) p) ⟨c, none, ts⟩
  | named {x n : Str} {i : Nat} {c : Value} {ts : Addr → Value → Option Addr → TS} {b : Stmt} {su : List Stmt} {np p : Pos} (nm : Names X x c) (nd : X.N.Nodup) (hi : X.N[i]? = some n) (hl : X.env.kindOf n = some .local)
      (run : ∀ (a : Addr) (o : Obj) (cls : Value) (d : Option Addr) (pn : List (Addr × Obj)), Zc cls d o → (∃ vs, o.data = .fields vs) → PSs (X.suite a ((a, o) :: pn)) (b :: su) (ts a cls d)) :
      ClOk X (.ExceptHandler (some (.Name x np)) (some n) (b :: su) p) ⟨c, some i, ts⟩
inductive ClsOk (X : Cx) : List ExceptHandler → List Cl → Prop
  | nil : ClsOk X [] []
  | cons {h : ExceptHandler} {k : Cl} {hs : List ExceptHandler} {ks : List Cl} : ClOk X h k → ClsOk X hs ks → ClsOk X (h :: hs) (k :: ks)

theorem ps_tryC {X : Cx} {body : List Stmt} {h0 : ExceptHandler} {hds : List ExceptHandler} {ks : List Cl} {pos : Pos} {tb : WX → TS} {Wout : WX} (hs : X.stack = X.env :: X.outer) (hf : X.env.frame = some X.env.locals) (tk : Takes X Wout)
    (hb : ∀ (W : WX) (pn : List (Addr × Obj)) (xe : Value → Shared → Prop), Takes (X.tr pn xe) W → PassesOwn (model X.prog X.w) X.A X.env xe → PSs (X.tr pn xe) body (tb W))
    (hk : ClsOk X (h0 :: hds) ks) : PS X (.Try body (h0 :: hds) [] [] pos) (fun D σ H => tb (wMix X.K Wout D ks) D σ H) := by
  constructor
  intro pins s0 σ0 H0 D I0 rd
  have okX := I0.ok
  have fr0 : X.A.frames = some (X.env :: X.outer) := by rw [okX.frames, hs]
  apply wpAny_Try_except
  refine wpAny_mono ((hb (wMix X.K Wout D ks) (X.pn ++ pins) (fun e t1 => wpAny (model X.prog X.w) X.A (noteFrame e X.env) (fun _ t2 => wpAny (model X.prog X.w) X.A (setFlight e none) (fun _ t3 => wpAny (model X.prog X.w) X.A (handleBy e X.env (h0 :: hds)) (SP X pins D) X.xe t3) X.xe t2) X.xe t1)
    (fun u t0 caught => ?_) PassesOwn.looking).run [] s0 σ0 H0 D (I0.toTry _) rd) (fun fl t1 done => ?_) (fun e t1 z => z)
  · obtain ⟨a, B, sB, pB, σ1, H1, cls, od, rfl, IB, fresh, up0, sky0, freeA, osB, genB, wish⟩ := caught
    have J : Inv X pins σ1 H1 sB := IB.ofTry okX
    have sky1 : Sky B (X.env :: X.outer) a (Zc cls od) X.env.locals t0.heap := by
      rw [← hs]
      exact sky0
    refine Sky.land Zc.steady fr0 hf sky1 fun g1 fg1 upg1 => ?_
    have J1 : Inv X pins σ1 H1 { t0 with heap := g1 } := J.landed fresh fg1.1 (up0.trans upg1) osB genB
    obtain ⟨o1, w1, ha1, z1, d1⟩ := fg1.there
    have notF : a ∉ frs (X.env :: X.outer) := by
      intro hm
      obtain ⟨_, o2, e2, n2⟩ := fg1.2.2.1.mem hm
      have e3 := Option.some.inj (ha1.symm.trans e2)
      subst e3
      exact n2 _ d1
    have nL : a ≠ X.env.locals := by
      intro z
      apply notF
      exact List.mem_filterMap.mpr ⟨X.env, List.mem_cons_self, by rw [hf, z]⟩
    have nS : a ∉ X.fs := by
      intro hm
      obtain ⟨e, he, q⟩ := List.mem_filterMap.mp hm
      apply notF
      exact List.mem_filterMap.mpr ⟨e, List.mem_cons_of_mem _ he, q⟩
    have S1 := J1.suite ha1 d1 freeA nL nS
    have tyA : PySem.W.Looks (model X.prog X.w) g1 (typeOf (.ref a)) cls := by
      intro A Q E s k q
      exact wpAny_typeOf_ref (k _ _ ha1) (by rw [z1.1]; exact q)
    -- the class that a clause names
    have nameIs : ∀ {x : Str} {c : Value} {np : Pos} {Q E : Value → Shared → Prop}, Names X x c → Q c { t0 with heap := g1 } → wpAny (model X.prog X.w) (X.A.mark (some (.ref a))) (eval (.Name x np) X.env) Q E { t0 with heap := g1 } := by
      intro x c np Q E nm q
      rcases nm with ⟨gl, db, m1 | ⟨m0, bt, ne⟩⟩
      · exact ld_glob (X := X.suite a ((a, o1) :: (X.pn ++ pins))) S1 gl m1 q db
      · exact ld_blt (X := X.suite a ((a, o1) :: (X.pn ++ pins))) S1 gl m0 bt q ne db
    have all : ∀ (ks : List Cl) (hds : List ExceptHandler), ClsOk X hds ks → wMix X.K Wout D ks cls od σ1 H1 → wpAny (model X.prog X.w) X.A (handleBy (.ref a) X.env hds) (SP X pins D) X.xe { t0 with heap := g1 } := by
      intro ks
      induction ks with
      | nil =>
        intro hds hh w
        cases hh
        apply wpAny_handleBy_nil
        obtain ⟨_, _, _, o3, w3, T3, oT3, tt3, he3, hz3, hd3, h13, hr3⟩ := id fg1
        have up : wpAny (model X.prog X.w) X.A (setFlight (.ref a) X.env.frame) (fun _ s4 => wpAny (model X.prog X.w) X.A (throw (.ref a) : Sem Flow) (SP X pins D) X.xe s4) X.xe { t0 with heap := g1 } := by
          rw [hf]
          refine HandSPX.setFlight_upZ fg1 fun g2 hg2 upg2 => wpAny_throw (tk _ _ ⟨a, B, sB, pins, σ1, H1, cls, od, rfl, J, fresh, (up0.trans upg1).trans upg2, .inr (.inr ?_), freeA, osB, genB, w⟩)
          rw [hs]
          exact hg2
        unfold PySem.passOn
        refine wpAny_bind (wpAny_field he3 hd3 h13 ?_)
        rw [if_neg (by simp : ¬ ((Value.ref T3 == Value.none) = true))]
        first
          | exact wpAny_bind (wpAny_pure (wpAny_bind up))
          | exact wpAny_bind up
      | cons k ks ih =>
        intro hds hh w
        obtain ⟨b, isA, yes, no⟩ := w
        have LM := PySem.W.exm_one (M := model X.prog X.w) J1.kIn tyA isA
        cases hh with
        | cons hc hr =>
        cases hc with
        | only nm run =>
          refine wpAny_handleBy_cons (codeAny_handlers_test (nameIs nm (LM.here ?_))) (by intro q; cases q)
          cases b with
          | false => exact ih _ hr (no rfl)
          | true =>
            refine codeAny_handlers_suite (HandSPX.lands_againZ fg1 fun g2 fg2 upg2 => ?_)
            obtain ⟨o2, w2, ha2, z2, d2⟩ := fg2.there
            have J2 : Inv X pins σ1 H1 { t0 with heap := g2 } := J.landed fresh fg2.1 ((up0.trans upg1).trans upg2) osB genB
            have S2 := J2.suite ha2 d2 freeA nL nS
            refine wpAny_mono ((run a o2 cls od (X.pn ++ pins) z2 ⟨_, d2⟩).run [] _ _ H1 D S2 (yes rfl a freeA)) (fun f t6 post => ?_) (fun _ _ z => z.elim)
            cases f with
            | ret u =>
              obtain ⟨v6, σ6, H6, S6, r6, q6⟩ := post
              exact ⟨v6, σ6, H6, S6.unsuite okX, r6, q6⟩
            | _ =>
              obtain ⟨σ6, H6, S6, q6⟩ := post
              exact ⟨σ6, H6, S6.unsuite okX, q6⟩
        | named nm nd hi hl run =>
          refine wpAny_handleBy_cons (codeAny_handlers_test (nameIs nm (LM.here ?_))) (by intro q; cases q)
          cases b with
          | false => exact ih _ hr (no rfl)
          | true =>
            refine codeAny_handlers_suite_as (HandSPX.lands_againZ fg1 fun g2 fg2 upg2 => ?_)
            obtain ⟨o2, w2, ha2, z2, d2⟩ := fg2.there
            have J2 : Inv X pins σ1 H1 { t0 with heap := g2 } := J.landed fresh fg2.1 ((up0.trans upg1).trans upg2) osB genB
            have S2 := J2.suite ha2 d2 freeA nL nS
            refine store_ok (X := X.suite a ((a, o2) :: (X.pn ++ pins))) (v := .ref a) S2 nd hi (.inl hl) rfl (fun t5 S5 => ?_) (.inr hl)
            refine wpAny_mono ((run a o2 cls od (X.pn ++ pins) z2 ⟨_, d2⟩).run [] t5 _ H1 _ S5 (yes rfl a freeA)) (fun f t6 post => ?_) (fun _ _ z => z.elim)
            cases f with
            | ret u =>
              obtain ⟨v6, σ6, H6, S6, r6, q6⟩ := post
              exact gone_ok (S6.unsuite okX) nd hi hl fun t7 J7 => ⟨v6, _, H6, J7, r6, q6⟩
            | _ =>
              obtain ⟨σ6, H6, S6, q6⟩ := post
              exact gone_ok (S6.unsuite okX) nd hi hl fun t7 J7 => ⟨_, H6, J7, q6⟩
    exact all ks _ hk wish
  · cases fl with
    | next =>
      obtain ⟨σ1, H1, J1, q⟩ := done
      exact wpAny_execs_nil ⟨σ1, H1, J1.ofTry okX, q⟩
    | ret u =>
      obtain ⟨v, σ1, H1, J1, r, q⟩ := done
      exact ⟨v, σ1, H1, J1.ofTry okX, r, q⟩
    | _ =>
      obtain ⟨σ1, H1, J1, q⟩ := done
      exact ⟨σ1, H1, J1.ofTry okX, q⟩
end DL
set_option Elab.async false
set_option linter.all false
set_option maxRecDepth 100000
set_option maxHeartbeats 4000000
set_option autoImplicit false
/-! The data level: the body of a def read over data (trees), without a heap to be seen. -/
namespace DL
open PySem PySem.Spec PyProof.Rows L2

/-- data; raw: a value that is not looked into; scr: the script's ints -/
inductive D where
  | non | bl (b : Bool) | int (i : Int) | str (x : Str) | raw (x : V)
  | tup (xs : List D) | lst (xs : List D) | scr (ns : List Int)
  | fn (x : Str)
  /-- an error of an own class, with its one field or none -/
  | err (n : Str) (f : Option (Str × Int))

mutual
inductive Dp (K : PySem.W.Frag) (G : Hp) : V → D → Prop
  | non : Dp K G .non .non
  | bl (b : Bool) : Dp K G (.bl b) (.bl b)
  | int (i : Int) : Dp K G (.int i) (.int i)
  | str (x : Str) : Dp K G (.str x) (.str x)
  | raw (x : V) : Dp K G x (.raw x)
  | tup {p : Addr} {vs : List V} {ds : List D} : SqT K G p vs → vs.length ≤ sizeLine → Dps K G vs ds → Dp K G (.ref p) (.tup ds)
  | lst {p : Addr} {vs : List V} {ds : List D} : G p = some (.lst vs) → vs.length ≤ sizeLine → Dps K G vs ds → Dp K G (.ref p) (.lst ds)
  | scr {p : Addr} {ns : List Int} : SqL K G p (ns.map V.int) → Dp K G (.ref p) (.scr ns)
  | fn {a : Addr} {x : Str} : PySem.W.nsIn K mainGlobals x = some (some (.ref a)) → Dp K G (.ref a) (.fn x)
  | err {p C : Addr} {n : Str} : PySem.W.nsIn K mainGlobals n = some (some (.ref C)) → G p = some (ExO (.ref C) p) → Dp K G (.ref p) (.err n none)
  | erf {p C dx : Addr} {n f : Str} {i : Int} : PySem.W.nsIn K mainGlobals n = some (some (.ref C)) → G p = some (exo p C (some dx)) → G dx = some (exd dx [(f, .int i)]) → Dp K G (.ref p) (.err n (some (f, i)))
inductive Dps (K : PySem.W.Frag) (G : Hp) : List V → List D → Prop
  | nil : Dps K G [] []
  | cons {v : V} {vs : List V} {d : D} {ds : List D} : Dp K G v d → Dps K G vs ds → Dps K G (v :: vs) (d :: ds)
end

theorem same_t {K : PySem.W.Frag} {G G' : Hp} {p : Addr} {vs : List V} (e : Same G G') (h : SqT K G p vs) : SqT K G' p vs := by
  rcases h with (h | ⟨o, h⟩) | h
  · exact .inl (.inl (e _ _ h))
  · exact .inl (.inr ⟨o, e _ _ h⟩)
  · exact .inr h
section
variable {K : PySem.W.Frag} {G G' H H' : Hp}
mutual
theorem Dp.mono (e : Same G G') : ∀ (d : D) (v : V), Dp K G v d → Dp K G' v d
  | .non, _, h => by cases h; exact .non
  | .bl _, _, h => by cases h; exact .bl _
  | .int _, _, h => by cases h; exact .int _
  | .str _, _, h => by cases h; exact .str _
  | .raw _, _, h => by cases h; exact .raw _
  | .tup ds, _, h => by
    cases h with
    | tup a l r => exact .tup (same_t e a) l (Dps.mono e ds _ r)
  | .lst ds, _, h => by
    cases h with
    | lst a l r => exact .lst (e _ _ a) l (Dps.mono e ds _ r)
  | .scr _, _, h => by
    cases h with
    | scr a => exact .scr (e.seq a)
  | .fn _, _, h => by
    cases h with
    | fn a => exact .fn a
  | .err _ _, _, h => by
    cases h with
    | err a b => exact .err a (e _ _ b)
    | erf a b c => exact .erf a (e _ _ b) (e _ _ c)
theorem Dps.mono (e : Same G G') : ∀ (ds : List D) (vs : List V), Dps K G vs ds → Dps K G' vs ds
  | [], _, h => by cases h; exact .nil
  | d :: ds, _, h => by
    cases h with
    | cons a r => exact .cons (Dp.mono e d _ a) (Dps.mono e ds _ r)
end
theorem Dp.up {d : D} {v : V} (h : Dp K G v d) (e : Same G G') : Dp K G' v d := Dp.mono e d v h
theorem Dps.up {ds : List D} {vs : List V} (h : Dps K G vs ds) (e : Same G G') : Dps K G' vs ds := Dps.mono e ds vs h
theorem Dps.len : ∀ {vs : List V} {ds : List D}, Dps K G vs ds → vs.length = ds.length
  | _, _, .nil => rfl
  | _, _, .cons _ r => congrArg (· + 1) (Dps.len r)
theorem Dps.get : ∀ {vs : List V} {ds : List D} {i : Nat} {d : D}, Dps K G vs ds → ds[i]? = some d → ∃ v, vs[i]? = some v ∧ Dp K G v d
  | _, _, _, _, .nil, h => by simp at h
  | _, _, 0, _, .cons a _, h => by
    have e := Option.some.inj h
    subst e
    exact ⟨_, rfl, a⟩
  | _, _, i + 1, _, .cons _ r, h => Dps.get (i := i) r h
theorem Dps.getV : ∀ {vs : List V} {ds : List D} {i : Nat} {v : V}, Dps K G vs ds → vs[i]? = some v → ∃ d, ds[i]? = some d ∧ Dp K G v d
  | _, _, _, _, .nil, h => by simp at h
  | _, _, 0, _, .cons a _, h => by
    have e := Option.some.inj h
    subst e
    exact ⟨_, rfl, a⟩
  | _, _, i + 1, _, .cons _ r, h => Dps.getV (i := i) r h
theorem Dps.app : ∀ {vs ws : List V} {ds es : List D}, Dps K G vs ds → Dps K G ws es → Dps K G (vs ++ ws) (ds ++ es)
  | _, _, _, _, .nil, s => s
  | _, _, _, _, .cons a r, s => .cons a (Dps.app r s)
theorem Dps.take : ∀ {vs : List V} {ds : List D} (n : Nat), Dps K G vs ds → Dps K G (vs.take n) (ds.take n)
  | _, _, 0, _ => .nil
  | _, _, _ + 1, .nil => .nil
  | _, _, n + 1, .cons a r => .cons a (Dps.take n r)
theorem Dps.drop : ∀ {vs : List V} {ds : List D} (n : Nat), Dps K G vs ds → Dps K G (vs.drop n) (ds.drop n)
  | _, _, 0, r => r
  | _, _, _ + 1, .nil => .nil
  | _, _, n + 1, .cons _ r => Dps.drop n r
theorem Dps.set {v : V} {d : D} (a : Dp K G v d) : ∀ {vs : List V} {ds : List D} (i : Nat), Dps K G vs ds → Dps K G (vs.set i v) (ds.set i d)
  | _, _, _, .nil => .nil
  | _, _, 0, .cons _ r => .cons a r
  | _, _, i + 1, .cons b r => .cons b (Dps.set a i r)
theorem Dps.rep {vs : List V} {ds : List D} (h : Dps K G vs ds) : ∀ k : Nat, Dps K G (List.replicate k vs).flatten (List.replicate k ds).flatten
  | 0 => .nil
  | k + 1 => by
    rw [List.replicate_succ, List.replicate_succ, List.flatten_cons, List.flatten_cons]
    exact h.app (h.rep k)
theorem Dps.ints : ∀ (ns : List Int), Dps K G (ns.map V.int) (ns.map D.int)
  | [] => .nil
  | n :: ns => .cons (.int n) (Dps.ints ns)
end

/-! ### the table of mutable objects, the environment -/
inductive Ob where
  | dead | lst (xs : List D)
  /-- a dict with texts for keys -/
  | dic (ks : List Str) (ds : List D)
inductive Sl where
  | dat (d : D) | ob (k : Nat)
  /-- a lambda, called while its maker runs: G0, la0 are what was known when it was made -/
  | clo (f : Addr) (G0 : Hp) (la0 : List Addr)
structure Env where
  T : List Ob
  s : List (Option Sl)

def dkv (ks : List Str) (vs : List V) : List (Key × V) := (ks.zip vs).map fun p => (.inr p.1, p.2)
def ObR (K : PySem.W.Frag) (G H : Hp) (a : Addr) : Ob → Prop
  | .dead => True
  | .lst ds => G a = none ∧ ∃ vs, H a = some (.lst vs) ∧ vs.length ≤ sizeLine ∧ Dps K G vs ds
  | .dic ks ds => G a = none ∧ ∃ vs, H a = some (.dK (dkv ks vs)) ∧ ks.length = vs.length ∧ vs.length ≤ 1000 ∧ Dps K G vs ds
def SlR (K : PySem.W.Frag) (G : Hp) (la : List Addr) (v : V) : Sl → Prop
  | .dat d => Dp K G v d
  | .ob k => ∃ a, la[k]? = some a ∧ v = .ref a
  | .clo f G0 la0 => v = .ref f ∧ Same G0 G ∧ la0 <+: la
/-- the defs that make lambdas, the tables of their code objects -/
def lamDefs : List Str := ["law", "_law_lots", "_law_tried", "_law_signs_right", "_law_refused", "_law_called", "_law_shows", "_law_nested", "_law_ended", "_law_back", "_law_full_right", "_law_first_calls", "_law_pair_calls", "_law_place_calls", "_law_many_calls"]
def tabsOf (K : PySem.W.Frag) : List (Addr × Str) := lamDefs.filterMap fun x => (PySem.W.tabIn K x).map fun cp => (cp.2, x ++ ".<locals>." ++ "<lambda>")
/-- something stands at a, no table -/
def Thr (H : Hp) (a : Addr) : Prop := ∃ o, H a = some o ∧ ∀ ps, o ≠ .tbl ps
def NoTbl (G : Hp) : Prop := ∀ (b : Addr) (ps : Array Value), G b ≠ some (.tbl ps)
theorem NoTbl.upd {G : Hp} (h : NoTbl G) {p : Addr} {o : HO} (ho : ∀ ps, o ≠ .tbl ps) : NoTbl (upd G p o) := fun b ps e => by
  by_cases hb : b = p
  · subst hb
    rw [upd_same] at e
    exact ho ps (Option.some.inj e)
  · rw [upd_ne hb] at e
    exact h b ps e
structure Rl (K : PySem.W.Frag) (G H : Hp) (la : List Addr) (T : List Ob) : Prop where
  ext : Same G H
  nd : la.Nodup
  len : la.length = T.length
  tab : ∀ (k : Nat) (a : Addr) (o : Ob), la[k]? = some a → T[k]? = some o → ObR K G H a o
  there : ∀ (k : Nat) (a : Addr), la[k]? = some a → Thr H a
  nt : NoTbl G
  tbl : ∀ p ∈ tabsOf K, G p.1 = none ∧ LamX.TabS H p.1 p.2
structure Re (K : PySem.W.Frag) (G H : Hp) (la : List Addr) (σ : L2.St) (ρ : Env) : Prop where
  tb : Rl K G H la ρ.T
  sl : ρ.s.length = σ.length
  at_ : ∀ (i : Nat) (x : Sl), ρ.s[i]? = some (some x) → ∃ v, σ[i]? = some (some v) ∧ SlR K G la v x

/-- the heap, and the known part of it, grow -/
structure Grow (G H G' H' : Hp) : Prop where
  g : Same G G'
  h : Same H H'
  i : Same G' H'
  n : ∀ a, G a = none → H a ≠ none → G' a = none
  t : NoTbl G → NoTbl G'
section
variable {K : PySem.W.Frag} {G H G' H' : Hp} {la la' : List Addr} {σ : L2.St} {ρ : Env} {T : List Ob}
theorem Grow.refl (e : Same G H) : Grow G H G H := ⟨Same.refl _, Same.refl _, e, fun _ h _ => h, fun h => h⟩
theorem same_new {H : Hp} {p : Addr} {o : HO} (h : H p = none) : Same H (upd H p o) := fun b x e => by
  rw [upd_ne (ne_of_none e h)]
  exact e
theorem same_upd2 {p : Addr} {o : HO} (e : Same G H) : Same (upd G p o) (upd H p o) := fun b x q => by
  by_cases hb : b = p
  · subst hb
    rw [upd_same] at q ⊢
    exact q
  · rw [upd_ne hb] at q ⊢
    exact e b x q
theorem none_of (e : Same G H) {p : Addr} (h : H p = none) : G p = none := e.free h
/-- a new object, known -/
theorem Grow.new {p : Addr} {o : HO} (e : Same G H) (h : H p = none) (ho : ∀ ps, o ≠ .tbl ps := by intro ps z; cases z) : Grow G H (upd G p o) (upd H p o) :=
  ⟨same_new (none_of e h), same_new h, same_upd2 e, fun a ga ha => by
    rw [upd_ne (fun z => ha (by rw [z]; exact h))]
    exact ga, fun n => n.upd ho⟩
theorem Grow.trans {G2 H2 : Hp} (x : Grow G H G' H') (y : Grow G' H' G2 H2) : Grow G H G2 H2 :=
  ⟨x.g.trans y.g, x.h.trans y.h, y.i, fun a ga ha => y.n a (x.n a ga ha) (fun z => by
    cases q : H a with
    | none => exact ha q
    | some o =>
      rw [x.h a o q] at z
      cases z), fun n => y.t (x.t n)⟩
theorem tabS_some {H : Hp} {P : Addr} {q : Str} (h : LamX.TabS H P q) : H P ≠ none := by
  obtain ⟨ps, e, _⟩ := h
  rw [e]
  simp
theorem tabS_write {H : Hp} {P a : Addr} {q : Str} {vs ws : List V} (h : LamX.TabS H P q) (ha : H a = some (.lst vs)) : LamX.TabS (upd H a (.lst ws)) P q := by
  obtain ⟨ps, e, t, f⟩ := h
  have n1 : P ≠ a := fun z => by
    rw [z, ha] at e
    cases e
  refine ⟨ps, by rw [upd_ne n1]; exact e, t, fun pos cv hc => ?_⟩
  obtain ⟨c, e1, e2⟩ := f pos cv hc
  have n2 : c ≠ a := fun z => by
    rw [z, ha] at e2
    have := Option.some.inj e2
    unfold LamX.CodeO at this
    cases this
  exact ⟨c, e1, by rw [upd_ne n2]; exact e2⟩
theorem ObR.grow (w : Grow G H G' H') {a : Addr} : ∀ {o : Ob}, ObR K G H a o → ObR K G' H' a o
  | .dead, _ => True.intro
  | .lst ds, ⟨g, vs, h, l, r⟩ => ⟨w.n a g (by rw [h]; simp), vs, w.h _ _ h, l, r.up w.g⟩
  | .dic ks ds, ⟨g, vs, h, e, l, r⟩ => ⟨w.n a g (by rw [h]; simp), vs, w.h _ _ h, e, l, r.up w.g⟩
theorem SlR.grow (w : Same G G') (pf : la <+: la') {v : V} : ∀ {x : Sl}, SlR K G la v x → SlR K G' la' v x
  | .dat d, h => Dp.up (show Dp K G v d from h) w
  | .ob k, ⟨a, h, e⟩ => ⟨a, by
      obtain ⟨t, rfl⟩ := pf
      rw [List.getElem?_append_left (List.getElem?_eq_some_iff.mp h).1]
      exact h, e⟩
  | .clo f G0 la0, ⟨e, g, p⟩ => ⟨e, g.trans w, p.trans pf⟩
theorem there_grow (w : Same H H') {a : Addr} (h : Thr H a) : Thr H' a := by
  obtain ⟨o, h, n⟩ := h
  exact ⟨o, w a o h, n⟩
theorem Rl.grow (w : Grow G H G' H') (r : Rl K G H la T) : Rl K G' H' la T :=
  ⟨w.i, r.nd, r.len, fun k a o h1 h2 => (r.tab k a o h1 h2).grow w, fun k a h => there_grow w.h (r.there k a h), w.t r.nt, fun p hp => ⟨w.n p.1 (r.tbl p hp).1 (tabS_some (r.tbl p hp).2), (r.tbl p hp).2.ext w.h⟩⟩
theorem Re.grow (w : Grow G H G' H') (r : Re K G H la σ ρ) : Re K G' H' la σ ρ :=
  ⟨r.tb.grow w, r.sl, fun i x h => by
    obtain ⟨v, a, b⟩ := r.at_ i x h
    exact ⟨v, a, b.grow w.g (List.prefix_rfl)⟩⟩
theorem Re.ext (r : Re K G H la σ ρ) : Same G H := r.tb.ext
/-- a slot is set -/
theorem Re.set (r : Re K G H la σ ρ) {i : Nat} {v : V} {x : Sl} (h : SlR K G la v x) : Re K G H la (σ.set i (some v)) ⟨ρ.T, ρ.s.set i (some x)⟩ :=
  ⟨r.tb, by simp [r.sl], fun j y hy => by
    by_cases hj : j = i
    · subst hj
      by_cases hl : j < ρ.s.length
      · have hl2 : j < σ.length := by rw [← r.sl]; exact hl
        rw [show (⟨ρ.T, ρ.s.set j (some x)⟩ : Env).s = ρ.s.set j (some x) from rfl, List.getElem?_set_self hl] at hy
        have e := Option.some.inj (Option.some.inj hy)
        subst e
        exact ⟨v, List.getElem?_set_self hl2, h⟩
      · have hy' : (ρ.s.set j (some x))[j]? = some (some y) := hy
        rw [List.getElem?_eq_none (by simpa using hl)] at hy'
        cases hy'
    · have hy' : (ρ.s.set i (some x))[j]? = some (some y) := hy
      rw [List.getElem?_set_ne (Ne.symm hj)] at hy'
      obtain ⟨u, a, b⟩ := r.at_ j y hy'
      exact ⟨u, by rw [List.getElem?_set_ne (Ne.symm hj)]; exact a, b⟩⟩
/-- a slot is forgotten, at both -/
theorem Re.forget (r : Re K G H la σ ρ) (i : Nat) : Re K G H la (σ.set i none) ⟨ρ.T, ρ.s.set i none⟩ :=
  ⟨r.tb, by simp [r.sl], fun j y hy => by
    have hy' : (ρ.s.set i none)[j]? = some (some y) := hy
    by_cases hj : j = i
    · subst hj
      by_cases hl : j < ρ.s.length
      · rw [List.getElem?_set_self hl] at hy'
        cases hy'
      · rw [List.getElem?_eq_none (by simpa using hl)] at hy'
        cases hy'
    · rw [List.getElem?_set_ne (Ne.symm hj)] at hy'
      obtain ⟨u, a, b⟩ := r.at_ j y hy'
      exact ⟨u, by rw [List.getElem?_set_ne (Ne.symm hj)]; exact a, b⟩⟩
/-- the list at k becomes known for ever -/
theorem Rl.freeze (r : Rl K G H la T) {k : Nat} {a : Addr} {xs : List D} (ha : la[k]? = some a) (hk : T[k]? = some (.lst xs)) :
    ∃ vs, H a = some (.lst vs) ∧ G a = none ∧ Same G (upd G a (.lst vs)) ∧ Dp K (upd G a (.lst vs)) (.ref a) (.lst xs) ∧ Rl K (upd G a (.lst vs)) H la (T.set k .dead) := by
  obtain ⟨g, vs, h, l, d⟩ := r.tab k a _ ha hk
  have s1 : Same G (upd G a (.lst vs)) := same_new g
  refine ⟨vs, h, g, s1, .lst upd_same l (d.up s1), ⟨fun b o e => ?_, r.nd, by simp [r.len], fun j b o hb ho => ?_, r.there, r.nt.upd (by intro ps z; cases z), fun p hp => ?_⟩⟩
  · by_cases hb : b = a
    · subst hb
      rw [upd_same] at e
      rw [← e]
      exact h
    · rw [upd_ne hb] at e
      exact r.ext b o e
  · by_cases hj : j = k
    · subst hj
      have hl : j < T.length := (List.getElem?_eq_some_iff.mp hk).1
      rw [List.getElem?_set_self hl] at ho
      have e := Option.some.inj ho
      subst e
      exact True.intro
    · rw [List.getElem?_set_ne (Ne.symm hj)] at ho
      have nb : b ≠ a := fun e => by
        subst e
        obtain ⟨h1, e1⟩ := List.getElem?_eq_some_iff.mp hb
        obtain ⟨h2, e2⟩ := List.getElem?_eq_some_iff.mp ha
        exact hj ((List.getElem_inj r.nd).mp (e1.trans e2.symm))
      have z := r.tab j b o hb ho
      cases o with
      | dead => exact True.intro
      | lst ds =>
        obtain ⟨g2, vs2, h2, l2, d2⟩ := z
        exact ⟨by rw [upd_ne nb]; exact g2, vs2, h2, l2, d2.up s1⟩
      | dic ks ds =>
        obtain ⟨g2, vs2, h2, e2, l2, d2⟩ := z
        exact ⟨by rw [upd_ne nb]; exact g2, vs2, h2, e2, l2, d2.up s1⟩
  · obtain ⟨z1, z2⟩ := r.tbl p hp
    refine ⟨?_, z2⟩
    rw [upd_ne fun e => ?_]
    · exact z1
    · obtain ⟨ps, z3, _⟩ := z2
      rw [e, h] at z3
      cases z3
/-- the list at k is written -/
theorem Rl.write (r : Rl K G H la T) {k : Nat} {a : Addr} {xs ys : List D} {ws : List V} (ha : la[k]? = some a) (hk : T[k]? = some (.lst xs)) (l : ws.length ≤ sizeLine) (d : Dps K G ws ys) :
    Rl K G (upd H a (.lst ws)) la (T.set k (.lst ys)) := by
  obtain ⟨g, vs, h, _, _⟩ := r.tab k a _ ha hk
  refine ⟨fun b o e => ?_, r.nd, by simp [r.len], fun j b o hb ho => ?_, fun j b hb => ?_, r.nt, fun p hp => ⟨(r.tbl p hp).1, tabS_write (r.tbl p hp).2 h⟩⟩
  · have nb : b ≠ a := fun z => by
      rw [z, g] at e
      cases e
    rw [upd_ne nb]
    exact r.ext b o e
  · by_cases hj : j = k
    · subst hj
      have hl : j < T.length := (List.getElem?_eq_some_iff.mp hk).1
      rw [List.getElem?_set_self hl] at ho
      have e := Option.some.inj ho
      subst e
      have e2 := Option.some.inj (hb.symm.trans ha)
      subst e2
      exact ⟨g, ws, upd_same, l, d⟩
    · rw [List.getElem?_set_ne (Ne.symm hj)] at ho
      have nb : b ≠ a := fun e => by
        subst e
        obtain ⟨h1, e1⟩ := List.getElem?_eq_some_iff.mp hb
        obtain ⟨h2, e2⟩ := List.getElem?_eq_some_iff.mp ha
        exact hj ((List.getElem_inj r.nd).mp (e1.trans e2.symm))
      have z := r.tab j b o hb ho
      cases o with
      | dead => exact True.intro
      | lst ds =>
        obtain ⟨g2, vs2, h2, l2, d2⟩ := z
        exact ⟨g2, vs2, by rw [upd_ne nb]; exact h2, l2, d2⟩
      | dic ks ds =>
        obtain ⟨g2, vs2, h2, e2, l2, d2⟩ := z
        exact ⟨g2, vs2, by rw [upd_ne nb]; exact h2, e2, l2, d2⟩
  · by_cases hb2 : b = a
    · subst hb2
      exact ⟨_, upd_same, by intro ps z; cases z⟩
    · obtain ⟨o, h, n⟩ := r.there j b hb
      exact ⟨o, by rw [upd_ne hb2]; exact h, n⟩
/-- a new list, ours alone -/
theorem Rl.fresh (r : Rl K G H la T) {p : Addr} {vs : List V} {xs : List D} (hp : H p = none) (l : vs.length ≤ sizeLine) (d : Dps K G vs xs) :
    Rl K G (upd H p (.lst vs)) (la ++ [p]) (T ++ [.lst xs]) := by
  have hn : p ∉ la := fun hm => by
    obtain ⟨i, hi, e⟩ := List.getElem_of_mem hm
    obtain ⟨o, h, _⟩ := r.there i p (by rw [List.getElem?_eq_getElem hi, e])
    rw [hp] at h
    cases h
  have s1 : Same H (upd H p (.lst vs)) := same_new hp
  refine ⟨r.ext.trans s1, ?_, by simp [r.len], fun j b o hb ho => ?_, fun j b hb => ?_, r.nt, fun q hq => ⟨(r.tbl q hq).1, (r.tbl q hq).2.ext s1⟩⟩
  · rw [List.nodup_append]
    exact ⟨r.nd, by simp, fun x hx y hy => by
      have e : y = p := by simpa using hy
      rw [e]
      intro z
      exact hn (z ▸ hx)⟩
  · by_cases hj : j < la.length
    · rw [List.getElem?_append_left hj] at hb
      rw [List.getElem?_append_left (by rw [← r.len]; exact hj)] at ho
      exact (r.tab j b o hb ho).grow ⟨Same.refl _, s1, r.ext.trans s1, fun _ h _ => h, fun h => h⟩
    · rw [List.getElem?_append_right (by omega)] at hb
      rw [List.getElem?_append_right (by rw [← r.len]; omega), ← r.len] at ho
      cases q : j - la.length with
      | zero =>
        rw [q] at hb ho
        have e1 : p = b := Option.some.inj hb
        have e2 : Ob.lst xs = o := Option.some.inj ho
        subst e1 e2
        exact ⟨none_of r.ext hp, vs, upd_same, l, d⟩
      | succ m =>
        rw [q] at hb
        simp at hb
  · by_cases hj : j < la.length
    · rw [List.getElem?_append_left hj] at hb
      exact there_grow s1 (r.there j b hb)
    · rw [List.getElem?_append_right (by omega)] at hb
      cases q : j - la.length with
      | zero =>
        rw [q] at hb
        have e1 : p = b := Option.some.inj hb
        subst e1
        exact ⟨_, upd_same, by intro ps z; cases z⟩
      | succ m =>
        rw [q] at hb
        simp at hb
end
end DL
set_option Elab.async false
set_option linter.all false
set_option maxRecDepth 100000
set_option maxHeartbeats 4000000
set_option autoImplicit false
/-! The data level: readings (expressions, tests, arguments, statements) and what they mean of the heap. -/
namespace DL
open PySem PySem.Spec PyProof.Rows L2

/-- an exception: its class, its own field -/
structure Xn where
  n : Str
  f : Option (Str × D)
def XR (K : PySem.W.Frag) (G H : Hp) (x : Xn) (cls : Value) (od : Option Addr) : Prop := PySem.W.nsIn K mainGlobals x.n = some (some cls) ∧ match x.f with
  | none => True
  | some (f, d) => ∃ a v, od = some a ∧ H a = some (.xd [(f, v)]) ∧ Dp K G v d
abbrev XP := Xn → Env → Prop
abbrev DE := XP → Env → (D → Env → Prop) → Prop
abbrev DL' := XP → Env → (Sl → Env → Prop) → Prop
abbrev DT := XP → Env → (Bool → Env → Prop) → Prop
abbrev DA := XP → Env → (List Sl → Env → Prop) → Prop
abbrev DI := XP → Env → (List D → Env → Prop) → Prop
abbrev DG := D → Env → (Env → Prop) → Prop
structure DN where
  nx : Env → Prop
  rt : Sl → Env → Prop
  bk : Env → Prop := fun _ => False
  ct : Env → Prop := fun _ => False
  xn : XP
abbrev DS := DN → Env → Prop

/-- a state behind another one -/
structure Aft (K : PySem.W.Frag) (G : Hp) (la : List Addr) (σ : L2.St) (ρ : Env) (G' : Hp) (la' : List Addr) (H' : Hp) : Prop where
  g : Same G G'
  p : la <+: la'
  r : Re K G' H' la' σ ρ
def XO (K : PySem.W.Frag) (G : Hp) (la : List Addr) (W : WX) (X : XP) : Prop := ∀ (x : Xn) (ρ' : Env) (σ' : L2.St) (G' : Hp) (la' : List Addr) (H' : Hp) (cls : Value) (od : Option Addr),
  X x ρ' → Aft K G la σ' ρ' G' la' H' → XR K G' H' x cls od → W cls od σ' H'
inductive SlsR (K : PySem.W.Frag) (G : Hp) (la : List Addr) : List V → List Sl → Prop
  | nil : SlsR K G la [] []
  | cons {v : V} {vs : List V} {x : Sl} {xs : List Sl} : SlR K G la v x → SlsR K G la vs xs → SlsR K G la (v :: vs) (x :: xs)

def lE (K : PySem.W.Frag) (W : WX) (f : DE) : TE := fun σ H Q => ∃ ρ G la P X, Re K G H la σ ρ ∧ f X ρ P ∧ (∀ d ρ' v G' la' H', P d ρ' → Aft K G la σ ρ' G' la' H' → Dp K G' v d → Q v H') ∧ XO K G la W X
def lL (K : PySem.W.Frag) (W : WX) (f : DL') : TE := fun σ H Q => ∃ ρ G la P X, Re K G H la σ ρ ∧ f X ρ P ∧ (∀ d ρ' v G' la' H', P d ρ' → Aft K G la σ ρ' G' la' H' → SlR K G' la' v d → Q v H') ∧ XO K G la W X
def lT (K : PySem.W.Frag) (W : WX) (f : DT) : TT := fun σ H Q => ∃ ρ G la P X, Re K G H la σ ρ ∧ f X ρ P ∧ (∀ b ρ' G' la' H', P b ρ' → Aft K G la σ ρ' G' la' H' → Q b H') ∧ XO K G la W X
def lA (K : PySem.W.Frag) (W : WX) (f : DA) : TA := fun σ H Q => ∃ ρ G la P X, Re K G H la σ ρ ∧ f X ρ P ∧ (∀ xs ρ' vs G' la' H', P xs ρ' → Aft K G la σ ρ' G' la' H' → SlsR K G' la' vs xs → Q vs H') ∧ XO K G la W X
structure Bk (K : PySem.W.Frag) (G : Hp) (la : List Addr) (W : WX) (E : DN) (D : Ends) : Prop where
  nx : ∀ (ρ' : Env) (σ' : L2.St) (G' : Hp) (la' : List Addr) (H' : Hp), E.nx ρ' → Aft K G la σ' ρ' G' la' H' → D.nx σ' H'
  bk : ∀ (ρ' : Env) (σ' : L2.St) (G' : Hp) (la' : List Addr) (H' : Hp), E.bk ρ' → Aft K G la σ' ρ' G' la' H' → D.bk σ' H'
  ct : ∀ (ρ' : Env) (σ' : L2.St) (G' : Hp) (la' : List Addr) (H' : Hp), E.ct ρ' → Aft K G la σ' ρ' G' la' H' → D.ct σ' H'
  rt : ∀ (x : Sl) (ρ' : Env) (v : V) (σ' : L2.St) (G' : Hp) (la' : List Addr) (H' : Hp), E.rt x ρ' → Aft K G la σ' ρ' G' la' H' → SlR K G' la' v x → D.rt v H'
  xn : XO K G la W E.xn
def lS (K : PySem.W.Frag) (W : WX) (f : DS) : TS := fun D σ H => ∃ ρ G la E, Re K G H la σ ρ ∧ f E ρ ∧ Bk K G la W E D

section
variable {K : PySem.W.Frag} {G G' G2 H H' H2 : Hp} {la la' la2 : List Addr} {σ : L2.St} {ρ ρ' ρ2 : Env} {W : WX} {X : XP} {E : DN} {D : Ends}
theorem Aft.refl (r : Re K G H la σ ρ) : Aft K G la σ ρ G la H := ⟨Same.refl _, List.prefix_rfl, r⟩
theorem Aft.trans {σ' : L2.St} (a : Aft K G la σ ρ G' la' H') (b : Aft K G' la' σ' ρ2 G2 la2 H2) : Aft K G la σ' ρ2 G2 la2 H2 := ⟨a.g.trans b.g, a.p.trans b.p, b.r⟩
theorem Aft.grow (a : Aft K G la σ ρ G' la' H') (w : Grow G' H' G2 H2) : Aft K G la σ ρ G2 la' H2 := ⟨a.g.trans w.g, a.p, a.r.grow w⟩
theorem XO.up (x : XO K G la W X) (g : Same G G') (p : la <+: la') : XO K G' la' W X := fun y ρ' σ' G2 la2 H2 cls od h a z => x y ρ' σ' G2 la2 H2 cls od h ⟨g.trans a.g, p.trans a.p, a.r⟩ z
theorem Bk.up (b : Bk K G la W E D) (g : Same G G') (p : la <+: la') : Bk K G' la' W E D :=
  ⟨fun ρ' σ' G2 la2 H2 h a => b.nx ρ' σ' G2 la2 H2 h ⟨g.trans a.g, p.trans a.p, a.r⟩, fun ρ' σ' G2 la2 H2 h a => b.bk ρ' σ' G2 la2 H2 h ⟨g.trans a.g, p.trans a.p, a.r⟩,
   fun ρ' σ' G2 la2 H2 h a => b.ct ρ' σ' G2 la2 H2 h ⟨g.trans a.g, p.trans a.p, a.r⟩, fun x ρ' v σ' G2 la2 H2 h a r => b.rt x ρ' v σ' G2 la2 H2 h ⟨g.trans a.g, p.trans a.p, a.r⟩ r, b.xn.up g p⟩
theorem SlsR.up (g : Same G G') (p : la <+: la') : ∀ {vs : List V} {xs : List Sl}, SlsR K G la vs xs → SlsR K G' la' vs xs
  | _, _, .nil => .nil
  | _, _, .cons a r => .cons (a.grow g p) (SlsR.up g p r)
theorem SlsR.len : ∀ {vs : List V} {xs : List Sl}, SlsR K G la vs xs → vs.length = xs.length
  | _, _, .nil => rfl
  | _, _, .cons _ r => congrArg (· + 1) (SlsR.len r)
theorem SlsR.get : ∀ {vs : List V} {xs : List Sl} {i : Nat} {x : Sl}, SlsR K G la vs xs → xs[i]? = some x → ∃ v, vs[i]? = some v ∧ SlR K G la v x
  | _, _, _, _, .nil, h => by simp at h
  | _, _, 0, _, .cons a _, h => by
    have e := Option.some.inj h
    subst e
    exact ⟨_, rfl, a⟩
  | _, _, i + 1, _, .cons _ r, h => SlsR.get (i := i) r h
end

/-! ### weakening -/
theorem pe_imp {X : Cx} {e : Expr} {t t' : TE} (h : PE X e t) (w : ∀ σ H Q, t' σ H Q → t σ H Q) : PE X e t' := ⟨fun pins s σ H Q I q => h.run pins s σ H Q I (w σ H Q q)⟩
theorem pt_imp {X : Cx} {e : Expr} {t t' : TT} (h : PT X e t) (w : ∀ σ H Q, t' σ H Q → t σ H Q) : PT X e t' := ⟨fun pins s σ H Q I q => h.run pins s σ H Q I (w σ H Q q)⟩
theorem pw_imp {X : Cx} {e : Expr} {t t' : TT} (h : PW X e t) (w : ∀ σ H Q, t' σ H Q → t σ H Q) : PW X e t' := ⟨fun wh pins s σ H Q I q => h.run wh pins s σ H Q I (w σ H Q q)⟩
theorem pa_imp {X : Cx} {es : List Expr} {t t' : TA} (h : PA X es t) (w : ∀ σ H Q, t' σ H Q → t σ H Q) : PA X es t' := ⟨fun pos pins s σ H Q I q => h.run pos pins s σ H Q I (w σ H Q q)⟩
theorem ps_imp {X : Cx} {st : Stmt} {t t' : TS} (h : PS X st t) (w : ∀ D σ H, t' D σ H → t D σ H) : PS X st t' := ⟨fun pins s σ H D I q => h.run pins s σ H D I (w D σ H q)⟩
theorem pss_imp {X : Cx} {st : List Stmt} {t t' : TS} (h : PSs X st t) (w : ∀ D σ H, t' D σ H → t D σ H) : PSs X st t' := ⟨fun pins s σ H D I q => h.run pins s σ H D I (w D σ H q)⟩

/-! ### the readings at data level -/
def dVar (i : Nat) : DE := fun _ ρ Q => match ρ.s[i]? with
  | some (some (.dat d)) => Q d ρ
  | some (some (.ob k)) => match ρ.T[k]? with
    | some (.lst xs) => Q (.lst xs) ⟨ρ.T.set k .dead, ρ.s.set i (some (.dat (.lst xs)))⟩
    | _ => False
  | _ => False
def dC (d : D) : DE := fun _ ρ Q => Q d ρ
def dVarL (i : Nat) : DL' := fun _ ρ Q => match ρ.s[i]? with
  | some (some x) => Q x ρ
  | _ => False
def dDat (f : DE) : DL' := fun X ρ Q => f X ρ fun d ρ' => Q (.dat d) ρ'
/-- an object that nobody else has becomes data -/

class Kept (α : Type) where
  q : α
def valK [h : Kept (D → Env → Prop)] : Sl → Env → Prop := fun x ρ' => match x with
  | .dat d => h.q d ρ'
  | .ob k => match ρ'.T[k]? with
    | some (.lst xs) => h.q (.lst xs) ⟨ρ'.T.set k .dead, ρ'.s⟩
    | _ => False
  | .clo _ _ _ => False
def dVal (f : DL') : DE := fun X ρ Q => f X ρ (@valK ⟨Q⟩)
def dBin (g : D → D → (D → Prop) → Prop) (fa fb : DE) : DE := fun X ρ Q => fa X ρ fun d ρ1 => fb X ρ1 fun e ρ2 => g d e fun z => Q z ρ2
def dUn (g : D → (D → Prop) → Prop) (fa : DE) : DE := fun X ρ Q => fa X ρ fun d ρ1 => g d fun z => Q z ρ1
def dNil : DA := fun _ ρ Q => Q [] ρ
def dCons (fa : DL') (fr : DA) : DA := fun X ρ Q => fa X ρ fun x ρ1 => fr X ρ1 fun xs ρ2 => Q (x :: xs) ρ2
/-- all of them data -/
def dats : List Sl → Option (List D)
  | [] => some []
  | .dat d :: r => (dats r).map (d :: ·)
  | _ :: _ => none
def dTup (fa : DA) : DE := fun X ρ Q => fa X ρ fun xs ρ' => match dats xs with
  | some ds => ds.length ≤ 1000 ∧ Q (.tup ds) ρ'
  | none => False
def dLst (fa : DA) : DE := fun X ρ Q => fa X ρ fun xs ρ' => match dats xs with
  | some ds => ds.length ≤ 1000 ∧ Q (.lst ds) ρ'
  | none => False
/-- a list that may be changed -/
def dNew (fa : DA) : DL' := fun X ρ Q => fa X ρ fun xs ρ' => match dats xs with
  | some ds => ds.length ≤ 1000 ∧ Q (.ob ρ'.T.length) ⟨ρ'.T ++ [.lst ds], ρ'.s⟩
  | none => False
def dTest (f : DE) : DT := fun X ρ Q => f X ρ fun d ρ' => match d with
  | .bl b => Q b ρ'
  | _ => False
def dtAnd (t u : DT) : DT := fun X ρ Q => t X ρ fun b ρ' => if b = true then u X ρ' Q else Q false ρ'
def dtOr (t u : DT) : DT := fun X ρ Q => t X ρ fun b ρ' => if b = true then Q true ρ' else u X ρ' Q
def dtNot (t : DT) : DT := fun X ρ Q => t X ρ fun b ρ' => Q (!b) ρ'
def dAnd (f : DE) (g : DE) : DE := fun X ρ Q => f X ρ fun d ρ' => match d with
  | .bl b => if b = true then g X ρ' Q else Q (.bl false) ρ'
  | _ => False
def dOr (f : DE) (g : DE) : DE := fun X ρ Q => f X ρ fun d ρ' => match d with
  | .bl b => if b = true then Q (.bl true) ρ' else g X ρ' Q
  | _ => False
def dNot (f : DE) : DE := fun X ρ Q => f X ρ fun d ρ' => match d with
  | .bl b => Q (.bl (!b)) ρ'
  | _ => False
def dIf (t : DT) (f g : DE) : DE := fun X ρ Q => t X ρ fun b ρ' => if b = true then f X ρ' Q else g X ρ' Q
def dChain (g g' : D → D → (D → Prop) → Prop) (fa fb fc : DE) : DE := fun X ρ Q => fa X ρ fun d ρ1 => fb X ρ1 fun e ρ2 => g d e fun z => match z with
  | .bl b => if b = true then fc X ρ2 fun c ρ3 => g' e c fun y => Q y ρ3 else Q (.bl false) ρ2
  | _ => False

section
variable {X : Cx} {W : WX}

/-! ### names, constants -/
theorem pv' (i : Nat) {x : Str} {pos : Pos} (hN : X.N[i]? = some x) (hv : Vis X.env.scope x) (hd : (x == ("__debug__" : Str)) = false) (hcd : (x == ("__classdict__" : Str)) = false) : PE X (.Name x pos) (tVar i) := pe_var hN hv hd hcd
theorem de_var (i : Nat) {x : Str} {pos : Pos} (hN : X.N[i]? = some x := by rfl) (hv : Vis X.env.scope x := by first | exact Or.inl rfl | exact Or.inr (Or.inl rfl) | exact Or.inr (Or.inr rfl)) (hd : (x == ("__debug__" : Str)) = false := by decide)
    (hcd : (x == ("__classdict__" : Str)) = false := by decide) : PE X (.Name x pos) (lE X.K W (dVar i)) := pe_imp (pe_var (i := i) hN hv hd hcd) fun σ H Q h => by
  obtain ⟨ρ, G, la, P, XX, r, f, q, _⟩ := h
  unfold dVar at f
  split at f
  · rename_i d hs
    obtain ⟨v, hv, rel⟩ := r.at_ _ _ hs
    exact ⟨v, hv, q _ _ _ _ _ _ f (Aft.refl r) rel⟩
  · rename_i k hs
    obtain ⟨v, hv, a, ha, ev⟩ := r.at_ _ _ hs
    subst ev
    split at f
    · rename_i xs hk
      obtain ⟨vs, hH, gn, s1, dp, rl⟩ := r.tb.freeze ha hk
      refine ⟨_, hv, q _ _ _ _ la _ f ⟨s1, List.prefix_rfl, ⟨rl, by simp [r.sl], fun j x hj => ?_⟩⟩ dp⟩
      have hj' : (ρ.s.set i (some (.dat (.lst xs))))[j]? = some (some x) := hj
      by_cases hji : j = i
      · subst hji
        rw [List.getElem?_set_self (List.getElem?_eq_some_iff.mp hs).1] at hj'
        have e := Option.some.inj (Option.some.inj hj')
        subst e
        exact ⟨_, hv, dp⟩
      · rw [List.getElem?_set_ne (Ne.symm hji)] at hj'
        obtain ⟨u, hu, ru⟩ := r.at_ j x hj'
        exact ⟨u, hu, ru.grow s1 List.prefix_rfl⟩
    · exact f.elim
  · exact f.elim
theorem dl_var (i : Nat) {x : Str} {pos : Pos} (hN : X.N[i]? = some x := by rfl) (hv : Vis X.env.scope x := by first | exact Or.inl rfl | exact Or.inr (Or.inl rfl) | exact Or.inr (Or.inr rfl)) (hd : (x == ("__debug__" : Str)) = false := by decide)
    (hcd : (x == ("__classdict__" : Str)) = false := by decide) : PE X (.Name x pos) (lL X.K W (dVarL i)) := pe_imp (pe_var (i := i) hN hv hd hcd) fun σ H Q h => by
  obtain ⟨ρ, G, la, P, XX, r, f, q, _⟩ := h
  unfold dVarL at f
  split at f
  · rename_i x hs
    obtain ⟨v, hv, rel⟩ := r.at_ _ _ hs
    exact ⟨v, hv, q _ _ _ _ _ _ f (Aft.refl r) rel⟩
  · exact f.elim
theorem de_c {e : Expr} {d : D} {v : V} (h : PE X e (tC v)) (hd : ∀ K G, Dp K G v d) : PE X e (lE X.K W (dC d)) := pe_imp h fun σ H Q ⟨ρ, G, la, P, XX, r, f, q, _⟩ => q _ _ _ _ _ _ f (Aft.refl r) (hd _ _)
theorem de_int {i j pos} : PE X (.Constant (.int i) j pos) (lE X.K W (dC (.int i))) := de_c pe_int fun _ _ => .int i
theorem de_bl {b j pos} : PE X (.Constant (.bool b) j pos) (lE X.K W (dC (.bl b))) := de_c pe_bl fun _ _ => .bl b
theorem de_non {j pos} : PE X (.Constant .none j pos) (lE X.K W (dC .non)) := de_c pe_non fun _ _ => .non
theorem de_str {x j pos} : PE X (.Constant (.str x) j pos) (lE X.K W (dC (.str x))) := de_c pe_str fun _ _ => .str x
theorem de_gint {x : Str} {i : Int} {t : Tok} {pos : Pos} (hm : X.mg x = some (.int i t)) (hg : Gl X x := by rfl) (hd : (x == ("__debug__" : Str)) = false := by decide) : PE X (.Name x pos) (lE X.K W (dC (.int i))) :=
  de_c (pe_glob hg hm (v := .int i) ⟨t, rfl⟩ hd) fun _ _ => .int i
theorem de_gfn {x : Str} {a : Addr} {pos : Pos} (hm : X.mg x = some (.ref a)) (hg : Gl X x := by rfl) (hd : (x == ("__debug__" : Str)) = false := by decide) : PE X (.Name x pos) (lE X.K W (dC (.raw (.ref a)))) :=
  de_c (pe_glob hg hm (v := .ref a) rfl hd) fun _ _ => .raw _
theorem dl_dat {e : Expr} {f : DE} (h : PE X e (lE X.K W f)) : PE X e (lL X.K W (dDat f)) := pe_imp h fun σ H Q ⟨ρ, G, la, P, XX, r, f, q, x⟩ => ⟨ρ, G, la, _, XX, r, f, fun d ρ' v G' la' H' p a z => q _ _ _ _ _ _ p a z, x⟩
theorem de_val {e : Expr} {f : DL'} (h : PE X e (lL X.K W f)) : PE X e (lE X.K W (dVal f)) := pe_imp h fun σ H Q ⟨ρ, G, la, P, XX, r, f, q, x⟩ => ⟨ρ, G, la, _, XX, r, f, fun d ρ' v G' la' H' p a z => by
  cases d with
  | dat d => exact q _ _ _ _ _ _ p a z
  | ob k =>
    obtain ⟨b, hb, ev⟩ := z
    subst ev
    have p' : (match ρ'.T[k]? with
      | some (.lst xs) => P (.lst xs) ⟨ρ'.T.set k .dead, ρ'.s⟩
      | _ => False) := p
    split at p'
    · rename_i xs hk
      obtain ⟨vs, hH, gn, s1, dp, rl⟩ := a.r.tb.freeze hb hk
      refine q _ _ _ _ la' _ p' ⟨a.g.trans s1, a.p, ⟨rl, a.r.sl, fun j y hj => ?_⟩⟩ dp
      obtain ⟨u, hu, ru⟩ := a.r.at_ j y hj
      exact ⟨u, hu, ru.grow s1 List.prefix_rfl⟩
    · exact p'.elim
  | clo _ _ _ => exact (show False from p).elim, x⟩

/-! ### argument lists, displays -/
theorem da_nil : PA X [] (lA X.K W dNil) := pa_imp pa_nil fun σ H Q ⟨ρ, G, la, P, XX, r, f, q, _⟩ => q _ _ _ _ _ _ f (Aft.refl r) .nil
theorem da_cons {e : Expr} {es : List Expr} {f : DL'} {g : DA} (he : PE X e (lL X.K W f)) (hs : PA X es (lA X.K W g)) (hst : starEach (e :: es) X.env = (false, eval e X.env) :: starEach es X.env := by rfl) : PA X (e :: es) (lA X.K W (dCons f g)) :=
  pa_imp (pa_cons he hs hst) fun σ H Q ⟨ρ, G, la, P, XX, r, h, q, xo⟩ => ⟨ρ, G, la, _, XX, r, h, fun x ρ1 v G1 la1 H1 p1 a1 z1 => ⟨ρ1, G1, la1, _, XX, a1.r, p1, fun xs ρ2 vs G2 la2 H2 p2 a2 z2 =>
    q _ _ _ _ _ _ p2 (a1.trans a2) (.cons (z1.grow a2.g a2.p) z2), xo.up a1.g a1.p⟩, xo⟩
theorem dats_of {K : PySem.W.Frag} {G : Hp} {la : List Addr} : ∀ {vs : List V} {xs : List Sl} {ds : List D}, SlsR K G la vs xs → dats xs = some ds → Dps K G vs ds
  | _, _, _, .nil, h => by
    have e := Option.some.inj h
    subst e
    exact .nil
  | _, .dat d :: r, _, .cons a s, h => by
    have h' : (dats r).map (d :: ·) = some _ := h
    obtain ⟨t, ht, e⟩ := Option.map_eq_some_iff.mp h'
    subst e
    exact .cons a (dats_of s ht)
  | _, .ob _ :: _, _, .cons _ _, h => by cases h
  | _, .clo _ _ _ :: _, _, .cons _ _, h => by cases h
theorem dats_len : ∀ {xs : List Sl} {ds : List D}, dats xs = some ds → xs.length = ds.length
  | [], _, h => by
    have e := Option.some.inj h
    subst e
    rfl
  | .dat d :: r, _, h => by
    have h' : (dats r).map (d :: ·) = some _ := h
    obtain ⟨t, ht, e⟩ := Option.map_eq_some_iff.mp h'
    subst e
    exact congrArg (· + 1) (dats_len ht)
  | .ob _ :: _, _, h => by cases h
  | .clo _ _ _ :: _, _, h => by cases h
theorem short {n : Nat} (h : n ≤ 1000) : n ≤ sizeLine := Nat.le_of_lt (small1000 h)
theorem tup_some {xs : List Sl} {ρ' : Env} {P : D → Env → Prop} {c : List D → D} (h : match dats xs with
    | some ds => ds.length ≤ 1000 ∧ P (c ds) ρ'
    | none => False) : ∃ ds, dats xs = some ds ∧ ds.length ≤ 1000 ∧ P (c ds) ρ' := by
  cases e : dats xs with
  | none =>
    rw [e] at h
    exact h.elim
  | some ds =>
    rw [e] at h
    exact ⟨ds, rfl, h.1, h.2⟩
theorem de_tup {es : List Expr} {f : DA} {k pos} (h : PA X es (lA X.K W f)) : PE X (.Tuple es k pos) (lE X.K W (dTup f)) :=
  pe_imp (pe_tup h) fun σ H Q ⟨ρ, G, la, P, XX, r, h, q, xo⟩ => ⟨ρ, G, la, _, XX, r, h, fun xs ρ1 vs G1 la1 H1 p1 a1 z1 => by
    obtain ⟨ds, hd, hn, p1⟩ := tup_some p1
    have l0 : vs.length ≤ sizeLine := by
      rw [z1.len, dats_len hd]
      exact short hn
    refine ⟨l0, fun p hp => ?_⟩
    have w := Grow.new (o := .tup vs) a1.r.ext hp
    exact q _ _ _ _ _ _ p1 (a1.grow w) (.tup (.inl (.inl upd_same)) l0 ((dats_of z1 hd).up w.g)), xo⟩
theorem de_lst {es : List Expr} {f : DA} {pos} (h : PA X es (lA X.K W f)) : PE X (.List es pos) (lE X.K W (dLst f)) :=
  pe_imp (pe_lst h) fun σ H Q ⟨ρ, G, la, P, XX, r, h, q, xo⟩ => ⟨ρ, G, la, _, XX, r, h, fun xs ρ1 vs G1 la1 H1 p1 a1 z1 => by
    obtain ⟨ds, hd, hn, p1⟩ := tup_some p1
    have l0 : vs.length ≤ sizeLine := by
      rw [z1.len, dats_len hd]
      exact short hn
    refine ⟨l0, fun p hp => ?_⟩
    have w := Grow.new (o := .lst vs) a1.r.ext hp
    exact q _ _ _ _ _ _ p1 (a1.grow w) (.lst upd_same l0 ((dats_of z1 hd).up w.g)), xo⟩
theorem dl_new {es : List Expr} {f : DA} {pos} (h : PA X es (lA X.K W f)) : PE X (.List es pos) (lL X.K W (dNew f)) :=
  pe_imp (pe_lst h) fun σ H Q ⟨ρ, G, la, P, XX, r, h, q, xo⟩ => ⟨ρ, G, la, _, XX, r, h, fun xs ρ1 vs G1 la1 H1 p1 a1 z1 => by
    have p1' : (match dats xs with
      | some ds => ds.length ≤ 1000 ∧ P (.ob ρ1.T.length) ⟨ρ1.T ++ [.lst ds], ρ1.s⟩
      | none => False) := p1
    split at p1'
    · rename_i ds hd
      obtain ⟨hn, p2⟩ := p1'
      have l0 : vs.length ≤ sizeLine := by
        rw [z1.len, dats_len hd]
        exact short hn
      refine ⟨l0, fun p hp => ?_⟩
      have rf := a1.r.tb.fresh hp l0 (dats_of z1 hd)
      refine q _ _ _ G1 (la1 ++ [p]) _ p2 ⟨a1.g, a1.p.trans (List.prefix_append _ _), ⟨rf, a1.r.sl, fun j y hj => ?_⟩⟩ ⟨p, ?_, rfl⟩
      · obtain ⟨u, hu, ru⟩ := a1.r.at_ j y hj
        exact ⟨u, hu, ru.grow (Same.refl _) (List.prefix_append _ _)⟩
      · rw [← a1.r.tb.len, List.getElem?_append_right (Nat.le_refl _)]
        simp
    · exact p1'.elim, xo⟩

/-! ### operators -/
/-- r on values does what g does on data -/
def GOp (K : PySem.W.Frag) (r : R2) (g : D → D → (D → Prop) → Prop) : Prop := ∀ (G H : Hp) (x y : V) (d e : D) (P : D → Prop) (Q : VK), Same G H → Dp K G x d → Dp K G y e → g d e P →
  (∀ z v G' H', P z → Grow G H G' H' → Dp K G' v z → Q v H') → r x y H Q
theorem bin_core {K : PySem.W.Frag} {r : R2} {g : D → D → (D → Prop) → Prop} {fa fb : DE} (hg : GOp K r g) : ∀ (σ : L2.St) (H : Hp) (Q : VK), lE K W (dBin g fa fb) σ H Q → tOp r (lE K W fa) (lE K W fb) σ H Q := fun σ H Q ⟨ρ, G, la, P, XX, re, h, q, xo⟩ =>
  ⟨ρ, G, la, _, XX, re, h, fun d ρ1 v G1 la1 H1 p1 a1 z1 => ⟨ρ1, G1, la1, _, XX, a1.r, p1, fun e ρ2 u G2 la2 H2 p2 a2 z2 =>
    hg G2 H2 v u d e _ Q a2.r.ext (z1.up a2.g) z2 p2 fun z w G' H' pz gr dz => q _ _ _ _ _ _ pz ((a1.trans a2).grow gr) dz, xo.up a1.g a1.p⟩, xo⟩
theorem de_bin {op : Operator} {a b : Expr} {r : R2} {g : D → D → (D → Prop) → Prop} {fa fb : DE} {pos : Pos} (ho : OpR X (binaryOp op) r) (hg : GOp X.K r g) (ha : PE X a (lE X.K W fa)) (hb : PE X b (lE X.K W fb)) : PE X (.BinOp a op b pos) (lE X.K W (dBin g fa fb)) :=
  pe_imp (pe_op ho ha hb) (bin_core hg)
theorem de_cmp {op : CmpOp} {a b : Expr} {r : R2} {g : D → D → (D → Prop) → Prop} {fa fb : DE} {pos : Pos} (ho : OpR X (compareOp op) r) (hg : GOp X.K r g) (ha : PE X a (lE X.K W fa)) (hb : PE X b (lE X.K W fb)) (hm : behindInMarks op b = false) : PE X (.Compare a [op] [b] pos) (lE X.K W (dBin g fa fb)) :=
  pe_imp (pe_cmpR ho ha hb hm) (bin_core hg)
theorem chain_core {K : PySem.W.Frag} {r r' : R2} {g g' : D → D → (D → Prop) → Prop} {fa fb fc : DE} (hg : GOp K r g) (hg' : GOp K r' g') : ∀ (σ : L2.St) (H : Hp) (Q : VK), lE K W (dChain g g' fa fb fc) σ H Q → tChain r r' (lE K W fa) (lE K W fb) (lE K W fc) σ H Q := fun σ H Q ⟨ρ, G, la, P, XX, re, h, q, xo⟩ =>
  ⟨ρ, G, la, _, XX, re, h, fun d ρ1 v G1 la1 H1 p1 a1 z1 => ⟨ρ1, G1, la1, _, XX, a1.r, p1, fun e ρ2 u G2 la2 H2 p2 a2 z2 =>
    hg G2 H2 v u d e _ _ a2.r.ext (z1.up a2.g) z2 p2 fun z w G' H' pz gr dz => by
      cases z with
      | bl b' =>
        cases dz
        refine ⟨b', rfl, ?_⟩
        have a3 := (a1.trans a2).grow gr
        cases b' with
        | true =>
          refine iteT ?_
          have pz' : fc XX ρ2 fun c ρ3 => g' e c fun y => P y ρ3 := pz
          exact ⟨ρ2, G', la2, _, XX, a3.r, pz', fun c ρ3 w' G4 la4 H4 p4 a4 z4 =>
            hg' G4 H4 u w' e c _ Q a4.r.ext ((z2.up gr.g).up a4.g) z4 p4 fun y v' G5 H5 py gr5 dy => q _ _ _ _ _ _ py ((a3.trans a4).grow gr5) dy, xo.up a3.g a3.p⟩
        | false =>
          refine iteF ?_
          exact q _ _ _ _ _ _ (show P (.bl false) ρ2 from pz) a3 (.bl false)
      | _ => exact (show False from pz).elim, xo.up a1.g a1.p⟩, xo⟩
theorem de_chain {op op' : CmpOp} {a b c : Expr} {r r' : R2} {g g' : D → D → (D → Prop) → Prop} {fa fb fc : DE} {pos : Pos} (ho : OpR X (compareOp op) r) (ho' : OpR X (compareOp op') r') (hg : GOp X.K r g) (hg' : GOp X.K r' g') (ha : PE X a (lE X.K W fa)) (hb : PE X b (lE X.K W fb)) (hc : PE X c (lE X.K W fc))
    (hm : lastMarks [op, op'] [b, c] = false := by with_unfolding_all rfl) : PE X (.Compare a [op, op'] [b, c] pos) (lE X.K W (dChain g g' fa fb fc)) :=
  pe_imp (pe_chain ho ho' ha hb hc hm) (chain_core hg hg')
theorem de_un {op : UnaryOp} {a : Expr} {r : V → Hp → VK → Prop} {g : D → (D → Prop) → Prop} {fa : DE} {pos : Pos} (ho : UnR X (unaryOp op) r)
    (hg : ∀ (G H : Hp) (x : V) (d : D) (P : D → Prop) (Q : VK), Same G H → Dp X.K G x d → g d P → (∀ z v G' H', P z → Grow G H G' H' → Dp X.K G' v z → Q v H') → r x H Q) (ha : PE X a (lE X.K W fa)) : PE X (.UnaryOp op a pos) (lE X.K W (dUn g fa)) :=
  pe_imp (pe_un ho ha) fun σ H Q ⟨ρ, G, la, P, XX, re, h, q, xo⟩ => ⟨ρ, G, la, _, XX, re, h, fun d ρ1 v G1 la1 H1 p1 a1 z1 => hg G1 H1 v d _ _ a1.r.ext z1 p1 fun z w G' H' pz gr dz => q _ _ _ _ _ _ pz (a1.grow gr) dz, xo⟩

/-! ### tests -/
theorem dt_of {e : Expr} {f : DE} (h : PE X e (lE X.K W f)) (he : ∀ whole, isTrue e X.env whole = (do let v ← whole; standAt e.pos; holding [v] (truthy v)) := by intro _; rfl) : PT X e (lT X.K W (dTest f)) :=
  pt_imp (pt_val h he) fun σ H Q ⟨ρ, G, la, P, XX, r, h, q, xo⟩ => ⟨ρ, G, la, _, XX, r, h, fun d ρ1 v G1 la1 H1 p1 a1 z1 => by
    cases d with
    | bl b =>
      cases z1
      exact ⟨b, rfl, q _ _ _ _ _ (show P b ρ1 from p1) a1⟩
    | _ => exact (show False from p1).elim, xo⟩
theorem test_core {K : PySem.W.Frag} {f : DE} : ∀ (σ : L2.St) (H : Hp) (Q : Bool → Hp → Prop), lT K W (dTest f) σ H Q → lE K W f σ H (fun x H' => ∃ k, x = .bl k ∧ Q k H') := fun σ H Q ⟨ρ, G, la, P, XX, r, h, q, xo⟩ => ⟨ρ, G, la, _, XX, r, h, fun d ρ1 v G1 la1 H1 p1 a1 z1 => by
    cases d with
    | bl b =>
      cases z1
      exact ⟨b, rfl, q _ _ _ _ _ (show P b ρ1 from p1) a1⟩
    | _ => exact (show False from p1).elim, xo⟩
theorem dt_cmp {op : CmpOp} {a b : Expr} {r : R2} {g : D → D → (D → Prop) → Prop} {fa fb : DE} {pos : Pos} (ho : OpR X (compareOp op) r) (hg : GOp X.K r g) (ha : PE X a (lE X.K W fa)) (hb : PE X b (lE X.K W fb)) (hm : behindInMarks op b = false) : PT X (.Compare a [op] [b] pos) (lT X.K W (dTest (dBin g fa fb))) :=
  pt_imp (pt_cmpR ho ha hb hm) fun σ H Q h => bin_core hg σ H _ (test_core σ H Q h)
theorem dt_chain {op op' : CmpOp} {a b c : Expr} {r r' : R2} {g g' : D → D → (D → Prop) → Prop} {fa fb fc : DE} {pos : Pos} (ho : OpR X (compareOp op) r) (ho' : OpR X (compareOp op') r') (hg : GOp X.K r g) (hg' : GOp X.K r' g') (ha : PE X a (lE X.K W fa)) (hb : PE X b (lE X.K W fb)) (hc : PE X c (lE X.K W fc))
    (hm : lastMarks [op, op'] [b, c] = false := by with_unfolding_all rfl) : PT X (.Compare a [op, op'] [b, c] pos) (lT X.K W (dTest (dChain g g' fa fb fc))) :=
  pt_imp (pt_chain ho ho' ha hb hc hm) fun σ H Q h => chain_core hg hg' σ H _ (test_core σ H Q h)
theorem dt_not {e : Expr} {t : DT} {pos : Pos} (h : PT X e (lT X.K W t)) : PT X (.UnaryOp .Not e pos) (lT X.K W (dtNot t)) :=
  pt_imp (pt_not h) fun σ H Q ⟨ρ, G, la, P, XX, r, h, q, xo⟩ => ⟨ρ, G, la, _, XX, r, h, fun b ρ1 G1 la1 H1 p1 a1 => q _ _ _ _ _ p1 a1, xo⟩
theorem dw_and1 {e : Expr} {t : DT} {pos : Pos} (h : PT X e (lT X.K W t)) : PW X (.BoolOp .And [e] pos) (lT X.K W t) := pw_and1 h
theorem dw_or1 {e : Expr} {t : DT} {pos : Pos} (h : PT X e (lT X.K W t)) : PW X (.BoolOp .Or [e] pos) (lT X.K W t) := pw_or1 h
theorem dw_and {a b : Expr} {rest : List Expr} {t u : DT} {pos : Pos} (h : PT X a (lT X.K W t)) (h2 : PW X (.BoolOp .And (b :: rest) pos) (lT X.K W u)) : PW X (.BoolOp .And (a :: b :: rest) pos) (lT X.K W (dtAnd t u)) :=
  pw_imp (pw_and h h2) fun σ H Q ⟨ρ, G, la, P, XX, r, h, q, xo⟩ => ⟨ρ, G, la, _, XX, r, h, fun b ρ1 G1 la1 H1 p1 a1 => by
    cases b with
    | true => exact iteT ⟨ρ1, G1, la1, _, XX, a1.r, (show u XX ρ1 P from p1), fun b ρ2 G2 la2 H2 p2 a2 => q _ _ _ _ _ p2 (a1.trans a2), xo.up a1.g a1.p⟩
    | false => exact iteF (q _ _ _ _ _ (show P false ρ1 from p1) a1), xo⟩
theorem dw_or {a b : Expr} {rest : List Expr} {t u : DT} {pos : Pos} (h : PT X a (lT X.K W t)) (h2 : PW X (.BoolOp .Or (b :: rest) pos) (lT X.K W u)) : PW X (.BoolOp .Or (a :: b :: rest) pos) (lT X.K W (dtOr t u)) :=
  pw_imp (pw_or h h2) fun σ H Q ⟨ρ, G, la, P, XX, r, h, q, xo⟩ => ⟨ρ, G, la, _, XX, r, h, fun b ρ1 G1 la1 H1 p1 a1 => by
    cases b with
    | false => exact iteF ⟨ρ1, G1, la1, _, XX, a1.r, (show u XX ρ1 P from p1), fun b ρ2 G2 la2 H2 p2 a2 => q _ _ _ _ _ p2 (a1.trans a2), xo.up a1.g a1.p⟩
    | true => exact iteT (q _ _ _ _ _ (show P true ρ1 from p1) a1), xo⟩
theorem dw {e : Expr} {t : DT} (h : PW X e (lT X.K W t)) : PT X e (lT X.K W t) := h.pt
theorem de_and {a b : Expr} {rest : List Expr} {f g : DE} {pos : Pos} (h : PE X a (lE X.K W f)) (h2 : PE X (.BoolOp .And (b :: rest) pos) (lE X.K W g)) : PE X (.BoolOp .And (a :: b :: rest) pos) (lE X.K W (dAnd f g)) :=
  pe_imp (pe_and h h2) fun σ H Q ⟨ρ, G, la, P, XX, r, h, q, xo⟩ => ⟨ρ, G, la, _, XX, r, h, fun d ρ1 v G1 la1 H1 p1 a1 z1 => by
    cases d with
    | bl b =>
      cases z1
      refine ⟨b, rfl, ?_⟩
      cases b with
      | true => exact iteT ⟨ρ1, G1, la1, _, XX, a1.r, (show g XX ρ1 P from p1), fun d ρ2 v G2 la2 H2 p2 a2 z2 => q _ _ _ _ _ _ p2 (a1.trans a2) z2, xo.up a1.g a1.p⟩
      | false => exact iteF (q _ _ _ _ _ _ (show P (.bl false) ρ1 from p1) a1 (.bl false))
    | _ => exact (show False from p1).elim, xo⟩
theorem de_or {a b : Expr} {rest : List Expr} {f g : DE} {pos : Pos} (h : PE X a (lE X.K W f)) (h2 : PE X (.BoolOp .Or (b :: rest) pos) (lE X.K W g)) : PE X (.BoolOp .Or (a :: b :: rest) pos) (lE X.K W (dOr f g)) :=
  pe_imp (pe_or h h2) fun σ H Q ⟨ρ, G, la, P, XX, r, h, q, xo⟩ => ⟨ρ, G, la, _, XX, r, h, fun d ρ1 v G1 la1 H1 p1 a1 z1 => by
    cases d with
    | bl b =>
      cases z1
      refine ⟨b, rfl, ?_⟩
      cases b with
      | false => exact iteF ⟨ρ1, G1, la1, _, XX, a1.r, (show g XX ρ1 P from p1), fun d ρ2 v G2 la2 H2 p2 a2 z2 => q _ _ _ _ _ _ p2 (a1.trans a2) z2, xo.up a1.g a1.p⟩
      | true => exact iteT (q _ _ _ _ _ _ (show P (.bl true) ρ1 from p1) a1 (.bl true))
    | _ => exact (show False from p1).elim, xo⟩
theorem de_not {e : Expr} {f : DE} {pos : Pos} (h : PE X e (lE X.K W f)) : PE X (.UnaryOp .Not e pos) (lE X.K W (dNot f)) :=
  pe_imp (pe_not h) fun σ H Q ⟨ρ, G, la, P, XX, r, h, q, xo⟩ => ⟨ρ, G, la, _, XX, r, h, fun d ρ1 v G1 la1 H1 p1 a1 z1 => by
    cases d with
    | bl b =>
      cases z1
      exact ⟨b, rfl, q _ _ _ _ _ _ (show P (.bl (!b)) ρ1 from p1) a1 (.bl _)⟩
    | _ => exact (show False from p1).elim, xo⟩
theorem de_one {op : BoolOp} {e : Expr} {f : DE} {pos : Pos} (h : PE X e (lE X.K W f)) : PE X (.BoolOp op [e] pos) (lE X.K W f) := pe_one h
theorem de_if {c a b : Expr} {t : DT} {f g : DE} {pos : Pos} (hc : PT X c (lT X.K W t)) (ha : PE X a (lE X.K W f)) (hb : PE X b (lE X.K W g)) : PE X (.IfExp c a b pos) (lE X.K W (dIf t f g)) :=
  pe_imp (pe_ifExp hc ha hb) fun σ H Q ⟨ρ, G, la, P, XX, r, h, q, xo⟩ => ⟨ρ, G, la, _, XX, r, h, fun b ρ1 G1 la1 H1 p1 a1 => by
    cases b with
    | true => exact iteT ⟨ρ1, G1, la1, _, XX, a1.r, (show f XX ρ1 P from p1), fun d ρ2 v G2 la2 H2 p2 a2 z2 => q _ _ _ _ _ _ p2 (a1.trans a2) z2, xo.up a1.g a1.p⟩
    | false => exact iteF ⟨ρ1, G1, la1, _, XX, a1.r, (show g XX ρ1 P from p1), fun d ρ2 v G2 la2 H2 p2 a2 z2 => q _ _ _ _ _ _ p2 (a1.trans a2) z2, xo.up a1.g a1.p⟩, xo⟩
end
end DL
set_option Elab.async false
set_option linter.all false
set_option maxRecDepth 100000
set_option maxHeartbeats 4000000
set_option autoImplicit false
/-! The data level: operators, subscripts, slices, calls of built-ins. -/
namespace DL
open PySem PySem.Spec PyProof.Rows L2

/-! ### arithmetic -/
def gAdd : D → D → (D → Prop) → Prop
  | .int i, .int j, P => P (.int (i + j))
  | .str i, .str j, P => i.length + j.length ≤ sizeLine ∧ P (.str (i ++ j))
  | .tup a, .tup b, P => a.length + b.length ≤ sizeLine ∧ P (.tup (a ++ b))
  | .lst a, .lst b, P => a.length + b.length ≤ sizeLine ∧ P (.lst (a ++ b))
  | _, _, _ => False
def gSub : D → D → (D → Prop) → Prop
  | .int i, .int j, P => P (.int (i - j))
  | _, _, _ => False
def gMul : D → D → (D → Prop) → Prop
  | .int i, .int j, P => CMulW i j ∧ P (.int (i * j))
  | _, _, _ => False
def gDiv : D → D → (D → Prop) → Prop
  | .int i, .int j, P => CDivW i j ∧ P (.int (i / j))
  | _, _, _ => False
def gMod : D → D → (D → Prop) → Prop
  | .int i, .int j, P => 0 < j ∧ P (.int (i % j))
  | _, _, _ => False
def gPow : D → D → (D → Prop) → Prop
  | .int i, .int j, P => CPow i j ∧ P (.int (i ^ j.toNat))
  | _, _, _ => False
def gNeg : D → (D → Prop) → Prop
  | .int i, P => P (.int (-i))
  | _, _ => False
section
variable {K : PySem.W.Frag}
theorem sqt_of {G H : Hp} {p : Addr} {vs : List V} (e : Same G H) (h : SqT K G p vs) : SqT K H p vs := same_t e h
theorem gop_rI {C : Int → Int → Prop} {f : Int → Int → Int} {g : D → D → (D → Prop) → Prop} (h : ∀ d e P, g d e P → ∃ i j, d = .int i ∧ e = .int j ∧ C i j ∧ P (.int (f i j))) : GOp K (rI C fun i j => .int (f i j)) g := by
  intro G H x y d e P Q sm dx dy gp k
  obtain ⟨i, j, rfl, rfl, c, p⟩ := h d e P gp
  cases dx
  cases dy
  exact ⟨i, j, rfl, rfl, c, k _ _ _ _ p (Grow.refl sm) (.int _)⟩
theorem gop_rI0 {f : Int → Int → Int} {g : D → D → (D → Prop) → Prop} (h : ∀ d e P, g d e P → ∃ i j, d = .int i ∧ e = .int j ∧ P (.int (f i j))) : GOp K (rI0 fun i j => .int (f i j)) g := by
  intro G H x y d e P Q sm dx dy gp k
  obtain ⟨i, j, rfl, rfl, p⟩ := h d e P gp
  cases dx
  cases dy
  exact ⟨i, j, rfl, rfl, k _ _ _ _ p (Grow.refl sm) (.int _)⟩
theorem gop_rB0 {f : Int → Int → Bool} {g : D → D → (D → Prop) → Prop} (h : ∀ d e P, g d e P → ∃ i j, d = .int i ∧ e = .int j ∧ P (.bl (f i j))) : GOp K (rI0 fun i j => .bl (f i j)) g := by
  intro G H x y d e P Q sm dx dy gp k
  obtain ⟨i, j, rfl, rfl, p⟩ := h d e P gp
  cases dx
  cases dy
  exact ⟨i, j, rfl, rfl, k _ _ _ _ p (Grow.refl sm) (.bl _)⟩
theorem g_sub : GOp K (rI0 fun i j => .int (i - j)) gSub := gop_rI0 fun d e P h => by
  unfold gSub at h
  split at h
  · exact ⟨_, _, rfl, rfl, h⟩
  · exact h.elim
theorem g_mul : GOp K (rI CMulW fun i j => .int (i * j)) gMul := gop_rI fun d e P h => by
  unfold gMul at h
  split at h
  · exact ⟨_, _, rfl, rfl, h.1, h.2⟩
  · exact h.elim
theorem g_div : GOp K (rI CDivW fun i j => .int (i / j)) gDiv := gop_rI fun d e P h => by
  unfold gDiv at h
  split at h
  · exact ⟨_, _, rfl, rfl, h.1, h.2⟩
  · exact h.elim
theorem g_mod : GOp K (rI (fun _ j => 0 < j) fun i j => .int (i % j)) gMod := gop_rI fun d e P h => by
  unfold gMod at h
  split at h
  · exact ⟨_, _, rfl, rfl, h.1, h.2⟩
  · exact h.elim
theorem g_pow : GOp K (rI CPow fun i j => .int (i ^ j.toNat)) gPow := gop_rI fun d e P h => by
  unfold gPow at h
  split at h
  · exact ⟨_, _, rfl, rfl, h.1, h.2⟩
  · exact h.elim
/-- + of ints, texts, tuples, lists -/
def rAddA (K : PySem.W.Frag) : R2 := fun x y H Q => (rI0 (fun i j => .int (i + j)) x y H Q) ∨ (∃ i j, x = .str i ∧ y = .str j ∧ i.length + j.length ≤ sizeLine ∧ Q (.str (i ++ j)) H) ∨ rCatA K x y H Q ∨ rCat x y H Q
theorem op_addA {X : Cx} : OpR X (binaryOp .Add) (rAddA X.K) := op_add.or (op_add_str.or (op_catA.or op_cat))
theorem nil_iff {K : PySem.W.Frag} {G : Hp} {vs : List V} {ds : List D} (h : Dps K G vs ds) : vs = [] ↔ ds = [] := by
  cases h with
  | nil => simp
  | cons _ _ => simp
theorem g_add : GOp K (rAddA K) gAdd := by
  intro G H x y d e P Q sm dx dy gp k
  unfold gAdd at gp
  split at gp
  · cases dx
    cases dy
    exact .inl ⟨_, _, rfl, rfl, k _ _ _ _ gp (Grow.refl sm) (.int _)⟩
  · cases dx
    cases dy
    exact .inr (.inl ⟨_, _, rfl, rfl, gp.1, k _ _ _ _ gp.2 (Grow.refl sm) (.str _)⟩)
  · cases dx with
    | tup a l r =>
      rename_i pa va
      cases dy with
      | tup a' l' r' =>
        rename_i pb vb
        have lz : va.length + vb.length ≤ sizeLine := by
          rw [r.len, r'.len]
          exact gp.1
        refine .inr (.inr (.inl ⟨_, _, va, vb, rfl, rfl, same_t sm a, same_t sm a', lz, fun z => ?_, fun z z' => ?_, fun z z' q hq => ?_⟩))
        · have e0 := (nil_iff r).mp z
          have e1 := gp.2
          rw [e0, List.nil_append] at e1
          exact k _ _ _ _ e1 (Grow.refl sm) (.tup a' l' r')
        · have e0 := (nil_iff r').mp z'
          have e1 := gp.2
          rw [e0, List.append_nil] at e1
          exact k _ _ _ _ e1 (Grow.refl sm) (.tup a l r)
        · have w := Grow.new (o := .tup (va ++ vb)) sm hq
          exact k _ _ _ _ gp.2 w (.tup (.inl (.inl upd_same)) (by rw [List.length_append]; exact lz) ((r.app r').up w.g))
  · cases dx with
    | lst a l r =>
      rename_i pa va
      cases dy with
      | lst a' l' r' =>
        rename_i pb vb
        have lz : va.length + vb.length ≤ sizeLine := by
          rw [r.len, r'.len]
          exact gp.1
        refine .inr (.inr (.inr ⟨_, _, va, vb, rfl, rfl, sm _ _ a, sm _ _ a', lz, fun q hq => ?_⟩))
        have w := Grow.new (o := .lst (va ++ vb)) sm hq
        exact k _ _ _ _ gp.2 w (.lst upd_same (by rw [List.length_append]; exact lz) ((r.app r').up w.g))
  · exact gp.elim

/-! ### comparisons -/
def gLt : D → D → (D → Prop) → Prop
  | .int i, .int j, P => P (.bl (decide (i < j)))
  | _, _, _ => False
def gLe : D → D → (D → Prop) → Prop
  | .int i, .int j, P => P (.bl (decide (i ≤ j)))
  | _, _, _ => False
def gGt : D → D → (D → Prop) → Prop
  | .int i, .int j, P => P (.bl (decide (j < i)))
  | _, _, _ => False
def gGe : D → D → (D → Prop) → Prop
  | .int i, .int j, P => P (.bl (decide (j ≤ i)))
  | _, _, _ => False
theorem g_lt : GOp K (rI0 fun i j => .bl (decide (i < j))) gLt := gop_rB0 (f := fun i j => decide (i < j)) fun d e P h => by
  unfold gLt at h
  split at h
  · exact ⟨_, _, rfl, rfl, h⟩
  · exact h.elim
theorem g_le : GOp K (rI0 fun i j => .bl (decide (i ≤ j))) gLe := gop_rB0 (f := fun i j => decide (i ≤ j)) fun d e P h => by
  unfold gLe at h
  split at h
  · exact ⟨_, _, rfl, rfl, h⟩
  · exact h.elim
theorem g_gt : GOp K (rI0 fun i j => .bl (decide (j < i))) gGt := gop_rB0 (f := fun i j => decide (j < i)) fun d e P h => by
  unfold gGt at h
  split at h
  · exact ⟨_, _, rfl, rfl, h⟩
  · exact h.elim
theorem g_ge : GOp K (rI0 fun i j => .bl (decide (j ≤ i))) gGe := gop_rB0 (f := fun i j => decide (j ≤ i)) fun d e P h => by
  unfold gGe at h
  split at h
  · exact ⟨_, _, rfl, rfl, h⟩
  · exact h.elim
/-- is None -/
def isNon : D → Option Bool
  | .non => some true
  | .raw _ => none
  | _ => some false
def gIsN (neg : Bool) : D → D → (D → Prop) → Prop := fun d e P => match e with
  | .non => match isNon d with
    | some b => P (.bl (if neg then !b else b))
    | none => False
  | _ => False
theorem isNon_of {G : Hp} {x : V} {d : D} {b : Bool} (h : Dp K G x d) (e : isNon d = some b) : decide (x = .non) = b := by
  cases h <;> first
    | (have e' := Option.some.inj e; subst e'; simp; done)
    | (have e' := Option.some.inj e; subst e'; exact decide_eq_true rfl)
    | cases e
theorem g_isN : GOp K (fun x y H Q => y = .non ∧ Q (.bl (decide (x = .non))) H) (gIsN false) := by
  intro G H x y d e P Q sm dx dy gp k
  unfold gIsN at gp
  split at gp
  · cases dy
    split at gp
    · rename_i b hb
      rw [isNon_of dx hb]
      exact ⟨rfl, k _ _ _ _ gp (Grow.refl sm) (.bl _)⟩
    · exact gp.elim
  · exact gp.elim
theorem g_notN : GOp K (fun x y H Q => y = .non ∧ Q (.bl (!decide (x = .non))) H) (gIsN true) := by
  intro G H x y d e P Q sm dx dy gp k
  unfold gIsN at gp
  split at gp
  · cases dy
    split at gp
    · rename_i b hb
      rw [isNon_of dx hb]
      exact ⟨rfl, k _ _ _ _ gp (Grow.refl sm) (.bl _)⟩
    · exact gp.elim
  · exact gp.elim
end

/-! ### == of data -/
mutual
def toP : D → PyData
  | .non => .none
  | .bl b => .bool b
  | .int i => .int i
  | .str x => .str x
  | .raw _ => .none
  | .tup xs => .tuple (toPs xs)
  | .lst xs => .list (toPs xs)
  | .scr ns => .list (ns.map .int)
  | .fn _ => .none
  | .err _ _ => .none
def toPs : List D → List PyData
  | [] => []
  | x :: xs => toP x :: toPs xs
end
mutual
/-- data without strange values, not deeper than n -/
def okd : Nat → D → Bool
  | _, .raw _ => false
  | n, .tup xs => match n with
    | 0 => false
    | n + 1 => okds n xs
  | n, .lst xs => match n with
    | 0 => false
    | n + 1 => okds n xs
  | _, .scr _ => false
  | _, .fn _ => false
  | _, .err _ _ => false
  | _, _ => true
def okds : Nat → List D → Bool
  | _, [] => true
  | n, x :: xs => okd n x && okds n xs
end
/-- whether two data are equal to Python -/
def deq (d e : D) : Bool := PyData.eqv (toP d) (toP e)
def deqs (ds es : List D) : Bool := PyData.eqvAll (toPs ds) (toPs es)
theorem plain_ints : ∀ ns : List Int, PyData.plainAll (ns.map PyData.int) = true
  | [] => rfl
  | _ :: ns => plain_ints ns
theorem depth_ints : ∀ ns : List Int, PyData.depthAll (ns.map PyData.int) = 0
  | [] => by simp [PyData.depthAll]
  | _ :: ns => by
    have ih := depth_ints ns
    simp only [List.map_cons, PyData.depthAll, PyData.depth, ih]
    rfl
mutual
theorem plain_toP : ∀ (n : Nat) (d : D), okd n d = true → (toP d).plain = true ∧ (toP d).depth ≤ n
  | n, .non, _ => ⟨rfl, Nat.zero_le _⟩
  | n, .bl _, _ => ⟨rfl, Nat.zero_le _⟩
  | n, .int _, _ => ⟨rfl, Nat.zero_le _⟩
  | n, .str _, _ => ⟨rfl, Nat.zero_le _⟩
  | n, .raw _, h => by simp [okd] at h
  | 0, .tup xs, h => by simp [okd] at h
  | n + 1, .tup xs, h => by
    have h' : okds n xs = true := by simpa [okd] using h
    obtain ⟨a, b⟩ := plain_toPs n xs h'
    refine ⟨?_, ?_⟩
    · show PyData.plainAll (toPs xs) = true
      exact a
    · show PyData.depthAll (toPs xs) + 1 ≤ n + 1
      omega
  | 0, .lst xs, h => by simp [okd] at h
  | n + 1, .lst xs, h => by
    have h' : okds n xs = true := by simpa [okd] using h
    obtain ⟨a, b⟩ := plain_toPs n xs h'
    refine ⟨?_, ?_⟩
    · show PyData.plainAll (toPs xs) = true
      exact a
    · show PyData.depthAll (toPs xs) + 1 ≤ n + 1
      omega
  | 0, .scr _, h => by simp [okd] at h
  | n + 1, .scr ns, _ => by
    refine ⟨?_, ?_⟩
    · show PyData.plainAll (ns.map PyData.int) = true
      exact plain_ints ns
    · show PyData.depthAll (ns.map PyData.int) + 1 ≤ n + 1
      rw [depth_ints]
      omega
  | n, .fn _, h => by simp [okd] at h
  | n, .err _ _, h => by simp [okd] at h
theorem plain_toPs : ∀ (n : Nat) (ds : List D), okds n ds = true → PyData.plainAll (toPs ds) = true ∧ PyData.depthAll (toPs ds) ≤ n
  | n, [], _ => ⟨rfl, by simp [toPs, PyData.depthAll]⟩
  | n, x :: xs, h => by
    have h' : okd n x = true ∧ okds n xs = true := by simpa [okds] using h
    obtain ⟨a, b⟩ := plain_toP n x h'.1
    obtain ⟨c, d⟩ := plain_toPs n xs h'.2
    refine ⟨?_, ?_⟩
    · show ((toP x).plain && PyData.plainAll (toPs xs)) = true
      rw [a, c]
      rfl
    · show max (toP x).depth (PyData.depthAll (toPs xs)) ≤ n
      omega
end
section
variable {K : PySem.W.Frag} {G H : Hp}
theorem sql_up {G H : Hp} {p : Addr} {vs : List V} (e : Same G H) (h : SqL K G p vs) : SqL K H p vs := e.seq h
theorem dpall_ints (H : Hp) : ∀ ns : List Int, L2.DpAll K H (ns.map V.int) (ns.map PyData.int)
  | [] => .nil
  | n :: ns => .cons (.int n) (dpall_ints H ns)
mutual
theorem Dp.l2 (sm : Same G H) : ∀ (n : Nat) (d : D) (v : V), Dp K G v d → okd n d = true → L2.Dp K H v (toP d)
  | n, .non, _, h, _ => by cases h; exact .non
  | n, .bl _, _, h, _ => by cases h; exact .bl _
  | n, .int _, _, h, _ => by cases h; exact .int _
  | n, .str _, _, h, _ => by cases h; exact .str _
  | n, .raw _, _, _, o => by simp [okd] at o
  | 0, .tup _, _, _, o => by simp [okd] at o
  | n + 1, .tup xs, _, h, o => by
    cases h with
    | tup a l r =>
      have o' : okds n xs = true := by simpa [okd] using o
      exact .tup (same_t sm a) (Dps.l2 sm n xs _ r o')
  | 0, .lst _, _, _, o => by simp [okd] at o
  | n + 1, .lst xs, _, h, o => by
    cases h with
    | lst a l r =>
      have o' : okds n xs = true := by simpa [okd] using o
      exact .lst (SqL.of (sm _ _ a)) (Dps.l2 sm n xs _ r o')
  | n, .scr ns, _, h, _ => by
    cases h with
    | scr a => exact .lst (sm.seq a) (dpall_ints H ns)
  | n, .fn _, _, _, o => by simp [okd] at o
  | n, .err _ _, _, _, o => by simp [okd] at o
theorem Dps.l2 (sm : Same G H) : ∀ (n : Nat) (ds : List D) (vs : List V), Dps K G vs ds → okds n ds = true → L2.DpAll K H vs (toPs ds)
  | n, [], _, h, _ => by cases h; exact .nil
  | n, d :: ds, _, h, o => by
    cases h with
    | cons a r =>
      have o' : okd n d = true ∧ okds n ds = true := by simpa [okds] using o
      exact .cons (Dp.l2 sm n d _ a o'.1) (Dps.l2 sm n ds _ r o'.2)
end
end
/-- == by data that are plain -/
def rEqP (K : PySem.W.Frag) : R2 := fun x y H Q => ∃ d e, L2.Dp K H x d ∧ L2.Dp K H y e ∧ d.plain = true ∧ e.plain = true ∧ d.depth ≤ 60 ∧ Q (.bl (PyData.eqv d e)) H
def rNeP (K : PySem.W.Frag) : R2 := fun x y H Q => ∃ d e, L2.Dp K H x d ∧ L2.Dp K H y e ∧ d.plain = true ∧ e.plain = true ∧ d.depth ≤ 60 ∧ Q (.bl (!PyData.eqv d e)) H
section
variable {X : Cx}
theorem op_eqP (hu : X.A.units + 64 < cLine) : OpR X (compareOp .Eq) (rEqP X.K) := by
  intro pins s σ H x y v u Q I rx ry h
  obtain ⟨d, e, hd, he, sd, se, dp, q⟩ := h
  obtain ⟨as_, r1⟩ := L2.Dp.reads I d x v hd rx
  obtain ⟨bs, r2⟩ := L2.Dp.reads I e y u he ry
  have h2 : min d.depth e.depth ≤ d.depth := Nat.min_le_left _ _
  exact SeqAt.eq_plain r1 r2 sd se (by omega) ⟨.bl _, H, I, rfl, q⟩
theorem op_neP (hu : X.A.units + 64 < cLine) : OpR X (compareOp .NotEq) (rNeP X.K) := by
  intro pins s σ H x y v u Q I rx ry h
  obtain ⟨d, e, hd, he, sd, se, dp, q⟩ := h
  obtain ⟨as_, r1⟩ := L2.Dp.reads I d x v hd rx
  obtain ⟨bs, r2⟩ := L2.Dp.reads I e y u he ry
  have h2 : min d.depth e.depth ≤ d.depth := Nat.min_le_left _ _
  exact SeqAt.ne_plain r1 r2 sd se (by omega) ⟨.bl _, H, I, rfl, q⟩
end
def gEq : D → D → (D → Prop) → Prop := fun d e P => okd 60 d = true ∧ okd 60 e = true ∧ P (.bl (deq d e))
def gNe : D → D → (D → Prop) → Prop := fun d e P => okd 60 d = true ∧ okd 60 e = true ∧ P (.bl (!deq d e))
section
variable {K : PySem.W.Frag}
theorem g_eq : GOp K (rEqP K) gEq := by
  intro G H x y d e P Q sm dx dy gp k
  obtain ⟨o1, o2, p⟩ := gp
  exact ⟨toP d, toP e, Dp.l2 sm 60 d x dx o1, Dp.l2 sm 60 e y dy o2, (plain_toP 60 d o1).1, (plain_toP 60 e o2).1, (plain_toP 60 d o1).2, k _ _ _ _ p (Grow.refl sm) (.bl _)⟩
theorem g_ne : GOp K (rNeP K) gNe := by
  intro G H x y d e P Q sm dx dy gp k
  obtain ⟨o1, o2, p⟩ := gp
  exact ⟨toP d, toP e, Dp.l2 sm 60 d x dx o1, Dp.l2 sm 60 e y dy o2, (plain_toP 60 d o1).1, (plain_toP 60 e o2).1, (plain_toP 60 d o1).2, k _ _ _ _ p (Grow.refl sm) (.bl _)⟩
end

/-! ### in -/
def rInP (K : PySem.W.Frag) (neg : Bool) : R2 := fun x y H Q => ∃ d es, L2.Dp K H x d ∧ (L2.Dp K H y (.list es) ∨ L2.Dp K H y (.tuple es)) ∧ d.plain = true ∧ PyData.plainAll es = true ∧ d.depth ≤ 60 ∧ Q (.bl (if neg then !(es.any fun z => PyData.eqv z d) else es.any fun z => PyData.eqv z d)) H
section
variable {X : Cx}
theorem op_inP (hu : X.A.units + 64 < cLine) : OpR X (compareOp .In) (rInP X.K false) := by
  intro pins s σ H x y v u Q I rx ry h
  obtain ⟨d, es, hd, he, sd, se, dp, q⟩ := h
  obtain ⟨as_, r1⟩ := L2.Dp.reads I d x v hd rx
  have h2 : min (PyData.depthAll es) d.depth ≤ d.depth := Nat.min_le_right _ _
  rcases he with he | he
  · obtain ⟨bs, r2⟩ := L2.Dp.reads I _ y u he ry
    exact SeqAt.in_list_data r2 r1 se sd (by omega) ⟨.bl _, H, I, rfl, q⟩
  · obtain ⟨bs, r2⟩ := L2.Dp.reads I _ y u he ry
    exact SeqAt.in_tuple_data r2 r1 se sd (by omega) ⟨.bl _, H, I, rfl, q⟩
theorem op_ninP (hu : X.A.units + 64 < cLine) : OpR X (compareOp .NotIn) (rInP X.K true) := by
  intro pins s σ H x y v u Q I rx ry h
  obtain ⟨d, es, hd, he, sd, se, dp, q⟩ := h
  obtain ⟨as_, r1⟩ := L2.Dp.reads I d x v hd rx
  have h2 : min (PyData.depthAll es) d.depth ≤ d.depth := Nat.min_le_right _ _
  rcases he with he | he
  · obtain ⟨bs, r2⟩ := L2.Dp.reads I _ y u he ry
    exact SeqAt.notIn_list_data r2 r1 se sd (by omega) ⟨.bl _, H, I, rfl, q⟩
  · obtain ⟨bs, r2⟩ := L2.Dp.reads I _ y u he ry
    exact SeqAt.notIn_tuple_data r2 r1 se sd (by omega) ⟨.bl _, H, I, rfl, q⟩
end
/-- whether one of es is equal to d -/
def dmem (d : D) (es : List D) : Bool := es.any fun z => deq z d
def gIn (neg : Bool) : D → D → (D → Prop) → Prop
  | d, .tup es, P => okd 60 d = true ∧ okds 60 es = true ∧ P (.bl (if neg then !dmem d es else dmem d es))
  | d, .lst es, P => okd 60 d = true ∧ okds 60 es = true ∧ P (.bl (if neg then !dmem d es else dmem d es))
  | _, _, _ => False
theorem toPs_any (d : D) : ∀ es : List D, ((toPs es).any fun z => PyData.eqv z (toP d)) = dmem d es
  | [] => rfl
  | e :: es => by
    show (PyData.eqv (toP e) (toP d) || (toPs es).any _) = (deq e d || es.any _)
    rw [toPs_any d es]
    rfl
section
variable {K : PySem.W.Frag}
theorem g_in (neg : Bool) : GOp K (rInP K neg) (gIn neg) := by
  intro G H x y d e P Q sm dx dy gp k
  unfold gIn at gp
  split at gp
  · rename_i es
    obtain ⟨o1, o2, p⟩ := gp
    refine ⟨toP d, toPs es, Dp.l2 sm 60 d x dx o1, .inr (show L2.Dp K H y (toP (.tup es)) from Dp.l2 sm 61 _ y dy (by simpa [okd] using o2)), (plain_toP 60 d o1).1, (plain_toPs 60 es o2).1, (plain_toP 60 d o1).2, ?_⟩
    rw [toPs_any]
    exact k _ _ _ _ p (Grow.refl sm) (.bl _)
  · rename_i es
    obtain ⟨o1, o2, p⟩ := gp
    refine ⟨toP d, toPs es, Dp.l2 sm 60 d x dx o1, .inl (show L2.Dp K H y (toP (.lst es)) from Dp.l2 sm 61 _ y dy (by simpa [okd] using o2)), (plain_toP 60 d o1).1, (plain_toPs 60 es o2).1, (plain_toP 60 d o1).2, ?_⟩
    rw [toPs_any]
    exact k _ _ _ _ p (Grow.refl sm) (.bl _)
  · exact gp.elim
end
end DL
set_option Elab.async false
set_option linter.all false
set_option maxRecDepth 100000
set_option maxHeartbeats 4000000
set_option autoImplicit false
/-! The data level: subscripts, slices, calls. -/
namespace DL
open PySem PySem.Spec PyProof.Rows L2

/-! ### subscripts -/
def gIx : D → D → (D → Prop) → Prop
  | .tup xs, .int i, P => match atI xs i with
    | some d => P d
    | none => False
  | .lst xs, .int i, P => match atI xs i with
    | some d => P d
    | none => False
  | .scr ns, .int i, P => match atI ns i with
    | some n => P (.int n)
    | none => False
  | .str z, .int i, P => z.length ≤ sizeLine ∧ match atI z.cps.toList i with
    | some c => P (.str ⟨#[c]⟩)
    | none => False
  | _, _, _ => False
section
variable {K : PySem.W.Frag} {G H : Hp}
theorem Dps.atI {vs : List V} {ds : List D} {i : Int} {d : D} (h : Dps K G vs ds) (e : atI ds i = some d) : ∃ v, L2.atI vs i = some v ∧ Dp K G v d := by
  unfold L2.atI at e ⊢
  rw [← h.len] at e
  cases q : ixN vs.length i with
  | none =>
    rw [q] at e
    cases e
  | some j =>
    rw [q] at e
    exact h.get e
theorem atI_map {ns : List Int} {i n : Int} (e : atI ns i = some n) : atI (ns.map V.int) i = some (.int n) := by
  unfold L2.atI at e ⊢
  rw [List.length_map]
  cases q : ixN ns.length i with
  | none =>
    rw [q] at e
    cases e
  | some j =>
    rw [q] at e
    show (ns.map V.int)[j]? = _
    rw [List.getElem?_map, show ns[j]? = some n from e]
    rfl
theorem g_ix : GOp K (rIx K) gIx := by
  intro G H x y d e P Q sm dx dy gp k
  unfold gIx at gp
  split at gp
  · cases dy
    cases dx with
    | tup a l r =>
      split at gp
      · rename_i z hz
        obtain ⟨v, hv, dv⟩ := r.atI hz
        exact .inr (.inl ⟨_, _, _, v, rfl, rfl, same_t sm a, hv, k _ _ _ _ gp (Grow.refl sm) dv⟩)
      · exact gp.elim
  · cases dy
    cases dx with
    | lst a l r =>
      split at gp
      · rename_i z hz
        obtain ⟨v, hv, dv⟩ := r.atI hz
        exact .inl ⟨_, _, _, v, rfl, rfl, SqL.of (sm _ _ a), hv, k _ _ _ _ gp (Grow.refl sm) dv⟩
      · exact gp.elim
  · cases dy
    cases dx with
    | scr a =>
      split at gp
      · rename_i z hz
        exact .inl ⟨_, _, _, _, rfl, rfl, sm.seq a, atI_map hz, k _ _ _ _ gp (Grow.refl sm) (.int _)⟩
      · exact gp.elim
  · cases dy
    cases dx
    obtain ⟨lz, gp⟩ := gp
    split at gp
    · rename_i z hz
      exact .inr (.inr ⟨_, _, _, rfl, rfl, lz, hz, k _ _ _ _ gp (Grow.refl sm) (.str _)⟩)
    · exact gp.elim
  · exact gp.elim
end
section
variable {X : Cx} {W : WX}
theorem de_ix {a b : Expr} {fa fb : DE} {pos : Pos} (ha : PE X a (lE X.K W fa)) (hb : PE X b (lE X.K W fb)) (hs : PlainIx b := by exact fun _ _ => rfl) : PE X (.Subscript a b pos) (lE X.K W (dBin gIx fa fb)) :=
  pe_imp (pe_ix ix_seq ha hb hs) (bin_core g_ix)
end

/-! ### slices -/
abbrev DO := XP → Env → (Option Int → Env → Prop) → Prop
def lO (K : PySem.W.Frag) (W : WX) (f : DO) : TO := fun σ H Q => ∃ ρ G la P X, Re K G H la σ ρ ∧ f X ρ P ∧ (∀ b ρ' G' la' H', P b ρ' → Aft K G la σ ρ' G' la' H' → Q b H') ∧ XO K G la W X
def dNo : DO := fun _ ρ Q => Q none ρ
def dSo (f : DE) : DO := fun X ρ Q => f X ρ fun d ρ' => match d with
  | .int i => Q (some i) ρ'
  | _ => False
def cutL {α : Type} (xs : List α) (lo hi : Option Int) : List α := (xs.drop (HT.sIx xs.length 0 lo)).take (HT.sIx xs.length xs.length hi - HT.sIx xs.length 0 lo)
def gSl : D → Option Int → Option Int → (D → Prop) → Prop
  | .tup xs, lo, hi, P => P (.tup (cutL xs lo hi))
  | .lst xs, lo, hi, P => P (.lst (cutL xs lo hi))
  | .str z, lo, hi, P => z.length ≤ sizeLine ∧ P (.str (cutS z lo hi))
  | _, _, _, _ => False
def dSl (fe : DE) (fl fh : DO) : DE := fun X ρ Q => fe X ρ fun d ρ1 => fl X ρ1 fun lo ρ2 => fh X ρ2 fun hi ρ3 => gSl d lo hi fun z => Q z ρ3
section
variable {K : PySem.W.Frag} {G H : Hp}
theorem cutL_len {α : Type} (xs : List α) (lo hi : Option Int) : (cutL xs lo hi).length ≤ xs.length := by
  unfold cutL
  rw [List.length_take, List.length_drop]
  omega
theorem cut_dps {vs : List V} {ds : List D} (h : Dps K G vs ds) (lo hi : Option Int) : Dps K G (cutV vs lo hi) (cutL ds lo hi) := by
  unfold cutV cutL
  rw [h.len]
  exact (h.drop _).take _
theorem cut_all {α : Type} {xs : List α} {lo hi : Option Int} (h : HT.sIx xs.length 0 lo = 0 ∧ HT.sIx xs.length xs.length hi = xs.length) : cutL xs lo hi = xs := by
  unfold cutL
  rw [h.1, h.2, List.drop_zero, Nat.sub_zero, List.take_length]
end
section
variable {X : Cx} {W : WX}
theorem do_none : PO X none (lO X.K W dNo) := ⟨fun pins s σ H Q I h => (po_none (X := X)).run pins s σ H Q I (by
  obtain ⟨ρ, G, la, P, XX, r, f, q, _⟩ := h
  exact q _ _ _ _ _ f (Aft.refl r))⟩
theorem do_some {e : Expr} {f : DE} (h : PE X e (lE X.K W f)) : PO X (some e) (lO X.K W (dSo f)) := ⟨fun pins s σ H Q I hq => (po_some h).run pins s σ H Q I (by
  obtain ⟨ρ, G, la, P, XX, r, f, q, xo⟩ := hq
  exact ⟨ρ, G, la, _, XX, r, f, fun d ρ1 v G1 la1 H1 p1 a1 z1 => by
    cases d with
    | int i =>
      cases z1
      exact ⟨i, rfl, q _ _ _ _ _ (show P (some i) ρ1 from p1) a1⟩
    | _ => exact (show False from p1).elim, xo⟩)⟩
theorem de_sl {e : Expr} {lo hi : Option Expr} {fe : DE} {fl fh : DO} {p2 pos : Pos} (he : PE X e (lE X.K W fe)) (hl : PO X lo (lO X.K W fl)) (hh : PO X hi (lO X.K W fh)) : PE X (.Subscript e (.Slice lo hi none p2) pos) (lE X.K W (dSl fe fl fh)) :=
  pe_imp (pe_slice (sl_list.or (sl_tupA.or sl_str)) he hl hh) fun σ H Q ⟨ρ, G, la, P, XX, r, h, q, xo⟩ => ⟨ρ, G, la, _, XX, r, h, fun d ρ1 v G1 la1 H1 p1 a1 z1 => ⟨ρ1, G1, la1, _, XX, a1.r, p1, fun l ρ2 G2 la2 H2 p2 a2 => ⟨ρ2, G2, la2, _, XX, a2.r, p2, fun u ρ3 G3 la3 H3 p3 a3 => by
    have a4 := (a1.trans a2).trans a3
    have dz := (z1.up a2.g).up a3.g
    have sm := a3.r.ext
    have p3' : gSl d l u fun z => P z ρ3 := p3
    unfold gSl at p3'
    split at p3'
    · cases dz with
      | tup a lz rr =>
        refine .inr (.inl ⟨_, _, rfl, same_t sm a, fun w => ?_, fun w p hp => ?_⟩)
        · rw [rr.len] at w
          rw [cut_all w] at p3'
          exact q _ _ _ _ _ _ p3' a4 (.tup a lz rr)
        · exact q _ _ _ _ _ _ p3' (a4.grow (Grow.new sm hp)) (.tup (.inl (.inl upd_same)) (Nat.le_trans (cutV_length _ _ _) lz) ((cut_dps rr _ _).up (Grow.new sm hp).g))
    · cases dz with
      | lst a lz rr =>
        refine .inl ⟨_, _, rfl, SqL.of (sm _ _ a), fun p hp => ?_⟩
        exact q _ _ _ _ _ _ p3' (a4.grow (Grow.new sm hp)) (.lst upd_same (Nat.le_trans (cutV_length _ _ _) lz) ((cut_dps rr _ _).up (Grow.new sm hp).g))
    · cases dz
      exact .inr (.inr ⟨_, rfl, p3'.1, q _ _ _ _ _ _ p3'.2 a4 (.str _)⟩)
    · exact p3'.elim, xo.up (a1.trans a2).g (a1.trans a2).p⟩, xo.up a1.g a1.p⟩, xo⟩
end

/-! ### built-ins that are called -/
/-- r on values does what g does on data -/
def COp (K : PySem.W.Frag) (r : List V → Hp → VK → Prop) (g : List D → (D → Prop) → Prop) : Prop := ∀ (G H : Hp) (vs : List V) (ds : List D) (P : D → Prop) (Q : VK), Same G H → Dps K G vs ds → g ds P →
  (∀ z v G' H', P z → Grow G H G' H' → Dp K G' v z → Q v H') → r vs H Q
def dCB (g : List D → (D → Prop) → Prop) (fa : DA) : DE := fun X ρ Q => fa X ρ fun xs ρ' => match dats xs with
  | some ds => g ds fun z => Q z ρ'
  | none => False
section
variable {X : Cx} {W : WX} {e : Expr} {es : List Expr} {x : Str} {p pos : Pos} {r : List V → Hp → VK → Prop} {g : List D → (D → Prop) → Prop} {fa : DA}
theorem cb_core {K : PySem.W.Frag} {r : List V → Hp → VK → Prop} {g : List D → (D → Prop) → Prop} {fa : DA} (hg : COp K r g) : ∀ (σ : L2.St) (H : Hp) (Q : VK), lE K W (dCB g fa) σ H Q → tCB r (lA K W fa) σ H Q := fun σ H Q ⟨ρ, G, la, P, XX, re, h, q, xo⟩ =>
  ⟨ρ, G, la, _, XX, re, h, fun xs ρ1 vs G1 la1 H1 p1 a1 z1 => by
    have p1' : (match dats xs with
      | some ds => g ds fun z => P z ρ1
      | none => False) := p1
    split at p1'
    · rename_i ds hd
      exact hg G1 H1 vs ds _ Q a1.r.ext (dats_of z1 hd) p1' fun z w G' H' pz gr dz => q _ _ _ _ _ _ pz (a1.grow gr) dz
    · exact p1'.elim, xo⟩
theorem de_cb {id : String} (hc : CallR X (.builtin id) r) (hg : COp X.K r g) (hm : X.mg x = none) (hv : bootBuiltins x = some (.builtin id)) (ha : PA X (e :: es) (lA X.K W fa)) (hgl : Gl X x := by rfl) (hn : x ≠ "__name__" := by decide) (hdb : (x == ("__debug__" : Str)) = false := by decide)
    (he : starEach (e :: es) X.env = (false, eval e X.env) :: starEach es X.env := by rfl) (hpl : (backTo pos (starEach es X.env)).any (·.1) = false := by rfl) : PE X (.Call (.Name x p) (e :: es) [] pos) (lE X.K W (dCB g fa)) :=
  pe_imp (pe_callB hc hgl hm hv ha hn hdb he hpl) (cb_core hg)
theorem de_cty {T : String} (hc : CallR X (.type T) r) (hg : COp X.K r g) (hm : X.mg x = none) (hv : bootBuiltins x = some (.type T)) (ha : PA X (e :: es) (lA X.K W fa)) (hgl : Gl X x := by rfl) (hn : x ≠ "__name__" := by decide) (hdb : (x == ("__debug__" : Str)) = false := by decide)
    (he : starEach (e :: es) X.env = (false, eval e X.env) :: starEach es X.env := by rfl) (hpl : (backTo pos (starEach es X.env)).any (·.1) = false := by rfl) : PE X (.Call (.Name x p) (e :: es) [] pos) (lE X.K W (dCB g fa)) :=
  pe_imp (pe_callTy hc hgl hm hv ha hn hdb he hpl) (cb_core hg)
end
/-- len -/
def gLen : List D → (D → Prop) → Prop
  | [.tup xs], P => P (.int xs.length)
  | [.lst xs], P => P (.int xs.length)
  | [.scr ns], P => P (.int ns.length)
  | [.str z], P => z.length ≤ sizeLine ∧ P (.int z.length)
  | _, _ => False
def gAbs : List D → (D → Prop) → Prop
  | [.int i], P => P (.int (if i < 0 then -i else i))
  | _, _ => False
def gInt : List D → (D → Prop) → Prop
  | [.int i], P => P (.int i)
  | [.bl k], P => P (.int (if k then 1 else 0))
  | _, _ => False
def gMax2 : List D → (D → Prop) → Prop
  | [.int i, .int j], P => P (.int (if j > i then j else i))
  | _, _ => False
def gMin2 : List D → (D → Prop) → Prop
  | [.int i, .int j], P => P (.int (if j < i then j else i))
  | _, _ => False
def gTuple : List D → (D → Prop) → Prop
  | [.tup xs], P => P (.tup xs)
  | [.lst xs], P => P (.tup xs)
  | _, _ => False
def gList : List D → (D → Prop) → Prop
  | [.tup xs], P => P (.lst xs)
  | [.lst xs], P => P (.lst xs)
  | _, _ => False
/-- the ints of a list of data -/
def intsOf : List D → Option (List Int)
  | [] => some []
  | .int i :: r => (intsOf r).map (i :: ·)
  | _ :: _ => none
def maxOf : Int → List Int → Int
  | m, [] => m
  | m, x :: r => maxOf (if x > m then x else m) r
def minOf : Int → List Int → Int
  | m, [] => m
  | m, x :: r => minOf (if x < m then x else m) r
def gMax : List D → (D → Prop) → Prop
  | [.lst xs], P => match intsOf xs with
    | some (n :: ns) => P (.int (maxOf n ns))
    | _ => False
  | _, _ => False
def gMin : List D → (D → Prop) → Prop
  | [.lst xs], P => match intsOf xs with
    | some (n :: ns) => P (.int (minOf n ns))
    | _ => False
  | _, _ => False
/-- isinstance -/
def tyD : D → Option String
  | .non => some "NoneType"
  | .bl _ => some "bool"
  | .int _ => some "int"
  | .str _ => some "str"
  | .tup _ => some "tuple"
  | .lst _ => some "list"
  | _ => none
def isiD (t : String) (n : String) : Bool := t == n || (t == "bool" && n == "int")
def gIsi : List D → (D → Prop) → Prop
  | [d, .raw (.ty n)], P => match tyD d with
    | some t => (n = "int" ∨ n = "bool" ∨ n = "str" ∨ n = "tuple" ∨ n = "list") ∧ P (.bl (isiD t n))
    | none => False
  | _, _ => False
section
variable {K : PySem.W.Frag} {G H : Hp}
theorem intsOf_of : ∀ {vs : List V} {ds : List D} {ns : List Int}, Dps K G vs ds → intsOf ds = some ns → vs = ns.map V.int
  | _, _, _, .nil, h => by
    have e := Option.some.inj h
    subst e
    rfl
  | _, .int i :: r, _, .cons a s, h => by
    have h' : (intsOf r).map (i :: ·) = some _ := h
    obtain ⟨t, ht, e⟩ := Option.map_eq_some_iff.mp h'
    subst e
    cases a
    rw [intsOf_of s ht]
    rfl
  | _, .non :: _, _, .cons _ _, h => by cases h
  | _, .bl _ :: _, _, .cons _ _, h => by cases h
  | _, .str _ :: _, _, .cons _ _, h => by cases h
  | _, .raw _ :: _, _, .cons _ _, h => by cases h
  | _, .tup _ :: _, _, .cons _ _, h => by cases h
  | _, .lst _ :: _, _, .cons _ _, h => by cases h
  | _, .scr _ :: _, _, .cons _ _, h => by cases h
  | _, .fn _ :: _, _, .cons _ _, h => by cases h
  | _, .err _ _ :: _, _, .cons _ _, h => by cases h
theorem maxOf_ge : ∀ (ns : List Int) (m : Int), m ≤ maxOf m ns ∧ (∀ y ∈ ns, y ≤ maxOf m ns) ∧ (maxOf m ns = m ∨ maxOf m ns ∈ ns)
  | [], m => ⟨Int.le_refl _, fun _ h => by simp at h, .inl rfl⟩
  | x :: r, m => by
    obtain ⟨a, b, c⟩ := maxOf_ge r (if x > m then x else m)
    unfold maxOf
    have hx : x ≤ (if x > m then x else m) ∧ m ≤ (if x > m then x else m) := by split <;> omega
    refine ⟨Int.le_trans hx.2 a, fun y hy => ?_, ?_⟩
    · rcases List.mem_cons.mp hy with e | hy
      · rw [e]
        exact Int.le_trans hx.1 a
      · exact b y hy
    · rcases c with c | c
      · by_cases q : x > m
        · rw [if_pos q] at c
          rw [if_pos q, c]
          exact .inr List.mem_cons_self
        · rw [if_neg q] at c
          rw [if_neg q, c]
          exact .inl rfl
      · exact .inr (List.mem_cons_of_mem _ c)
theorem minOf_le : ∀ (ns : List Int) (m : Int), minOf m ns ≤ m ∧ (∀ y ∈ ns, minOf m ns ≤ y) ∧ (minOf m ns = m ∨ minOf m ns ∈ ns)
  | [], m => ⟨Int.le_refl _, fun _ h => by simp at h, .inl rfl⟩
  | x :: r, m => by
    obtain ⟨a, b, c⟩ := minOf_le r (if x < m then x else m)
    unfold minOf
    have hx : (if x < m then x else m) ≤ x ∧ (if x < m then x else m) ≤ m := by split <;> omega
    refine ⟨Int.le_trans a hx.2, fun y hy => ?_, ?_⟩
    · rcases List.mem_cons.mp hy with e | hy
      · rw [e]
        exact Int.le_trans a hx.1
      · exact b y hy
    · rcases c with c | c
      · by_cases q : x < m
        · rw [if_pos q] at c
          rw [if_pos q, c]
          exact .inr List.mem_cons_self
        · rw [if_neg q] at c
          rw [if_neg q, c]
          exact .inl rfl
      · exact .inr (List.mem_cons_of_mem _ c)
theorem one_of {vs : List V} {d : D} (h : Dps K G vs [d]) : ∃ v, vs = [v] ∧ Dp K G v d := by
  cases h with
  | cons a r =>
    cases r
    exact ⟨_, rfl, a⟩
theorem two_of {vs : List V} {d e : D} (h : Dps K G vs [d, e]) : ∃ v u, vs = [v, u] ∧ Dp K G v d ∧ Dp K G u e := by
  cases h with
  | cons a r =>
    obtain ⟨u, rfl, b⟩ := one_of r
    exact ⟨_, _, rfl, a, b⟩
theorem c_len : COp K (fun xs H Q => ∃ x n, xs = [x] ∧ LenV K x H n ∧ Q (.int n) H) gLen := by
  intro G H vs ds P Q sm h gp k
  unfold gLen at gp
  split at gp
  · obtain ⟨v, rfl, a⟩ := one_of h
    cases a with
    | tup a l r =>
      rw [← r.len] at gp
      exact ⟨_, _, rfl, .inr ⟨_, same_t sm a, rfl⟩, k _ _ _ _ gp (Grow.refl sm) (.int _)⟩
  · obtain ⟨v, rfl, a⟩ := one_of h
    cases a with
    | lst a l r =>
      rw [← r.len] at gp
      exact ⟨_, _, rfl, .inl ⟨_, SqL.of (sm _ _ a), rfl⟩, k _ _ _ _ gp (Grow.refl sm) (.int _)⟩
  · obtain ⟨v, rfl, a⟩ := one_of h
    cases a with
    | scr a =>
      refine ⟨_, _, rfl, .inl ⟨_, sm.seq a, rfl⟩, ?_⟩
      rw [List.length_map]
      exact k _ _ _ _ gp (Grow.refl sm) (.int _)
  · obtain ⟨v, rfl, a⟩ := one_of h
    cases a
    exact ⟨_, _, rfl, ⟨gp.1, rfl⟩, k _ _ _ _ gp.2 (Grow.refl sm) (.int _)⟩
  · exact gp.elim
theorem c_abs : COp K (fun xs H Q => ∃ i, xs = [.int i] ∧ Q (.int (if i < 0 then -i else i)) H) gAbs := by
  intro G H vs ds P Q sm h gp k
  unfold gAbs at gp
  split at gp
  · obtain ⟨v, rfl, a⟩ := one_of h
    cases a
    exact ⟨_, rfl, k _ _ _ _ gp (Grow.refl sm) (.int _)⟩
  · exact gp.elim
theorem c_int : COp K (fun xs H Q => (∃ i, xs = [.int i] ∧ Q (.int i) H) ∨ ∃ k, xs = [.bl k] ∧ Q (.int (if k then 1 else 0)) H) gInt := by
  intro G H vs ds P Q sm h gp k
  unfold gInt at gp
  split at gp
  · obtain ⟨v, rfl, a⟩ := one_of h
    cases a
    exact .inl ⟨_, rfl, k _ _ _ _ gp (Grow.refl sm) (.int _)⟩
  · obtain ⟨v, rfl, a⟩ := one_of h
    cases a
    exact .inr ⟨_, rfl, k _ _ _ _ gp (Grow.refl sm) (.int _)⟩
  · exact gp.elim
theorem c_max2 : COp K (fun xs H Q => ∃ i j, xs = [.int i, .int j] ∧ Q (.int (if j > i then j else i)) H) gMax2 := by
  intro G H vs ds P Q sm h gp k
  unfold gMax2 at gp
  split at gp
  · obtain ⟨v, u, rfl, a, b⟩ := two_of h
    cases a
    cases b
    exact ⟨_, _, rfl, k _ _ _ _ gp (Grow.refl sm) (.int _)⟩
  · exact gp.elim
theorem c_min2 : COp K (fun xs H Q => ∃ i j, xs = [.int i, .int j] ∧ Q (.int (if j < i then j else i)) H) gMin2 := by
  intro G H vs ds P Q sm h gp k
  unfold gMin2 at gp
  split at gp
  · obtain ⟨v, u, rfl, a, b⟩ := two_of h
    cases a
    cases b
    exact ⟨_, _, rfl, k _ _ _ _ gp (Grow.refl sm) (.int _)⟩
  · exact gp.elim
theorem c_tuple : COp K (fun xs H Q => ∃ p ys, xs = [.ref p] ∧ ((SqL K H p ys ∧ ∀ l, H l = none → Q (.ref l) (upd H l (.tup ys))) ∨ (SqT K H p ys ∧ Q (.ref p) H))) gTuple := by
  intro G H vs ds P Q sm h gp k
  unfold gTuple at gp
  split at gp
  · obtain ⟨v, rfl, a⟩ := one_of h
    cases a with
    | tup a l r => exact ⟨_, _, rfl, .inr ⟨same_t sm a, k _ _ _ _ gp (Grow.refl sm) (.tup a l r)⟩⟩
  · obtain ⟨v, rfl, a⟩ := one_of h
    cases a with
    | lst a l r =>
      refine ⟨_, _, rfl, .inl ⟨SqL.of (sm _ _ a), fun p hp => ?_⟩⟩
      exact k _ _ _ _ gp (Grow.new sm hp) (.tup (.inl (.inl upd_same)) l (r.up (Grow.new sm hp).g))
  · exact gp.elim
theorem c_list : COp K (fun xs H Q => ∃ p ys, xs = [.ref p] ∧ (SqL K H p ys ∨ SqT K H p ys) ∧ ∀ l, H l = none → Q (.ref l) (upd H l (.lst ys))) gList := by
  intro G H vs ds P Q sm h gp k
  unfold gList at gp
  split at gp
  · obtain ⟨v, rfl, a⟩ := one_of h
    cases a with
    | tup a l r =>
      refine ⟨_, _, rfl, .inr (same_t sm a), fun p hp => ?_⟩
      exact k _ _ _ _ gp (Grow.new sm hp) (.lst upd_same l (r.up (Grow.new sm hp).g))
  · obtain ⟨v, rfl, a⟩ := one_of h
    cases a with
    | lst a l r =>
      refine ⟨_, _, rfl, .inl (SqL.of (sm _ _ a)), fun p hp => ?_⟩
      exact k _ _ _ _ gp (Grow.new sm hp) (.lst upd_same l (r.up (Grow.new sm hp).g))
  · exact gp.elim
theorem c_max : COp K (rMax K) gMax := by
  intro G H vs ds P Q sm h gp k
  unfold gMax at gp
  split at gp
  · obtain ⟨v, rfl, a⟩ := one_of h
    split at gp
    · rename_i n ns hn
      cases a with
      | lst a l r =>
        have e := intsOf_of r hn
        subst e
        refine ⟨_, n :: ns, rfl, SqL.of (sm _ _ a), Nat.succ_pos _, fun m hm hle => ?_⟩
        obtain ⟨c1, c2, c3⟩ := maxOf_ge ns n
        have em : m = maxOf n ns := by
          have h1 : maxOf n ns ≤ m := by
            rcases c3 with c3 | c3
            · rw [c3]
              exact hle n List.mem_cons_self
            · exact hle _ (List.mem_cons_of_mem _ c3)
          have h2 : m ≤ maxOf n ns := by
            rcases List.mem_cons.mp hm with e | hm
            · rw [e]
              exact c1
            · exact c2 m hm
          omega
        rw [em]
        exact k _ _ _ _ gp (Grow.refl sm) (.int _)
    · exact gp.elim
  · exact gp.elim
theorem c_min : COp K (rMin K) gMin := by
  intro G H vs ds P Q sm h gp k
  unfold gMin at gp
  split at gp
  · obtain ⟨v, rfl, a⟩ := one_of h
    split at gp
    · rename_i n ns hn
      cases a with
      | lst a l r =>
        have e := intsOf_of r hn
        subst e
        refine ⟨_, n :: ns, rfl, SqL.of (sm _ _ a), Nat.succ_pos _, fun m hm hle => ?_⟩
        obtain ⟨c1, c2, c3⟩ := minOf_le ns n
        have em : m = minOf n ns := by
          have h1 : m ≤ minOf n ns := by
            rcases c3 with c3 | c3
            · rw [c3]
              exact hle n List.mem_cons_self
            · exact hle _ (List.mem_cons_of_mem _ c3)
          have h2 : minOf n ns ≤ m := by
            rcases List.mem_cons.mp hm with e | hm
            · rw [e]
              exact c1
            · exact c2 m hm
          omega
        rw [em]
        exact k _ _ _ _ gp (Grow.refl sm) (.int _)
    · exact gp.elim
  · exact gp.elim
theorem tyx_t {H : Hp} {p : Addr} {vs : List V} (h : SqT K H p vs) : TyX K H (.ref p) (.type "tuple") := by
  rcases h with (h | ⟨o, h⟩) | ⟨o, its, n, hk, hc, _⟩
  · exact .base (.tup h)
  · exact .fTuple h
  · exact .kTuple hk hc
theorem kit_isi {K : PySem.W.Frag} : ∀ {t n : String}, (t = "NoneType" ∨ t = "bool" ∨ t = "int" ∨ t = "str" ∨ t = "tuple" ∨ t = "list") → (n = "int" ∨ n = "bool" ∨ n = "str" ∨ n = "tuple" ∨ n = "list") → PySem.W.kitOne K (.type t) (.type n) = some (isiD t n) := by
  intro t n ht hn
  rcases ht with rfl | rfl | rfl | rfl | rfl | rfl <;> rcases hn with rfl | rfl | rfl | rfl | rfl <;> exact kit_ty (by decide +kernel)
theorem c_isi : COp K (rIsi K) gIsi := by
  intro G H vs ds P Q sm h gp k
  unfold gIsi at gp
  split at gp
  · rename_i d n
    obtain ⟨v, u, rfl, a, b⟩ := two_of h
    split at gp
    · rename_i t ht
      cases b
      have key : TyX K H v (.type t) ∧ (t = "NoneType" ∨ t = "bool" ∨ t = "int" ∨ t = "str" ∨ t = "tuple" ∨ t = "list") := by
        cases a with
        | non => have e := Option.some.inj ht; subst e; exact ⟨.base .non, by simp⟩
        | bl b => have e := Option.some.inj ht; subst e; exact ⟨.base (.bl b), by simp⟩
        | int i => have e := Option.some.inj ht; subst e; exact ⟨.base (.int i), by simp⟩
        | str z => have e := Option.some.inj ht; subst e; exact ⟨.base (.str z), by simp⟩
        | tup a l r => have e := Option.some.inj ht; subst e; exact ⟨tyx_t (same_t sm a), by simp⟩
        | lst a l r => have e := Option.some.inj ht; subst e; exact ⟨.base (.lst (sm _ _ a)), by simp⟩
        | raw _ => cases ht
        | scr _ => cases ht
        | fn _ => cases ht
        | err _ _ => cases ht
        | erf _ _ _ => cases ht
      exact ⟨v, .ty n, .type t, .type n, isiD t n, rfl, .ty n, key.1, kit_isi key.2 gp.1, k _ _ _ _ gp.2 (Grow.refl sm) (.bl _)⟩
    · exact gp.elim
  · exact gp.elim
end
section
variable {X : Cx} {W : WX} {e e2 : Expr} {p pos : Pos} {fa : DA}
theorem de_len (hm : X.mg "len" = none) (ha : PA X [e] (lA X.K W fa)) (hgl : Gl X "len" := by rfl) (he : starEach [e] X.env = (false, eval e X.env) :: starEach [] X.env := by rfl) : PE X (.Call (.Name "len" p) [e] [] pos) (lE X.K W (dCB gLen fa)) :=
  de_cb call_len c_len hm PySem.boot_len ha hgl (by decide) (by decide) he rfl
theorem de_ty {x : Str} {n : String} {pos : Pos} (hm : X.mg x = none) (hv : bootBuiltins x = some (.type n)) (hg : Gl X x := by rfl) (hn : x ≠ "__name__" := by decide) (hd : (x == ("__debug__" : Str)) = false := by decide) : PE X (.Name x pos) (lE X.K W (dC (.raw (.ty n)))) :=
  de_c (pe_bltn (v := .ty n) hg hm hv rfl hn hd) fun _ _ => .raw _
end
end DL
set_option Elab.async false
set_option linter.all false
set_option maxRecDepth 100000
set_option maxHeartbeats 4000000
set_option autoImplicit false
/-! The data level: targets, what is walked, comprehensions, statements, calls of defs. -/
namespace DL
open PySem PySem.Spec PyProof.Rows L2

/-! ### targets -/
/-- the slots agree but at is_ -/
def Eqw (is_ : List Nat) (σ σ' : L2.St) : Prop := σ.length = σ'.length ∧ ∀ j : Nat, j ∉ is_ → σ[j]? = σ'[j]?
theorem Eqw.refl (is_ : List Nat) (σ : L2.St) : Eqw is_ σ σ := ⟨rfl, fun _ _ => rfl⟩
theorem Eqw.trans {is_ js : List Nat} {σ σ1 σ2 : L2.St} (a : Eqw is_ σ σ1) (b : Eqw js σ1 σ2) : Eqw (is_ ++ js) σ σ2 :=
  ⟨a.1.trans b.1, fun j hj => (a.2 j fun z => hj (List.mem_append_left _ z)).trans (b.2 j fun z => hj (List.mem_append_right _ z))⟩
theorem wipe_get (σ : L2.St) : ∀ (vs : List Nat) (j : Nat), (wipe σ vs)[j]? = if j ∈ vs ∧ j < σ.length then some none else σ[j]?
  | [], j => by simp [wipe]
  | v :: vs, j => by
    unfold wipe
    rw [List.getElem?_set]
    have ih := wipe_get σ vs j
    by_cases h : v = j
    · subst h
      rw [wipe_length]
      by_cases hl : v < σ.length
      · simp [hl]
      · simp [hl]
    · rw [if_neg h, ih]
      by_cases hm : j ∈ vs ∧ j < σ.length
      · rw [if_pos hm, if_pos ⟨List.mem_cons_of_mem _ hm.1, hm.2⟩]
      · rw [if_neg hm, if_neg]
        rintro ⟨h1, h2⟩
        rcases List.mem_cons.mp h1 with e | h1
        · exact h e.symm
        · exact hm ⟨h1, h2⟩
theorem Eqw.wipe {is_ vs : List Nat} {σ σ' : L2.St} (a : Eqw is_ σ σ') (h : ∀ i ∈ is_, i ∈ vs) : L2.wipe σ' vs = L2.wipe σ vs := by
  apply List.ext_getElem?
  intro j
  rw [wipe_get, wipe_get, ← a.1]
  by_cases hm : j ∈ vs ∧ j < σ.length
  · rw [if_pos hm, if_pos hm]
  · rw [if_neg hm, if_neg hm]
    by_cases hj : j ∈ is_
    · have h1 : ¬ j < σ.length := fun z => hm ⟨h j hj, z⟩
      have h2 := a.1
      rw [List.getElem?_eq_none (by omega), List.getElem?_eq_none (by omega)]
    · exact (a.2 j hj).symm
theorem wipe_wipe {σ σ' : L2.St} {vs : List Nat} (h : L2.wipe σ' vs = L2.wipe (L2.wipe σ vs) vs) : L2.wipe σ' vs = L2.wipe σ vs := by
  rw [h]
  apply List.ext_getElem?
  intro j
  rw [wipe_get, wipe_get, wipe_length]
  by_cases hm : j ∈ vs ∧ j < σ.length
  · rw [if_pos hm, if_pos hm]
  · rw [if_neg hm, if_neg hm]

def lG (K : PySem.W.Frag) (is_ : List Nat) (g : DG) : TG := fun v σ H Q => ∃ ρ G la d P, Re K G H la σ ρ ∧ Dp K G v d ∧ g d ρ P ∧ ∀ ρ' σ', P ρ' → Re K G H la σ' ρ' → Eqw is_ σ σ' → Q σ' H
abbrev DGs := List D → Env → (Env → Prop) → Prop
def lGs (K : PySem.W.Frag) (is_ : List Nat) (g : DGs) : TGs := fun vs σ H Q => ∃ ρ G la ds P, Re K G H la σ ρ ∧ Dps K G vs ds ∧ g ds ρ P ∧ ∀ ρ' σ', P ρ' → Re K G H la σ' ρ' → Eqw is_ σ σ' → Q σ' H
def gNm (i : Nat) : DG := fun d ρ Q => Q ⟨ρ.T, ρ.s.set i (some (.dat d))⟩
def gNl : DGs := fun ds ρ Q => match ds with
  | [] => Q ρ
  | _ => False
def gCs (t : DG) (u : DGs) : DGs := fun ds ρ Q => match ds with
  | d :: r => t d ρ fun ρ' => u r ρ' Q
  | _ => False
/-- (a, b, ..) = a tuple of so many -/
def gTp (n : Nat) (u : DGs) : DG := fun d ρ Q => match d with
  | .tup ds => ds.length = n ∧ u ds ρ Q
  | _ => False
theorem pg_imp {X : Cx} {e : Expr} {t t' : TG} (h : PG X e t) (w : ∀ v σ H Q, t' v σ H Q → t v σ H Q) : PG X e t' := ⟨fun pins s σ H v u Q I r q => h.run pins s σ H v u Q I r (w v σ H Q q)⟩
theorem pgs_imp {X : Cx} {es : List Expr} {t t' : TGs} (h : PGs X es t) (w : ∀ v σ H Q, t' v σ H Q → t v σ H Q) : PGs X es t' := ⟨fun pins s σ H v u Q I r q => h.run pins s σ H v u Q I r (w v σ H Q q)⟩
section
variable {X : Cx}
theorem dg_name (i : Nat) {x : Str} {pos : Pos} (hN : X.N.Nodup) (hi : X.N[i]? = some x := by rfl) (hx : Loc X.env.scope x := by first | exact Or.inl rfl | exact Or.inr rfl) (hf : X.fn x = true ∨ X.env.scope.names.lookup x = some .local := by first | exact .inl rfl | exact .inr rfl | assumption) :
    PG X (.Name x pos) (lG X.K [i] (gNm i)) := pg_imp (pg_name (i := i) hN hi hx hf) fun v σ H Q ⟨ρ, G, la, d, P, r, dp, g, q⟩ => q _ _ g (r.set (x := .dat d) dp) ⟨by simp, fun j hj => by
      have hj' : j ≠ i := by simpa using hj
      rw [List.getElem?_set_ne (Ne.symm hj')]⟩
theorem dgs_nil : PGs X [] (lGs X.K [] gNl) := pgs_imp pgs_nil fun v σ H Q ⟨ρ, G, la, ds, P, r, dp, g, q⟩ => by
  cases dp with
  | nil => exact ⟨rfl, q _ _ (show P ρ from g) r (Eqw.refl _ _)⟩
  | cons _ _ => exact (show False from g).elim
theorem dgs_cons {e : Expr} {es : List Expr} {t : DG} {u : DGs} {is_ js : List Nat} (h1 : PG X e (lG X.K is_ t)) (h2 : PGs X es (lGs X.K js u)) (hs : (assignEach (e :: es) X.env).map (·.2) = assign e X.env :: (assignEach es X.env).map (·.2) := by rfl) :
    PGs X (e :: es) (lGs X.K (is_ ++ js) (gCs t u)) := pgs_imp (pgs_cons h1 h2 hs) fun v σ H Q ⟨ρ, G, la, ds, P, r, dp, g, q⟩ => by
  cases dp with
  | nil => exact (show False from g).elim
  | cons a b =>
    refine ⟨_, _, rfl, ρ, G, la, _, _, r, a, g, fun ρ1 σ1 p1 r1 w1 => ⟨ρ1, G, la, _, P, r1, b, p1, fun ρ2 σ2 p2 r2 w2 => q ρ2 σ2 p2 r2 (w1.trans w2)⟩⟩
theorem dg_tup {es : List Expr} {k : Nat} {u : DGs} {n : Nat} {is_ : List Nat} {pos : Pos} (hc : X.calm = true) (h : PGs X es (lGs X.K is_ u)) (hn : (assignEach es X.env).length = n := by rfl) (hst : (assignEach es X.env).findIdx? (·.1) = none := by rfl) :
    PG X (.Tuple es k pos) (lG X.K is_ (gTp n u)) := pg_imp (pg_tup hc h hn hst) fun v σ H Q ⟨ρ, G, la, d, P, r, dp, g, q⟩ => by
  cases dp with
  | tup a l b =>
    have g' : _ ∧ u _ ρ P := g
    exact ⟨_, _, rfl, same_t r.ext a, by rw [b.len]; exact g'.1, ρ, G, la, _, P, r, b, g'.2, q⟩
  | _ => exact (show False from g).elim
end

/-! ### what is walked -/
/-- J gives the data ds, one a turn -/
structure WalkD (K : PySem.W.Frag) (J : It) (G : Hp) (ds : List D) : Prop where
  goes : ∀ (i : Nat) (H : Hp), i < ds.length → Same G H → J.go i H
  stops : ∀ H, Same G H → J.stop ds.length H
  yields : ∀ (i : Nat) (G' H : Hp) (x : V) (H' : Hp), Same G G' → Same G' H → J.yld i H x H' → ∀ d, ds[i]? = some d → ∃ G1, Grow G' H G1 H' ∧ Dp K G1 x d
def lI (K : PySem.W.Frag) (W : WX) (f : DI) : TI := fun σ H R => ∃ ρ G la P X, Re K G H la σ ρ ∧ f X ρ P ∧ (∀ ds ρ' G' la' H' J, P ds ρ' → Aft K G la σ ρ' G' la' H' → WalkD K J G' ds → ds.length ≤ 2 ^ 62 → R J H') ∧ XO K G la W X
theorem pi_imp {X : Cx} {tg e : Expr} {t t' : TI} (h : PI X tg e t) (w : ∀ σ H R, t' σ H R → t σ H R) : PI X tg e t' := ⟨fun pins s σ H R I q => h.run pins s σ H R I (w σ H R q)⟩
/-- a list or a tuple -/
def iSeq (K : PySem.W.Frag) (tl : TE) : TI := fun σ H R => tl σ H fun x H1 => ∃ a xs, x = .ref a ∧ ((SqL K H1 a xs ∧ R (Itl K a) H1) ∨ (SqT K H1 a xs ∧ R (Itt K a) H1))
theorem pi_seq {X : Cx} {tg l : Expr} {tl : TE} (hl : PE X l tl) : PI X tg l (iSeq X.K tl) := by
  constructor
  intro pins s σ H R I h
  refine thn (hl.run pins s σ H _ I h) ?_
  rintro v s1 ⟨x, H1, I1, r1, a, xs, rfl, q⟩
  cases r1
  have fp : ∀ b ∈ [s1.heap.objs.size], FpOk X pins H1 b := fun b hb => by
    obtain rfl : b = s1.heap.objs.size := by simpa using hb
    exact I1.fpOk (Nat.le_refl _) (I1.hok.fresh (Nat.le_refl _))
  rcases q with ⟨hq, q⟩ | ⟨hq, q⟩
  · obtain ⟨its, rv, p, hz⟩ := I1.list hq
    exact wpAny_pyIter_list p.isList ⟨_, [s1.heap.objs.size], _, _, H1, rfl, I1.kept (t' := s1.toks) fun b o e => Heap.get?_push_of_some _ e, turn_list a _, ⟨_, Heap.get?_push_size _ rfl, rfl, rfl⟩, fp, q⟩
  · obtain ⟨its, rv, p, hz⟩ := I1.tuple hq
    exact wpAny_pyIter_tuple (show s1.heap.IsTuple a its.toArray from p) ⟨_, [s1.heap.objs.size], _, _, H1, rfl, I1.kept (t' := s1.toks) fun b o e => Heap.get?_push_of_some _ e, turn_tuple a _, ⟨_, Heap.get?_push_size _ rfl, rfl, rfl⟩, fp, q⟩
def dSeq (f : DE) : DI := fun X ρ Q => f X ρ fun d ρ' => match d with
  | .tup ds => Q ds ρ'
  | .lst ds => Q ds ρ'
  | _ => False
theorem line62 : sizeLine ≤ 2 ^ 62 := by rw [sizeLine_eq]; decide
section
variable {K : PySem.W.Frag} {G H : Hp}
theorem walkD_l {p : Addr} {vs : List V} {ds : List D} (h : G p = some (.lst vs)) (d : Dps K G vs ds) : WalkD K (Itl K p) G ds := by
  refine ⟨fun i H hi e => ⟨vs, vs[i]'(by rw [d.len]; exact hi), SqL.of (e _ _ h), by simp [d.len, hi]⟩, fun H e => ⟨vs, SqL.of (e _ _ h), by rw [d.len]; exact Nat.le_refl _⟩, fun i G' H x H' e e' y z hz => ?_⟩
  obtain ⟨rfl, y⟩ := y
  have hx := y vs (SqL.of (e' _ _ (e _ _ h)))
  obtain ⟨d', hd, dd⟩ := d.getV hx
  rw [hz] at hd
  have q := Option.some.inj hd
  subst q
  exact ⟨G', Grow.refl e', dd.up e⟩
theorem walkD_t {p : Addr} {vs : List V} {ds : List D} (h : SqT K G p vs) (d : Dps K G vs ds) : WalkD K (Itt K p) G ds := by
  refine ⟨fun i H hi e => ⟨vs, vs[i]'(by rw [d.len]; exact hi), same_t e h, by simp [d.len, hi]⟩, fun H e => ⟨vs, same_t e h, by rw [d.len]; exact Nat.le_refl _⟩, fun i G' H x H' e e' y z hz => ?_⟩
  obtain ⟨rfl, y⟩ := y
  have hx := y vs (same_t (e.trans e') h)
  obtain ⟨d', hd, dd⟩ := d.getV hx
  rw [hz] at hd
  have q := Option.some.inj hd
  subst q
  exact ⟨G', Grow.refl e', dd.up e⟩
end
section
variable {X : Cx} {W : WX} {tg : Expr}
theorem di_seq {e : Expr} {f : DE} (h : PE X e (lE X.K W f)) : PI X tg e (lI X.K W (dSeq f)) :=
  pi_imp (pi_seq h) fun σ H R ⟨ρ, G, la, P, XX, r, h, q, xo⟩ => ⟨ρ, G, la, _, XX, r, h, fun d ρ1 v G1 la1 H1 p1 a1 z1 => by
    cases z1 with
    | tup a l b => exact ⟨_, _, rfl, .inr ⟨same_t a1.r.ext a, q _ _ _ _ _ _ (show P _ ρ1 from p1) a1 (walkD_t a b) (by rw [← b.len]; exact Nat.le_trans l line62)⟩⟩
    | lst a l b => exact ⟨_, _, rfl, .inl ⟨SqL.of (a1.r.ext _ _ a), q _ _ _ _ _ _ (show P _ ρ1 from p1) a1 (walkD_l a b) (by rw [← b.len]; exact Nat.le_trans l line62)⟩⟩
    | _ => exact (show False from p1).elim, xo⟩
/-- the ints from lo to hi - 1 -/
def rangeD (lo hi : Int) : List D := (List.range (hi - lo).toNat).map fun (k : Nat) => .int (lo + k)
theorem rangeD_len (lo hi : Int) : (rangeD lo hi).length = (hi - lo).toNat := by simp [rangeD]
theorem walkD_r {K : PySem.W.Frag} {G : Hp} (lo : Int) (n : Nat) : WalkD K (Itr lo n) G ((List.range n).map fun (k : Nat) => .int (lo + k)) := by
  refine ⟨fun i H hi _ => by show i < n; simpa using hi, fun H _ => by show n ≤ _; simp, fun i G' H x H' e e' y z hz => ?_⟩
  obtain ⟨rfl, rfl⟩ := y
  rw [List.getElem?_map] at hz
  cases q : (List.range n)[i]? with
  | none =>
    rw [q] at hz
    cases hz
  | some j =>
    rw [q] at hz
    have e1 : i = j := by
      have := List.getElem?_range (n := n) (i := i) (by
        obtain ⟨h1, _⟩ := List.getElem?_eq_some_iff.mp q
        simpa using h1)
      rw [q] at this
      exact (Option.some.inj this).symm
    subst e1
    have e2 : D.int (lo + i) = z := Option.some.inj hz
    subst e2
    exact ⟨G', Grow.refl e', .int _⟩
def dRng1 (fa : DA) : DI := fun X ρ Q => fa X ρ fun ss ρ' => match ss with
  | [.dat (.int j)] => (-(2 ^ 62) ≤ j ∧ j < 2 ^ 62) ∧ Q (rangeD 0 j) ρ'
  | _ => False
def dRng2 (fa : DA) : DI := fun X ρ Q => fa X ρ fun ss ρ' => match ss with
  | [.dat (.int i), .dat (.int j)] => (-(2 ^ 61) ≤ i ∧ i < 2 ^ 61 ∧ -(2 ^ 61) ≤ j ∧ j < 2 ^ 61) ∧ Q (rangeD i j) ρ'
  | _ => False
theorem di_range1 {a : Expr} {fa : DA} {p pos : Pos} (hm : X.mg "range" = none) (ha : PA X [a] (lA X.K W fa)) (hg : Gl X "range" := by rfl) (hs : starEach [a] X.env = [(false, eval a X.env)] := by rfl) : PI X tg (.Call (.Name "range" p) [a] [] pos) (lI X.K W (dRng1 fa)) :=
  pi_imp (pi_range1 hg hm ha hs) fun σ H R ⟨ρ, G, la, P, XX, r, h, q, xo⟩ => ⟨ρ, G, la, _, XX, r, h, fun xs ρ1 vs G1 la1 H1 p1 a1 z1 => by
    have p1' : (match (generalizing := false) xs with
      | [.dat (.int j)] => (-(2 ^ 62) ≤ j ∧ j < 2 ^ 62) ∧ P (rangeD 0 j) ρ1
      | _ => False) := p1
    split at p1'
    · rename_i j
      cases z1 with
      | cons a b =>
        cases b
        cases (show Dp _ _ _ (.int j) from a)
        refine ⟨j, rfl, p1'.1.1, p1'.1.2, q _ _ _ _ _ _ p1'.2 a1 ?_ (by rw [rangeD_len]; omega)⟩
        unfold rangeD
        rw [Int.sub_zero]
        exact walkD_r 0 j.toNat
    · exact p1'.elim, xo⟩
theorem di_range2 {a b : Expr} {fa : DA} {p pos : Pos} (hm : X.mg "range" = none) (ha : PA X [a, b] (lA X.K W fa)) (hg : Gl X "range" := by rfl) (hs : starEach [a, b] X.env = [(false, eval a X.env), (false, eval b X.env)] := by rfl) (hs2 : starEach [b] X.env = [(false, eval b X.env)] := by rfl) :
    PI X tg (.Call (.Name "range" p) [a, b] [] pos) (lI X.K W (dRng2 fa)) :=
  pi_imp (pi_range2 hg hm ha hs hs2) fun σ H R ⟨ρ, G, la, P, XX, r, h, q, xo⟩ => ⟨ρ, G, la, _, XX, r, h, fun xs ρ1 vs G1 la1 H1 p1 a1 z1 => by
    have p1' : (match (generalizing := false) xs with
      | [.dat (.int i), .dat (.int j)] => (-(2 ^ 61) ≤ i ∧ i < 2 ^ 61 ∧ -(2 ^ 61) ≤ j ∧ j < 2 ^ 61) ∧ P (rangeD i j) ρ1
      | _ => False) := p1
    split at p1'
    · rename_i i j
      cases z1 with
      | cons a b =>
        cases b with
        | cons b c =>
          cases c
          cases (show Dp _ _ _ (.int i) from a)
          cases (show Dp _ _ _ (.int j) from b)
          obtain ⟨⟨b1, b2, b3, b4⟩, p2⟩ := p1'
          refine ⟨i, j, rfl, ⟨by omega, by omega, by omega, by omega⟩, q _ _ _ _ _ _ p2 a1 (walkD_r i (j - i).toNat) (by rw [rangeD_len]; omega)⟩
    · exact p1'.elim, xo⟩
/-- zip of two lists, of two tuples -/
def zipD : List D → List D → List D
  | x :: xs, y :: ys => .tup [x, y] :: zipD xs ys
  | _, _ => []
theorem zipD_len : ∀ xs ys : List D, (zipD xs ys).length = min xs.length ys.length
  | [], _ => by simp [zipD]
  | _ :: _, [] => by simp [zipD]
  | _ :: xs, _ :: ys => by
    simp only [zipD, List.length_cons, zipD_len xs ys]
    omega
theorem zipD_get : ∀ (xs ys : List D) (i : Nat) (d : D), (zipD xs ys)[i]? = some d → ∃ x y, xs[i]? = some x ∧ ys[i]? = some y ∧ d = .tup [x, y]
  | [], _, i, d, h => by simp [zipD] at h
  | _ :: _, [], i, d, h => by simp [zipD] at h
  | x :: xs, y :: ys, 0, d, h => ⟨x, y, rfl, rfl, (Option.some.inj h).symm⟩
  | _ :: xs, _ :: ys, i + 1, d, h => zipD_get xs ys i d h
def dZip (fa : DA) : DI := fun X ρ Q => fa X ρ fun ss ρ' => match ss with
  | [.dat (.tup a), .dat (.tup b)] => Q (zipD a b) ρ'
  | [.dat (.lst a), .dat (.lst b)] => Q (zipD a b) ρ'
  | _ => False
theorem pair_dp {K : PySem.W.Frag} {G H : Hp} {T : Addr} {x y : V} {d e : D} (sm : Same G H) (hT : H T = none) (a : Dp K G x d) (b : Dp K G y e) : ∃ G1, Grow G H G1 (upd H T (.tup [x, y])) ∧ Dp K G1 (.ref T) (.tup [d, e]) :=
  ⟨_, Grow.new sm hT, .tup (.inl (.inl upd_same)) (by show 2 ≤ sizeLine; decide) (.cons (a.up (Grow.new sm hT).g) (.cons (b.up (Grow.new sm hT).g) .nil))⟩
theorem di_zip {e e2 : Expr} {fa : DA} {p pos tpos : Pos} {elts : List Expr} {kk : Nat} (hm : X.mg "zip" = none) (ha : PA X [e, e2] (lA X.K W fa)) (hg : Gl X "zip" := by rfl) (hs : starEach [e, e2] X.env = (false, eval e X.env) :: starEach [e2] X.env := by rfl) (hpl : (backTo pos (starEach [e2] X.env)).any (·.1) = false := by rfl) :
    PI X (.Tuple elts kk tpos) (.Call (.Name "zip" p) [e, e2] [] pos) (lI X.K W (dZip fa)) :=
  pi_imp (RZ.pi_zipA hg hm ha hs hpl) fun σ H R ⟨ρ, G, la, P, XX, r, h, q, xo⟩ => ⟨ρ, G, la, _, XX, r, h, fun xs ρ1 vs G1 la1 H1 p1 a1 z1 => by
    have p1' : (match (generalizing := false) xs with
      | [.dat (.tup a), .dat (.tup b)] => P (zipD a b) ρ1
      | [.dat (.lst a), .dat (.lst b)] => P (zipD a b) ρ1
      | _ => False) := p1
    split at p1'
    · rename_i da db
      cases z1 with
      | cons a b =>
        cases b with
        | cons b c =>
          cases c
          cases (show Dp _ _ _ (.tup da) from a) with
          | tup ha la_ ra =>
            cases (show Dp _ _ _ (.tup db) from b) with
            | tup hb lb rb =>
              rename_i pa va pb vb
              refine ⟨_, _, va, vb, rfl, .inr ⟨same_t a1.r.ext ha, same_t a1.r.ext hb, q _ _ _ _ _ _ p1' a1 ⟨fun i H hi e => ?_, fun H e => ?_, fun i G' H x H' e e' y z hz => ?_⟩ ?_⟩⟩
              · rw [zipD_len] at hi
                have h1 : i < va.length := by rw [ra.len]; omega
                have h2 : i < vb.length := by rw [rb.len]; omega
                exact ⟨va, vb, va[i], vb[i], same_t e ha, same_t e hb, by simp [h1], by simp [h2]⟩
              · refine ⟨va, vb, same_t e ha, same_t e hb, ?_⟩
                rw [zipD_len, ra.len, rb.len]
                omega
              · obtain ⟨T, u, w, rfl, hT, rfl, f1, f2⟩ := y
                obtain ⟨dx, dy, h1, h2, rfl⟩ := zipD_get _ _ _ _ hz
                obtain ⟨d1, g1, k1⟩ := ra.getV (f1 va (same_t (e.trans e') ha))
                obtain ⟨d2, g2, k2⟩ := rb.getV (f2 vb (same_t (e.trans e') hb))
                rw [h1] at g1
                rw [h2] at g2
                have q1 := Option.some.inj g1
                have q2 := Option.some.inj g2
                subst q1 q2
                exact pair_dp e' hT (k1.up e) (k2.up e)
              · rw [zipD_len, ← ra.len]
                exact Nat.le_trans (Nat.min_le_left _ _) (Nat.le_trans la_ line62)
    · rename_i da db
      cases z1 with
      | cons a b =>
        cases b with
        | cons b c =>
          cases c
          cases (show Dp _ _ _ (.lst da) from a) with
          | lst ha la_ ra =>
            cases (show Dp _ _ _ (.lst db) from b) with
            | lst hb lb rb =>
              rename_i pa va pb vb
              refine ⟨_, _, va, vb, rfl, .inl ⟨SqL.of (a1.r.ext _ _ ha), SqL.of (a1.r.ext _ _ hb), q _ _ _ _ _ _ p1' a1 ⟨fun i H hi e => ?_, fun H e => ?_, fun i G' H x H' e e' y z hz => ?_⟩ ?_⟩⟩
              · rw [zipD_len] at hi
                have h1 : i < va.length := by rw [ra.len]; omega
                have h2 : i < vb.length := by rw [rb.len]; omega
                exact ⟨va, vb, va[i], vb[i], SqL.of (e _ _ ha), SqL.of (e _ _ hb), by simp [h1], by simp [h2]⟩
              · refine ⟨va, vb, SqL.of (e _ _ ha), SqL.of (e _ _ hb), ?_⟩
                rw [zipD_len, ra.len, rb.len]
                omega
              · obtain ⟨T, u, w, rfl, hT, rfl, f1, f2⟩ := y
                obtain ⟨dx, dy, h1, h2, rfl⟩ := zipD_get _ _ _ _ hz
                obtain ⟨d1, g1, k1⟩ := ra.getV (f1 va (SqL.of (e' _ _ (e _ _ ha))))
                obtain ⟨d2, g2, k2⟩ := rb.getV (f2 vb (SqL.of (e' _ _ (e _ _ hb))))
                rw [h1] at g1
                rw [h2] at g2
                have q1 := Option.some.inj g1
                have q2 := Option.some.inj g2
                subst q1 q2
                exact pair_dp e' hT (k1.up e) (k2.up e)
              · rw [zipD_len, ← ra.len]
                exact Nat.le_trans (Nat.min_le_left _ _) (Nat.le_trans la_ line62)
    · exact p1'.elim, xo⟩
end
end DL
set_option Elab.async false
set_option linter.all false
set_option maxRecDepth 100000
set_option maxHeartbeats 4000000
set_option autoImplicit false
/-! The data level: comprehensions, statements, calls of defs, defs. -/
namespace DL
open PySem PySem.Spec PyProof.Rows L2

/-! ### comprehensions -/
def X0 : XP := fun _ _ => False
def W0 : WX := fun _ _ _ _ => False
def wipeS (s : List (Option Sl)) : List Nat → List (Option Sl)
  | [] => s
  | v :: vs => (wipeS s vs).set v none
/-- the turns of a comprehension; the list that is made stands in the table at k -/
def compD (g : DG) (t : DT) (e : DE) (own : List Nat) (k : Nat) : List D → Env → (Env → Prop) → Prop
  | [], ρ, Q => Q ρ
  | d :: ds, ρ, Q => g d ⟨ρ.T, wipeS ρ.s own⟩ fun ρ1 => t X0 ρ1 fun b ρ2 => if b = true then e X0 ρ2 fun y ρ3 => match ρ3.T[k]? with
      | some (.lst acc) => acc.length < sizeLine ∧ compD g t e own k ds ⟨ρ3.T.set k (.lst (acc ++ [y])), ρ3.s⟩ Q
      | _ => False
    else compD g t e own k ds ρ2 Q
def dYes : DT := fun _ ρ Q => Q true ρ
def lTs (K : PySem.W.Frag) (W : WX) (f : DT) : TT := lT K W f

section
variable {K : PySem.W.Frag} {G G' G2 H H' H2 : Hp} {la la' la2 : List Addr} {σ σ' : L2.St} {ρ ρ' ρ2 : Env} {W : WX} {X : XP} {T : List Ob}
theorem wipeS_len (s : List (Option Sl)) : ∀ vs : List Nat, (wipeS s vs).length = s.length
  | [] => rfl
  | v :: vs => by
    unfold wipeS
    rw [List.length_set, wipeS_len s vs]
theorem wipeS_some {s : List (Option Sl)} {i : Nat} {x : Sl} : ∀ {vs : List Nat}, (wipeS s vs)[i]? = some (some x) → s[i]? = some (some x) ∧ i ∉ vs
  | [], h => ⟨h, by simp⟩
  | v :: vs, h => by
    unfold wipeS at h
    by_cases hi : v = i
    · subst hi
      rw [List.getElem?_set] at h
      split at h
      · split at h <;> cases h
      · rename_i n
        exact absurd rfl n
    · rw [List.getElem?_set_ne hi] at h
      obtain ⟨h1, h2⟩ := wipeS_some h
      exact ⟨h1, by simp only [List.mem_cons, not_or]; exact ⟨fun e => hi e.symm, h2⟩⟩
theorem wipe_keep {i : Nat} {v : V} : ∀ {vs : List Nat}, i ∉ vs → (L2.wipe σ vs)[i]? = σ[i]?
  | [], _ => rfl
  | w :: vs, h => by
    unfold L2.wipe
    have h1 : w ≠ i := fun e => h (by rw [e]; exact List.mem_cons_self)
    rw [List.getElem?_set_ne h1]
    exact wipe_keep (v := v) fun z => h (List.mem_cons_of_mem _ z)
/-- the own slots forgotten at both -/
theorem Re.wipe (r : Re K G H la σ ρ) (vs : List Nat) : Re K G H la (L2.wipe σ vs) ⟨ρ.T, wipeS ρ.s vs⟩ :=
  ⟨r.tb, by rw [L2.wipe_length]; exact (wipeS_len _ _).trans r.sl, fun i x h => by
    obtain ⟨h1, h2⟩ := wipeS_some h
    obtain ⟨v, a, b⟩ := r.at_ i x h1
    exact ⟨v, (wipe_keep (v := v) h2).trans a, b⟩⟩
/-- back in the outer slots -/
theorem Re.unwipe {σ : L2.St} {vs : List Nat} (r : Re K G H la (L2.wipe σ vs) ρ) : Re K G H la σ ⟨ρ.T, wipeS ρ.s vs⟩ :=
  ⟨r.tb, (wipeS_len _ _).trans (r.sl.trans (L2.wipe_length _ _)), fun i x h => by
    obtain ⟨h1, h2⟩ := wipeS_some h
    obtain ⟨v, a, b⟩ := r.at_ i x h1
    exact ⟨v, (wipe_keep (v := v) h2).symm.trans a, b⟩⟩
theorem Re.dropS (r : Re K G H la σ ρ) (vs : List Nat) : Re K G H la σ ⟨ρ.T, wipeS ρ.s vs⟩ :=
  ⟨r.tb, (wipeS_len _ _).trans r.sl, fun i x h => r.at_ i x (wipeS_some h).1⟩
theorem wipe_idem (σ : L2.St) (vs : List Nat) : L2.wipe (L2.wipe σ vs) vs = L2.wipe σ vs := by
  apply List.ext_getElem?
  intro j
  rw [wipe_get, wipe_get, wipe_length]
  by_cases hm : j ∈ vs ∧ j < σ.length
  · rw [if_pos hm, if_pos hm]
  · rw [if_neg hm, if_neg hm]
theorem Rl.take (r : Rl K G H la T) (n : Nat) : Rl K G H (la.take n) (T.take n) :=
  ⟨r.ext, r.nd.sublist (List.take_sublist _ _), by simp [r.len], (fun k a o h1 h2 => by
    rw [List.getElem?_take] at h1 h2
    split at h1
    · rename_i hk
      rw [if_pos hk] at h2
      exact r.tab k a o h1 h2
    · cases h1), (fun k a h => by
      rw [List.getElem?_take] at h
      split at h
      · exact r.there k a h
      · cases h), r.nt, r.tbl⟩
theorem pre_take (p : la <+: la') : la'.take la.length = la := by
  obtain ⟨t, rfl⟩ := p
  exact List.take_left
def lowSl (n : Nat) : Sl → Bool
  | .dat _ => true
  | .ob k => decide (k < n)
  | .clo _ _ _ => false
theorem SlR.take {v : V} {n : Nat} : ∀ {x : Sl}, SlR K G la v x → lowSl n x = true → SlR K G (la.take n) v x
  | .dat d, h, _ => h
  | .ob k, ⟨a, h, e⟩, hk => ⟨a, by
    have hk' : k < n := by simpa [lowSl] using hk
    rw [List.getElem?_take, if_pos hk']
    exact h, e⟩
  | .clo _ _ _, _, hk => by simp [lowSl] at hk
/-- the list made so far is done: it is data, the table is what it was -/
theorem comp_done {acc : List D} {n : Nat} {a : Addr} (r : Re K G H la σ ρ) (hn : n < la.length) (ha : la[n]? = some a) (hk : ρ.T[n]? = some (.lst acc)) (hs : ∀ (i : Nat) (x : Sl), ρ.s[i]? = some (some x) → lowSl n x = true) :
    ∃ G', Same G G' ∧ Dp K G' (.ref a) (.lst acc) ∧ Re K G' H (la.take n) σ ⟨ρ.T.take n, ρ.s⟩ := by
  obtain ⟨vs, hH, gn, s1, dp, rl⟩ := r.tb.freeze ha hk
  refine ⟨_, s1, dp, ?_, r.sl, fun i x h => ?_⟩
  · have q := rl.take n
    have e : (ρ.T.set n .dead).take n = ρ.T.take n := by
      rw [List.take_set]
      exact List.set_eq_of_length_le (by rw [List.length_take]; omega)
    rw [e] at q
    exact q
  · obtain ⟨v, b, c⟩ := r.at_ i x h
    exact ⟨v, b, (c.grow s1 List.prefix_rfl).take (hs i x h)⟩
end

/-- own objects that stand in no slot from n on -/
def lowS (n : Nat) (s : List (Option Sl)) : Bool := s.all fun x => match x with
  | some (.ob k) => decide (k < n)
  | some (.clo _ _ _) => false
  | _ => true
def dComp (fi : DI) (g : DG) (t : DT) (e : DE) (own : List Nat) : DE := fun X ρ Q => fi X ρ fun ds ρ1 => compD g t e own ρ1.T.length ds ⟨ρ1.T ++ [.lst []], wipeS ρ1.s own⟩ fun ρ2 => match ρ2.T[ρ1.T.length]? with
  | some (.lst acc) => lowS ρ1.T.length (wipeS ρ2.s own) = true ∧ Q (.lst acc) ⟨ρ2.T.take ρ1.T.length, wipeS ρ2.s own⟩
  | _ => False
theorem lowS_at {n : Nat} {s : List (Option Sl)} (h : lowS n s = true) : ∀ (i : Nat) (x : Sl), s[i]? = some (some x) → lowSl n x = true := fun i x e => by
  have q := List.all_eq_true.mp h _ (List.mem_of_getElem? e)
  cases x <;> simpa [lowSl] using q
section
variable {X : Cx} {W : WX}
theorem comp_core {K : PySem.W.Frag} {fi : DI} {g : DG} {t : DT} {e : DE} {own is_ : List Nat} (hio : ∀ i ∈ is_, i ∈ own) : ∀ (σ : L2.St) (H : Hp) (Q : VK), lE K W (dComp fi g t e own) σ H Q → tLc (lI K W fi) (lG K is_ g) (lT K W0 t) (lE K W0 e) own σ H Q := fun σ H Q ⟨ρ, G, la, P, XX, re, h, q, xo⟩ =>
  ⟨ρ, G, la, _, XX, re, h, fun ds ρ1 G1 la1 H1 J p1 a1 wk lz Dn hD => by
    have l1 : la1.length = ρ1.T.length := a1.r.tb.len
    have fr := a1.r.tb.fresh (xs := []) (vs := []) hD (Nat.zero_le _) .nil
    let fin : Env → Prop := fun ρ2 => match ρ2.T[ρ1.T.length]? with
      | some (.lst acc) => lowS ρ1.T.length (wipeS ρ2.s own) = true ∧ P (.lst acc) ⟨ρ2.T.take ρ1.T.length, wipeS ρ2.s own⟩
      | _ => False
    have p1' : compD g t e own ρ1.T.length ds ⟨ρ1.T ++ [.lst []], wipeS ρ1.s own⟩ fin := p1
    -- the invariant
    let Wt : Nat → Nat → Hp → Prop := fun i m H2 => m + i = ds.length ∧ ∃ ρ2 G2 la2, Aft K G1 (la1 ++ [Dn]) (L2.wipe σ own) ρ2 G2 la2 H2 ∧ compD g t e own ρ1.T.length (ds.drop i) ρ2 fin
    have r0 : Re K G1 (upd H1 Dn (.lst [])) (la1 ++ [Dn]) (L2.wipe σ own) ⟨ρ1.T ++ [.lst []], wipeS ρ1.s own⟩ := by
      have rr : Re K G1 (upd H1 Dn (.lst [])) (la1 ++ [Dn]) σ ⟨ρ1.T ++ [.lst []], ρ1.s⟩ := ⟨fr, a1.r.sl, fun i x hx => by
        obtain ⟨v, b, c⟩ := a1.r.at_ i x hx
        exact ⟨v, b, c.grow (Same.refl _) (List.prefix_append _ _)⟩⟩
      exact rr.wipe own
    refine ⟨Wt, ⟨ds.length, by simp, ⟨ρ1.T ++ [.lst []], wipeS ρ1.s own⟩, G1, la1 ++ [Dn], Aft.refl r0, by simpa using p1'⟩, ?_⟩
    rintro i m H2 ⟨hm, ρ2, G2, la2, a2, c2⟩
    by_cases hi : i < ds.length
    · right
      have ed : ds.drop i = ds[i] :: ds.drop (i + 1) := List.drop_eq_getElem_cons hi
      rw [ed] at c2
      refine ⟨wk.goes i H2 hi (a2.g.trans a2.r.ext), fun H3 => ∃ ρ3 G3 la3, Aft K G1 (la1 ++ [Dn]) (L2.wipe σ own) ρ3 G3 la3 H3 ∧ compD g t e own ρ1.T.length (ds.drop (i + 1)) ρ3 fin, fun H3 ⟨ρ3, G3, la3, a3, c3⟩ => ⟨m - 1, by omega, by omega, ρ3, G3, la3, a3, c3⟩, fun x H3 y => ?_⟩
      obtain ⟨G3, gr, dx⟩ := wk.yields i G2 H2 x H3 a2.g a2.r.ext y ds[i] (List.getElem?_eq_getElem hi)
      have a3 := a2.grow gr
      refine ⟨_, G3, la2, ds[i], _, (a3.r.dropS own), dx, c2, fun ρ4 σ4 p4 r4 w4 => ⟨?_, ρ4, G3, la2, _, X0, r4, p4, fun b ρ5 G5 la5 H5 p5 a5 => ?_, fun _ _ _ _ _ _ _ _ z => z.elim⟩⟩
      · exact (w4.wipe hio).trans (wipe_idem _ _)
      · have wso : L2.wipe σ4 own = L2.wipe σ own := by
          exact (w4.wipe hio).trans (wipe_idem _ _)
        -- behind a turn: the own slots forgotten
        have back : ∀ {ρx : Env} {Gx : Hp} {lx : List Addr} {Hx : Hp}, Same G1 Gx → la1 ++ [Dn] <+: lx → Re K Gx Hx lx σ4 ρx → Aft K G1 (la1 ++ [Dn]) (L2.wipe σ own) ⟨ρx.T, wipeS ρx.s own⟩ Gx lx Hx := fun g1 g2 g3 => ⟨g1, g2, by
          have q := g3.wipe own
          rw [wso] at q
          exact q⟩
        have p5' : if b = true then e X0 ρ5 fun y ρ3 => match ρ3.T[ρ1.T.length]? with
            | some (.lst acc) => acc.length < sizeLine ∧ compD g t e own ρ1.T.length (ds.drop (i + 1)) ⟨ρ3.T.set ρ1.T.length (.lst (acc ++ [y])), ρ3.s⟩ fin
            | _ => False
          else compD g t e own ρ1.T.length (ds.drop (i + 1)) ρ5 fin := p5
        have cw : ∀ {ρx : Env}, compD g t e own ρ1.T.length (ds.drop (i + 1)) ρx fin → compD g t e own ρ1.T.length (ds.drop (i + 1)) ⟨ρx.T, wipeS ρx.s own⟩ fin := by
          intro ρx hx
          have ww : wipeS (wipeS ρx.s own) own = wipeS ρx.s own := by
            have idem : ∀ (s : List (Option Sl)) (vs : List Nat), (∀ v ∈ vs, v < s.length → s[v]? = some none) → wipeS s vs = s := by
              intro s vs
              induction vs with
              | nil => intro _; rfl
              | cons v vs ih =>
                intro hv
                unfold wipeS
                rw [ih fun u hu => hv u (List.mem_cons_of_mem _ hu)]
                apply List.ext_getElem?
                intro j
                rw [List.getElem?_set]
                split
                · rename_i hj
                  split
                  · rename_i hl
                    rw [← hj, hv v List.mem_cons_self hl]
                  · rename_i hl
                    rw [← hj, List.getElem?_eq_none (by omega)]
                · rfl
            have at_ : ∀ (s : List (Option Sl)) (vs : List Nat), ∀ v ∈ vs, v < s.length → (wipeS s vs)[v]? = some none := by
              intro s vs
              induction vs with
              | nil => intro v hv; simp at hv
              | cons u vs ih =>
                intro v hv hl
                unfold wipeS
                rw [List.getElem?_set]
                split
                · rw [if_pos (by rw [wipeS_len]; omega)]
                · rename_i hne
                  rcases List.mem_cons.mp hv with e | hv
                  · exact absurd e.symm hne
                  · exact ih v hv hl
            exact idem _ _ fun v hv hl => at_ _ _ v hv (by rwa [wipeS_len] at hl)
          cases hd : ds.drop (i + 1) with
          | nil =>
            rw [hd] at hx
            have hx' : fin ρx := hx
            show fin ⟨ρx.T, wipeS ρx.s own⟩
            show (match ρx.T[ρ1.T.length]? with
              | some (.lst acc) => lowS ρ1.T.length (wipeS (wipeS ρx.s own) own) = true ∧ P (.lst acc) ⟨ρx.T.take ρ1.T.length, wipeS (wipeS ρx.s own) own⟩
              | _ => False)
            rw [ww]
            exact hx'
          | cons d2 ds2 =>
            rw [hd] at hx
            show g d2 ⟨ρx.T, wipeS (wipeS ρx.s own) own⟩ _
            rw [ww]
            exact hx
        cases b with
        | false =>
          refine iteF ?_
          have p6 : compD g t e own ρ1.T.length (ds.drop (i + 1)) ρ5 fin := p5'
          exact ⟨⟨ρ5.T, wipeS ρ5.s own⟩, G5, la5, back ((a2.g.trans gr.g).trans a5.g) (a2.p.trans a5.p) a5.r, cw p6⟩
        | true =>
          refine iteT ?_
          have p6 : e X0 ρ5 fun y ρ3 => match ρ3.T[ρ1.T.length]? with
            | some (.lst acc) => acc.length < sizeLine ∧ compD g t e own ρ1.T.length (ds.drop (i + 1)) ⟨ρ3.T.set ρ1.T.length (.lst (acc ++ [y])), ρ3.s⟩ fin
            | _ => False := p5'
          refine ⟨ρ5, G5, la5, _, X0, a5.r, p6, fun y ρ7 v7 G7 la7 H7 p7 a7 z7 => ?_, fun _ _ _ _ _ _ _ _ z => z.elim⟩
          have p7' : (match (generalizing := false) ρ7.T[ρ1.T.length]? with
            | some (.lst acc) => acc.length < sizeLine ∧ compD g t e own ρ1.T.length (ds.drop (i + 1)) ⟨ρ7.T.set ρ1.T.length (.lst (acc ++ [y])), ρ7.s⟩ fin
            | _ => False) := p7
          split at p7'
          · rename_i acc hk
            have pp : la1 ++ [Dn] <+: la7 := (a2.p.trans a5.p).trans a7.p
            have hla : la7[ρ1.T.length]? = some Dn := by
              obtain ⟨tl, rfl⟩ := pp
              rw [List.append_assoc, List.getElem?_append_right (by omega), ← l1, Nat.sub_self]
              rfl
            obtain ⟨gn, vs, hH, lv, dv⟩ := a7.r.tb.tab _ _ _ hla hk
            refine ⟨vs, hH, by rw [dv.len]; exact p7'.1, ?_⟩
            have wr := a7.r.tb.write (ws := vs ++ [v7]) (ys := acc ++ [y]) hla hk (by rw [List.length_append, List.length_singleton, dv.len]; exact p7'.1) (dv.app (.cons z7 .nil))
            have r8 : Re K G7 (upd H7 Dn (.lst (vs ++ [v7]))) la7 σ4 ⟨ρ7.T.set ρ1.T.length (.lst (acc ++ [y])), ρ7.s⟩ := ⟨wr, a7.r.sl, a7.r.at_⟩
            exact ⟨⟨ρ7.T.set ρ1.T.length (.lst (acc ++ [y])), wipeS ρ7.s own⟩, G7, la7, back (ρx := ⟨ρ7.T.set ρ1.T.length (.lst (acc ++ [y])), ρ7.s⟩) (((a2.g.trans gr.g).trans a5.g).trans a7.g) pp r8, cw (ρx := ⟨ρ7.T.set ρ1.T.length (.lst (acc ++ [y])), ρ7.s⟩) p7'.2⟩
          · exact p7'.elim
    · left
      have ei : i = ds.length := by omega
      subst ei
      rw [List.drop_length] at c2
      have c3 : fin ρ2 := c2
      refine ⟨wk.stops H2 (a2.g.trans a2.r.ext), ?_⟩
      have c3' : (match (generalizing := false) ρ2.T[ρ1.T.length]? with
        | some (.lst acc) => lowS ρ1.T.length (wipeS ρ2.s own) = true ∧ P (.lst acc) ⟨ρ2.T.take ρ1.T.length, wipeS ρ2.s own⟩
        | _ => False) := c3
      split at c3'
      · rename_i acc hk
        have hla : la2[ρ1.T.length]? = some Dn := by
          obtain ⟨tl, e2⟩ := a2.p
          rw [← e2, List.append_assoc, List.getElem?_append_right (by omega), ← l1, Nat.sub_self]
          rfl
        have hlt : ρ1.T.length < la2.length := (List.getElem?_eq_some_iff.mp hla).1
        obtain ⟨G3, s3, d3, r3⟩ := comp_done (ρ := ⟨ρ2.T, wipeS ρ2.s own⟩) a2.r.unwipe hlt hla hk (lowS_at c3'.1)
        have et : la2.take ρ1.T.length = la1 := by
          rw [← l1]
          exact pre_take ((List.prefix_append _ _).trans a2.p)
        rw [et] at r3
        exact q _ _ _ _ _ _ c3'.2 ⟨(a1.g.trans a2.g).trans s3, a1.p, r3⟩ d3
      · exact c3'.elim, xo⟩
end
end DL
set_option Elab.async false
set_option linter.all false
set_option maxRecDepth 100000
set_option maxHeartbeats 4000000
set_option autoImplicit false
/-! The data level: statements, calls of defs, defs. -/
namespace DL
open PySem PySem.Spec PyProof.Rows L2

/-! ### comprehensions as expressions -/
section
variable {X : Cx} {W : WX}
theorem dts_nil : PTs X [] (lT X.K W dYes) := ⟨fun pins s σ H Q I h => (pts_nil (X := X)).run pins s σ H Q I (by
  obtain ⟨ρ, G, la, P, XX, r, f, q, _⟩ := h
  exact q _ _ _ _ _ f (Aft.refl r))⟩
theorem dts_one {c : Expr} {t : DT} (h : PT X c (lT X.K W t)) : PTs X [c] (lT X.K W t) := pts_one h
theorem takes0' {X : Cx} : Takes X W0 := takes0
theorem de_comp {elt tg iter : Expr} {ifs : List Expr} {scope : Scope} {own : List (Str × Nat)} {pos : Pos} {fi : DI} {g : DG} {t : DT} {e : DE} {is_ : List Nat} (hc : X.calm = true) (hN : X.N.Nodup) (hi : PI X tg iter (lI X.K W fi)) (ok : blkC X.N X.env.scope scope own = true)
    (hg : ∀ (s : Shared) (H : Hp) (C : Addr) (cl : List (Str × Addr)) (fp : List Addr), PG (X.blk s H scope (compEnvC scope cl C X.env) fp) tg (lG X.K is_ g)) (ht : ∀ (s : Shared) (H : Hp) (C : Addr) (cl : List (Str × Addr)) (fp : List Addr), PTs (X.blk s H scope (compEnvC scope cl C X.env) fp) ifs (lT X.K W0 t))
    (he : ∀ (s : Shared) (H : Hp) (C : Addr) (cl : List (Str × Addr)) (fp : List Addr), PE (X.blk s H scope (compEnvC scope cl C X.env) fp) elt (lE X.K W0 e)) (hio : ∀ i ∈ is_, i ∈ own.map (·.2) := by decide) (hs : ∀ x, foldedSetIterable iter X.env x = pure x := by intro _; rfl) :
    PE X (.ListComp elt [⟨tg, iter, ifs, 0⟩] scope pos) (lE X.K W (dComp fi g t e (own.map (·.2)))) :=
  pe_imp (pe_lc hc hN hi (blkOk_by ok) hg ht he hs) (comp_core hio)
end

theorem pre_at {α : Type} {l l' : List α} {i : Nat} {a : α} (p : l <+: l') (h : l[i]? = some a) : l'[i]? = some a := by
  obtain ⟨t, rfl⟩ := p
  rw [List.getElem?_append_left (List.getElem?_eq_some_iff.mp h).1]
  exact h
/-! ### statements -/
def sNil : DS := fun E ρ => E.nx ρ
def sSeq (a b : DS) : DS := fun E ρ => a { E with nx := b E } ρ
def sSet (i : Nat) (f : DL') : DS := fun E ρ => f E.xn ρ fun x ρ' => E.nx ⟨ρ'.T, ρ'.s.set i (some x)⟩
def sRet (f : DL') : DS := fun E ρ => f E.xn ρ E.rt
def sRetN : DS := fun E ρ => E.rt (.dat .non) ρ
def sDrop (f : DL') : DS := fun E ρ => f E.xn ρ fun _ ρ' => E.nx ρ'
def sIf (t : DT) (a b : DS) : DS := fun E ρ => t E.xn ρ fun c ρ' => if c = true then a E ρ' else b E ρ'
def loopD (g : DG) (B : DS) (E : DN) : List D → Env → Prop
  | [], ρ => E.nx ρ
  | d :: ds, ρ => g d ρ fun ρ' => B { E with nx := loopD g B E ds, ct := loopD g B E ds, bk := E.nx } ρ'
def sFor (fi : DI) (g : DG) (B : DS) : DS := fun E ρ => fi E.xn ρ fun ds ρ' => loopD g B E ds ρ'
def sWhile (t : DT) (B : DS) : DS := fun E ρ => ∃ V : Nat → Env → Prop, (∃ m, V m ρ) ∧ ∀ m ρ, V m ρ → t E.xn ρ fun b ρ' => if b = true then B { E with nx := fun ρ2 => ∃ m', m' < m ∧ V m' ρ2, ct := fun ρ2 => ∃ m', m' < m ∧ V m' ρ2, bk := E.nx } ρ' else E.nx ρ'
def sPar2 (i j : Nat) (f g : DL') : DS := fun E ρ => f E.xn ρ fun x ρ1 => g E.xn ρ1 fun y ρ2 => E.nx ⟨ρ2.T, (ρ2.s.set i (some x)).set j (some y)⟩
def sPar3 (i j l : Nat) (f g h : DL') : DS := fun E ρ => f E.xn ρ fun x ρ1 => g E.xn ρ1 fun y ρ2 => h E.xn ρ2 fun z ρ3 => E.nx ⟨ρ3.T, ((ρ3.s.set i (some x)).set j (some y)).set l (some z)⟩
def sTo (f : DE) (g : DG) : DS := fun E ρ => f E.xn ρ fun d ρ' => g d ρ' E.nx
/-- x.append(e), x a name -/
def sApp (i : Nat) (f : DE) : DS := fun E ρ => match ρ.s[i]? with
  | some (some (.ob k)) => match ρ.T[k]? with
    | some (.lst _) => f E.xn ρ fun d ρ' => match ρ'.T[k]? with
      | some (.lst xs) => xs.length < sizeLine ∧ E.nx ⟨ρ'.T.set k (.lst (xs ++ [d])), ρ'.s⟩
      | _ => False
    | _ => False
  | _ => False
/-- x[j] = e, x a name -/
def sSetIx (i : Nat) (fj fv : DE) : DS := fun E ρ => fv E.xn ρ fun d ρ1 => match ρ1.s[i]? with
  | some (some (.ob k)) => fj E.xn ρ1 fun z ρ2 => match z, ρ2.T[k]? with
    | .int j, some (.lst xs) => match ixN xs.length j with
      | some m => E.nx ⟨ρ2.T.set k (.lst (xs.set m d)), ρ2.s⟩
      | none => False
    | _, _ => False
  | _ => False
/-- x[j] of a list that may change, x a name -/
def dIxO (i : Nat) (fj : DE) : DE := fun X ρ Q => match ρ.s[i]? with
  | some (some (.ob k)) => fj X ρ fun z ρ' => match z, ρ'.T[k]? with
    | .int j, some (.lst xs) => match atI xs j with
      | some d => Q d ρ'
      | none => False
    | _, _ => False
  | _ => False
def dLenO (i : Nat) : DE := fun X ρ Q => match ρ.s[i]? with
  | some (some (.ob k)) => match ρ.T[k]? with
    | some (.lst xs) => Q (.int xs.length) ρ
    | _ => False
  | _ => False
def sNever : DS := fun _ _ => False

section
variable {X : Cx} {W : WX} {st : Stmt} {rest : List Stmt} {pos : Pos}
theorem dss_nil : PSs X [] (lS X.K W sNil) := pss_imp pss_nil fun D σ H ⟨ρ, G, la, E, r, f, b⟩ => b.nx _ _ _ _ _ f (Aft.refl r)
theorem dss_cons {f g : DS} (h1 : PS X st (lS X.K W f)) (h2 : PSs X rest (lS X.K W g)) : PSs X (st :: rest) (lS X.K W (sSeq f g)) := pss_imp (pss_cons h1 h2) fun D σ H ⟨ρ, G, la, E, r, f, b⟩ =>
  ⟨ρ, G, la, _, r, f, ⟨fun ρ' σ' G' la' H' p a => ⟨ρ', G', la', E, a.r, p, b.up a.g a.p⟩, b.bk, b.ct, b.rt, b.xn⟩⟩
theorem dss_one {f : DS} (h : PS X st (lS X.K W f)) : PSs X [st] (lS X.K W f) := pss_one h
theorem ds_pass : PS X (.Pass pos) (lS X.K W sNil) := ps_imp ps_pass fun D σ H ⟨ρ, G, la, E, r, f, b⟩ => b.nx _ _ _ _ _ f (Aft.refl r)
theorem set_core {i : Nat} {f : DL'} : ∀ (D : Ends) (σ : L2.St) (H : Hp), lS X.K W (sSet i f) D σ H → tAsg (lL X.K W f) (gName i) D σ H := fun D σ H ⟨ρ, G, la, E, r, f, b⟩ =>
  ⟨ρ, G, la, _, _, r, f, fun x ρ' v G' la' H' p a z => b.nx _ _ _ _ _ p ⟨a.g, a.p, a.r.set z⟩, b.xn⟩
theorem ds_set (i : Nat) {x : Str} {e : Expr} {f : DL'} {pos' : Pos} (hN : X.N.Nodup) (he : PE X e (lL X.K W f)) (hi : X.N[i]? = some x := by rfl) (hx : Loc X.env.scope x := by first | exact Or.inl rfl | exact Or.inr rfl) (hs : swapsWith e (some (.Name x pos')) pos.line X.env = pure false := by rfl)
    (hf : X.fn x = true ∨ X.env.scope.names.lookup x = some .local := by first | exact .inl rfl | exact .inr rfl | assumption) : PS X (.Assign [.Name x pos'] e pos) (lS X.K W (sSet i f)) := ps_imp (ps_set hN hi hx he hs hf) set_core
theorem ds_setC (i : Nat) {y : Str} {py : Pos} {elt tg iter : Expr} {ifs : List Expr} {scope : Scope} {own : List (Str × Nat)} {pos spos : Pos} {fi : DI} {g : DG} {t : DT} {e : DE} {is_ : List Nat} (hc : X.calm = true) (hN : X.N.Nodup) (hi : PI X tg iter (lI X.K W fi)) (ok : blkC X.N X.env.scope scope own = true)
    (hg : ∀ (s : Shared) (H : Hp) (C : Addr) (cl : List (Str × Addr)) (fp : List Addr), PG (X.blk s H scope (compEnvC scope cl C X.env) fp) tg (lG X.K is_ g)) (ht : ∀ (s : Shared) (H : Hp) (C : Addr) (cl : List (Str × Addr)) (fp : List Addr), PTs (X.blk s H scope (compEnvC scope cl C X.env) fp) ifs (lT X.K W0 t))
    (he : ∀ (s : Shared) (H : Hp) (C : Addr) (cl : List (Str × Addr)) (fp : List Addr), PE (X.blk s H scope (compEnvC scope cl C X.env) fp) elt (lE X.K W0 e)) (hy : X.N[i]? = some y := by rfl) (hyl : X.env.scope.names.lookup y = some .local := by rfl)
    (hsw : swapsWith (.ListComp elt [⟨tg, iter, ifs, 0⟩] scope pos) (some (.Name y py)) spos.line X.env = pure true := by exact sw_true rfl rfl rfl (by decide +kernel)) (hio : ∀ i ∈ is_, i ∈ own.map (·.2) := by decide) (hs : ∀ x, foldedSetIterable iter X.env x = pure x := by intro _; rfl) :
    PS X (.Assign [.Name y py] (.ListComp elt [⟨tg, iter, ifs, 0⟩] scope pos) spos) (lS X.K W (sSet i (dDat (dComp fi g t e (own.map (·.2)))))) :=
  ps_imp (ps_setLc hc hN hy hyl hsw hi (blkOk_by ok) hg ht he hs) fun D σ H ⟨ρ, G, la, E, r, f, b⟩ => comp_core hio σ H _ ⟨ρ, G, la, fun d ρ' => E.nx ⟨ρ'.T, ρ'.s.set i (some (.dat d))⟩, _, r, f, fun d ρ' v G' la' H' p a z => b.nx _ _ _ _ _ p ⟨a.g, a.p, a.r.set (x := .dat d) z⟩, b.xn⟩
theorem ds_ret {e : Expr} {f : DL'} (he : PE X e (lL X.K W f)) : PS X (.Return (some e) pos) (lS X.K W (sRet f)) := ps_imp (ps_ret he) fun D σ H ⟨ρ, G, la, E, r, f, b⟩ => ⟨ρ, G, la, _, _, r, f, fun x ρ' v G' la' H' p a z => b.rt _ _ _ _ _ _ _ p a z, b.xn⟩
theorem ds_retN : PS X (.Return none pos) (lS X.K W sRetN) := ps_imp ps_retN fun D σ H ⟨ρ, G, la, E, r, f, b⟩ => b.rt _ _ _ _ _ _ _ f (Aft.refl r) (show Dp _ _ _ .non from .non)
theorem ds_expr {e : Expr} {f : DL'} (he : PE X e (lL X.K W f)) (hs : swapsWith e none pos.line X.env = pure false := by rfl) : PS X (.Expr e pos) (lS X.K W (sDrop f)) := ps_imp (ps_expr he hs) fun D σ H ⟨ρ, G, la, E, r, f, b⟩ => ⟨ρ, G, la, _, _, r, f, fun x ρ' v G' la' H' p a z => b.nx _ _ _ _ _ p a, b.xn⟩
theorem ds_doc {x j pos pos'} : PS X (.Expr (.Constant (.str x) j pos) pos') (lS X.K W sNil) := ps_imp ps_doc fun D σ H ⟨ρ, G, la, E, r, f, b⟩ => b.nx _ _ _ _ _ f (Aft.refl r)
theorem ds_if {c : Expr} {a b : List Stmt} {t : DT} {f g : DS} (hc : PT X c (lT X.K W t)) (ha : PSs X a (lS X.K W f)) (hb : PSs X b (lS X.K W g)) : PS X (.If c a b pos) (lS X.K W (sIf t f g)) := ps_imp (ps_if hc ha hb) fun D σ H ⟨ρ, G, la, E, r, h, b⟩ =>
  ⟨ρ, G, la, _, _, r, h, fun c ρ' G' la' H' p a => by
    cases c with
    | true => exact iteT ⟨ρ', G', la', E, a.r, (show f E ρ' from p), b.up a.g a.p⟩
    | false => exact iteF ⟨ρ', G', la', E, a.r, (show g E ρ' from p), b.up a.g a.p⟩, b.xn⟩
theorem ds_never : PS X st (lS X.K W sNever) := ps_imp ps_never fun D σ H ⟨ρ, G, la, E, r, h, b⟩ => h
theorem dss_never : PSs X rest (lS X.K W sNever) := pss_imp pss_never fun D σ H ⟨ρ, G, la, E, r, h, b⟩ => h
theorem ds_for {tg iter : Expr} {body : List Stmt} {fi : DI} {g : DG} {B : DS} {is_ : List Nat} (po : PassesOwn (model X.prog X.w) X.A X.env X.xe) (hc : X.calm = true) (hi : PI X tg iter (lI X.K W fi)) (hg : PG X tg (lG X.K is_ g)) (hb : PSs X body (lS X.K W B))
    (hs : ∀ x, foldedSetIterable iter X.env x = pure x := by intro _; rfl) : PS X (.For tg iter body [] pos) (lS X.K W (sFor fi g B)) := ps_imp (ps_for po hc hi hg hb hs) fun D σ H ⟨ρ, G, la, E, r, h, b⟩ =>
  ⟨ρ, G, la, _, _, r, h, fun ds ρ1 G1 la1 H1 J p1 a1 wk lz => by
    refine ⟨fun i m σ2 H2 => m + i = ds.length ∧ ∃ ρ2 G2 la2, Aft X.K G1 la1 σ2 ρ2 G2 la2 H2 ∧ loopD g B E (ds.drop i) ρ2, ⟨ds.length, by simp, ρ1, G1, la1, Aft.refl a1.r, by simpa using p1⟩, ?_⟩
    rintro i m σ2 H2 ⟨hm, ρ2, G2, la2, a2, c2⟩
    by_cases hi : i < ds.length
    · right
      have ed : ds.drop i = ds[i] :: ds.drop (i + 1) := List.drop_eq_getElem_cons hi
      rw [ed] at c2
      refine ⟨wk.goes i H2 hi (a2.g.trans a2.r.ext), fun σ3 H3 => ∃ ρ3 G3 la3, Aft X.K G1 la1 σ3 ρ3 G3 la3 H3 ∧ loopD g B E (ds.drop (i + 1)) ρ3, fun σ3 H3 ⟨ρ3, G3, la3, a3, c3⟩ => ⟨m - 1, by omega, by omega, ρ3, G3, la3, a3, c3⟩, fun x H3 y => ?_⟩
      obtain ⟨G3, gr, dx⟩ := wk.yields i G2 H2 x H3 a2.g a2.r.ext y ds[i] (List.getElem?_eq_getElem hi)
      have a3 := a2.grow gr
      refine ⟨ρ2, G3, la2, ds[i], _, a3.r, dx, c2, fun ρ4 σ4 p4 r4 _ => ⟨ρ4, G3, la2, _, r4, p4, ?_⟩⟩
      have b2 : Bk X.K G3 la2 W E D := b.up (a1.g.trans a3.g) (a1.p.trans a3.p)
      exact ⟨fun ρ5 σ5 G5 la5 H5 p5 a5 => ⟨ρ5, G5, la5, ⟨a3.g.trans a5.g, a3.p.trans a5.p, a5.r⟩, p5⟩, b2.nx, fun ρ5 σ5 G5 la5 H5 p5 a5 => ⟨ρ5, G5, la5, ⟨a3.g.trans a5.g, a3.p.trans a5.p, a5.r⟩, p5⟩, b2.rt, b2.xn⟩
    · left
      have ei : i = ds.length := by omega
      subst ei
      rw [List.drop_length] at c2
      exact ⟨wk.stops H2 (a2.g.trans a2.r.ext), b.nx ρ2 σ2 G2 la2 H2 c2 ⟨a1.g.trans a2.g, a1.p.trans a2.p, a2.r⟩⟩, b.xn⟩
theorem ds_while {c : Expr} {body : List Stmt} {t : DT} {B : DS} (po : PassesOwn (model X.prog X.w) X.A X.env X.xe) (hc : PT X c (lT X.K W t)) (hb : PSs X body (lS X.K W B)) : PS X (.While c body [] pos) (lS X.K W (sWhile t B)) := ps_imp (ps_while po hc hb) fun D σ H ⟨ρ, G, la, E, r, h, b⟩ => by
  obtain ⟨V, ⟨m0, v0⟩, turn⟩ := h
  refine ⟨fun m σ2 H2 => ∃ ρ2 G2 la2, Aft X.K G la σ2 ρ2 G2 la2 H2 ∧ V m ρ2, ⟨m0, ρ, G, la, Aft.refl r, v0⟩, ?_⟩
  rintro m σ2 H2 ⟨ρ2, G2, la2, a2, v2⟩
  have b2 := b.up a2.g a2.p
  refine ⟨ρ2, G2, la2, _, _, a2.r, turn m ρ2 v2, fun cc ρ3 G3 la3 H3 p3 a3 => ?_, b2.xn⟩
  have b3 := b2.up a3.g a3.p
  cases cc with
  | true =>
    refine iteT ⟨fun σ4 H4 => ∃ m', m' < m ∧ ∃ ρ4 G4 la4, Aft X.K G la σ4 ρ4 G4 la4 H4 ∧ V m' ρ4, fun σ4 H4 ⟨m', hm, z⟩ => ⟨m', hm, z⟩, ρ3, G3, la3, _, a3.r, p3, ?_⟩
    have next : ∀ (ρ' : Env) (σ' : L2.St) (G' : Hp) (la' : List Addr) (H' : Hp), (∃ m', m' < m ∧ V m' ρ') → Aft X.K G3 la3 σ' ρ' G' la' H' → ∃ m', m' < m ∧ ∃ ρ4 G4 la4, Aft X.K G la σ' ρ4 G4 la4 H' ∧ V m' ρ4 := fun ρ' σ' G' la' H' ⟨m', hm, hv⟩ a => ⟨m', hm, ρ', G', la', ⟨(a2.g.trans a3.g).trans a.g, (a2.p.trans a3.p).trans a.p, a.r⟩, hv⟩
    exact ⟨next, b3.nx, next, b3.rt, b3.xn⟩
  | false => exact iteF (b3.nx _ _ _ _ _ p3 (Aft.refl a3.r))
theorem ds_par2 (i j : Nat) {x y : Str} {a b : Expr} {f g : DL'} {px py pt : Pos} {kt k2 pt2} (hc : X.calm = true) (hN : X.N.Nodup) (ha : PA X [a, b] (lA X.K W (dCons f (dCons g dNil)))) (hw : swappedStores [.Tuple [.Name x px, .Name y py] kt pt] (.Tuple [a, b] k2 pt2) X.env = pure (some [x, y]) := by rfl)
    (hi : X.N[i]? = some x := by rfl) (hj : X.N[j]? = some y := by rfl) (hij : i ≠ j := by decide) (hx : X.env.scope.names.lookup x = some .local := by rfl) (hy : X.env.scope.names.lookup y = some .local := by rfl)
    (hs : swapsWithSole [.Tuple [.Name x px, .Name y py] kt pt] (.Tuple [a, b] k2 pt2) pos.line X.env = pure false := by rfl) : PS X (.Assign [.Tuple [.Name x px, .Name y py] kt pt] (.Tuple [a, b] k2 pt2) pos) (lS X.K W (sPar2 i j f g)) :=
  ps_imp (ps_par hc hN hi hj hij hx hy ha hw hs) fun D σ H ⟨ρ, G, la, E, r, h, b⟩ => ⟨ρ, G, la, fun xs ρ2 => ∃ u v, xs = [u, v] ∧ E.nx ⟨ρ2.T, (ρ2.s.set i (some u)).set j (some v)⟩, _, r, by
    show f E.xn ρ fun x ρ1 => g E.xn ρ1 fun y ρ2 => ∃ u v, [x, y] = [u, v] ∧ E.nx ⟨ρ2.T, (ρ2.s.set i (some u)).set j (some v)⟩
    have e : (fun (x : Sl) (ρ1 : Env) => g E.xn ρ1 fun y ρ2 => ∃ u v, [x, y] = [u, v] ∧ E.nx ⟨ρ2.T, (ρ2.s.set i (some u)).set j (some v)⟩) = fun x ρ1 => g E.xn ρ1 fun y ρ2 => E.nx ⟨ρ2.T, (ρ2.s.set i (some x)).set j (some y)⟩ := by
      funext x ρ1
      congr 1
      funext y ρ2
      apply propext
      constructor
      · rintro ⟨u, v, h1, h2⟩
        cases h1
        exact h2
      · intro h2
        exact ⟨x, y, rfl, h2⟩
    rw [e]
    exact h, fun xs ρ2 vs G2 la2 H2 p a z => by
    obtain ⟨u, v, rfl, p⟩ := p
    cases z with
    | cons z1 z =>
      cases z with
      | cons z2 z =>
        cases z
        exact ⟨_, _, rfl, b.nx _ _ _ _ _ p ⟨a.g, a.p, (a.r.set z1).set (ρ := ⟨ρ2.T, ρ2.s.set i (some u)⟩) z2⟩⟩, b.xn⟩
theorem ds_to {tg e : Expr} {f : DE} {g : DG} {is_ : List Nat} (he : PE X e (lE X.K W f)) (hg : PG X tg (lG X.K is_ g)) (hs : swapsWithSole [tg] e pos.line X.env = pure false := by rfl) (hw : swappedStores [tg] e X.env = pure none := by rfl)
    (h1 : (assignEach [tg] X.env).map (·.2) = [assign tg X.env] := by rfl) : PS X (.Assign [tg] e pos) (lS X.K W (sTo f g)) := ps_imp (ps_asg he hg hs hw h1) fun D σ H ⟨ρ, G, la, E, r, h, b⟩ =>
  ⟨ρ, G, la, _, _, r, h, fun d ρ' v G' la' H' p a z => ⟨ρ', G', la', d, _, a.r, z, p, fun ρ2 σ2 p2 r2 _ => b.nx _ _ _ _ _ p2 ⟨a.g, a.p, r2⟩⟩, b.xn⟩
theorem ds_app (i : Nat) {x : Str} {e : Expr} {f : DE} {p apos cpos : Pos} (he : PE X e (lE X.K W f)) (hN : X.N[i]? = some x := by rfl) (hv : Vis X.env.scope x := by first | exact Or.inl rfl | exact Or.inr (Or.inl rfl) | exact Or.inr (Or.inr rfl)) (hd : (x == ("__debug__" : Str)) = false := by decide)
    (hcd : (x == ("__classdict__" : Str)) = false := by decide) (hbase : attributeBase (.Name x p) "append" X.env (eval (.Name x p) X.env) = eval (.Name x p) X.env := by rfl)
    (hfew : ((backTo cpos (starEach [e] X.env)).all (fun x => !x.1) && (backToKw cpos (keywordEach [] X.env)).all (fun x => x.1.isSome) && decide ([e].length + ([] : List Keyword).length + (if ([] : List Keyword).isEmpty then 0 else 1) < 30)) = true := by rfl)
    (hline : (apos.endLine == cpos.line) = true := by rfl) (hs : starEach [e] X.env = (false, eval e X.env) :: starEach [] X.env := by rfl) (hsw : swapsWith (.Call (.Attribute (.Name x p) "append" apos) [e] [] cpos) none pos.line X.env = pure false := by rfl) :
    PS X (.Expr (.Call (.Attribute (.Name x p) "append" apos) [e] [] cpos) pos) (lS X.K W (sApp i f)) :=
  ps_imp (ps_expr (pe_bm (r := rAppend) PySem.F.plainAttrs_list PySem.F.slot_list_append PySem.F.type_list_append mt_append (pe_var (i := i) hN hv hd hcd) (pa_cons he pa_nil hs) hbase hfew hline hs rfl) hsw) fun D σ H ⟨ρ, G, la, E, r, h, b⟩ => by
    unfold sApp at h
    split at h
    · rename_i k hk
      obtain ⟨v, hv, a, ha, ev⟩ := r.at_ _ _ hk
      subst ev
      refine ⟨_, hv, ?_⟩
      split at h
      · rename_i xs hxs
        obtain ⟨gn, vs, hH, lv, dv⟩ := r.tb.tab k a _ ha hxs
        refine ⟨.inl ⟨rfl, _, SqL.of hH⟩, ρ, G, la, _, _, r, h, fun d ρ1 v1 G1 la1 H1 p1 a1 z1 => ?_, b.xn⟩
        have p1' : (match (generalizing := false) ρ1.T[k]? with
          | some (.lst xs) => xs.length < sizeLine ∧ E.nx ⟨ρ1.T.set k (.lst (xs ++ [d])), ρ1.s⟩
          | _ => False) := p1
        split at p1'
        · rename_i ys hys
          have ha1 := pre_at a1.p ha
          obtain ⟨gn1, ws, hH1, lw, dw⟩ := a1.r.tb.tab k a _ ha1 hys
          refine ⟨a, ws, v1, rfl, rfl, hH1, by rw [dw.len]; exact p1'.1, b.nx _ _ _ _ _ p1'.2 ⟨a1.g, a1.p, ⟨a1.r.tb.write ha1 hys (by rw [List.length_append, List.length_singleton, dw.len]; exact p1'.1) (dw.app (.cons z1 .nil)), a1.r.sl, a1.r.at_⟩⟩⟩
        · exact p1'.elim
      · exact h.elim
    · exact h.elim
theorem ixN_set {n : Nat} {j : Int} {m : Nat} (h : ixN n j = some m) : m < n := (ixN_seq h).2.1
theorem ds_setix (i : Nat) {x : Str} {e ej : Expr} {fj fv : DE} {p spos : Pos} (hv : PE X e (lE X.K W fv)) (hj : PE X ej (lE X.K W fj)) (hN : X.N[i]? = some x := by rfl) (hvis : Vis X.env.scope x := by first | exact Or.inl rfl | exact Or.inr (Or.inl rfl) | exact Or.inr (Or.inr rfl)) (hd : (x == ("__debug__" : Str)) = false := by decide)
    (hcd : (x == ("__classdict__" : Str)) = false := by decide) (ha : ∀ v, assign (.Subscript (.Name x p) ej spos) X.env v = (do
      let ov ← holding [v] (eval (.Name x p) X.env)
      let iv ← holding [v, ov] (eval ej X.env)
      standAt spos
      holding [v, ov, iv] (setItem ov iv v)
      release [v, ov, iv] []) := by intro _; rfl) (hs : swapsWithSole [.Subscript (.Name x p) ej spos] e pos.line X.env = pure false := by rfl) (hw : swappedStores [.Subscript (.Name x p) ej spos] e X.env = pure none := by rfl)
    (h1 : (assignEach [.Subscript (.Name x p) ej spos] X.env).map (·.2) = [assign (.Subscript (.Name x p) ej spos) X.env] := by rfl) : PS X (.Assign [.Subscript (.Name x p) ej spos] e pos) (lS X.K W (sSetIx i fj fv)) :=
  ps_imp (ps_asg hv (pg_sub (pe_var (i := i) hN hvis hd hcd) hj set_list ha) hs hw h1) fun D σ H ⟨ρ, G, la, E, r, h, b⟩ =>
  ⟨ρ, G, la, _, _, r, h, fun d ρ1 v G1 la1 H1 p1 a1 z1 => by
    have p1' : (match (generalizing := false) ρ1.s[i]? with
      | some (some (.ob k)) => fj E.xn ρ1 fun z ρ2 => match z, ρ2.T[k]? with
        | .int j, some (.lst xs) => match ixN xs.length j with
          | some m => E.nx ⟨ρ2.T.set k (.lst (xs.set m d)), ρ2.s⟩
          | none => False
        | _, _ => False
      | _ => False) := p1
    split at p1'
    · rename_i k hk
      obtain ⟨u, hu, a, hla, ev⟩ := a1.r.at_ _ _ hk
      subst ev
      refine ⟨_, hu, ρ1, G1, la1, _, _, a1.r, p1', fun z ρ2 w G2 la2 H2 p2 a2 z2 => ?_, b.xn.up a1.g a1.p⟩
      have p2' : (match (generalizing := false) z, ρ2.T[k]? with
        | .int j, some (.lst xs) => match ixN xs.length j with
          | some m => E.nx ⟨ρ2.T.set k (.lst (xs.set m d)), ρ2.s⟩
          | none => False
        | _, _ => False) := p2
      split at p2'
      · rename_i j xs hz
        cases z2
        split at p2'
        · rename_i m hm
          have ha2 := pre_at a2.p hla
          obtain ⟨gn1, ws, hH1, lw, dw⟩ := a2.r.tb.tab k a _ ha2 hz
          refine ⟨a, ws, j, m, rfl, rfl, hH1, by rw [dw.len]; exact hm, b.nx _ _ _ _ _ p2' ⟨a1.g.trans a2.g, a1.p.trans a2.p, ⟨a2.r.tb.write ha2 hz (by rw [List.length_set]; exact lw) (Dps.set (z1.up a2.g) m dw), a2.r.sl, a2.r.at_⟩⟩⟩
        · exact p2'.elim
      · exact p2'.elim
    · exact p1'.elim, b.xn⟩
theorem de_ixO (i : Nat) {x : Str} {ej : Expr} {fj : DE} {p : Pos} (hj : PE X ej (lE X.K W fj)) (hN : X.N[i]? = some x := by rfl) (hvis : Vis X.env.scope x := by first | exact Or.inl rfl | exact Or.inr (Or.inl rfl) | exact Or.inr (Or.inr rfl)) (hd : (x == ("__debug__" : Str)) = false := by decide)
    (hcd : (x == ("__classdict__" : Str)) = false := by decide) (hs : PlainIx ej := by exact fun _ _ => rfl) : PE X (.Subscript (.Name x p) ej pos) (lE X.K W (dIxO i fj)) :=
  pe_imp (pe_ix ix_list (pe_var (i := i) hN hvis hd hcd) hj hs) fun σ H Q ⟨ρ, G, la, P, XX, r, h, q, xo⟩ => by
    unfold dIxO at h
    split at h
    · rename_i k hk
      obtain ⟨v, hv, a, ha, ev⟩ := r.at_ _ _ hk
      subst ev
      refine ⟨_, hv, ρ, G, la, _, XX, r, h, fun z ρ2 w G2 la2 H2 p2 a2 z2 => ?_, xo⟩
      have p2' : (match (generalizing := false) z, ρ2.T[k]? with
        | .int j, some (.lst xs) => match atI xs j with
          | some d => P d ρ2
          | none => False
        | _, _ => False) := p2
      split at p2'
      · rename_i j xs hz
        cases z2
        split at p2'
        · rename_i d hd
          have ha2 := pre_at a2.p ha
          obtain ⟨gn1, ws, hH1, lw, dw⟩ := a2.r.tb.tab k a _ ha2 hz
          obtain ⟨v', hv', dv⟩ := dw.atI hd
          exact ⟨a, ws, j, v', rfl, rfl, SqL.of hH1, hv', q _ _ _ _ _ _ p2' a2 dv⟩
        · exact p2'.elim
      · exact p2'.elim
    · exact h.elim
theorem de_lenO (i : Nat) {x : Str} {p p2 : Pos} (hm : X.mg "len" = none) (hN : X.N[i]? = some x := by rfl) (hvis : Vis X.env.scope x := by first | exact Or.inl rfl | exact Or.inr (Or.inl rfl) | exact Or.inr (Or.inr rfl)) (hd : (x == ("__debug__" : Str)) = false := by decide)
    (hcd : (x == ("__classdict__" : Str)) = false := by decide) (hgl : Gl X "len" := by rfl) (he : starEach [.Name x p2] X.env = (false, eval (.Name x p2) X.env) :: starEach [] X.env := by rfl) : PE X (.Call (.Name "len" p) [.Name x p2] [] pos) (lE X.K W (dLenO i)) :=
  pe_imp (pe_callB call_len hgl hm PySem.boot_len (pa_cons (pe_var (i := i) hN hvis hd hcd) pa_nil he) (by decide) (by decide) he rfl) fun σ H Q ⟨ρ, G, la, P, XX, r, h, q, xo⟩ => by
    unfold dLenO at h
    split at h
    · rename_i k hk
      obtain ⟨v, hv, a, ha, ev⟩ := r.at_ _ _ hk
      subst ev
      split at h
      · rename_i xs hxs
        obtain ⟨gn, vs, hH, lv, dv⟩ := r.tb.tab k a _ ha hxs
        rw [← dv.len] at h
        exact ⟨_, hv, _, _, rfl, .inl ⟨_, SqL.of hH, rfl⟩, q _ _ _ _ _ _ h (Aft.refl r) (.int _)⟩
      · exact h.elim
    · exact h.elim
end

/-! ### calls of defs -/
abbrev DF := List Sl → List Ob → (Sl → List Ob → Prop) → (Xn → List Ob → Prop) → Prop
/-- a def's promise, by data: n arguments -/
def spD (K : PySem.W.Frag) (n : Nat) (F : DF) : Sp := fun vs H Q E => vs.length = n ∧ ∃ ss G la T P PX, Rl K G H la T ∧ SlsR K G la vs ss ∧ F ss T P PX ∧
  (∀ r T' v G' la' H', P r T' → Same G G' → la <+: la' → Rl K G' H' la' T' → SlR K G' la' v r → Q v H') ∧ (∀ x T' G' la' H' cls od, PX x T' → Same G G' → la <+: la' → Rl K G' H' la' T' → XR K G' H' x cls od → E cls od H')
def dCall (n : Nat) (F : DF) (fa : DA) : DL' := fun X ρ Q => fa X ρ fun ss ρ1 => ss.length = n ∧ F ss ρ1.T (fun r T' => Q r ⟨T', ρ1.s⟩) (fun x T' => X x ⟨T', ρ1.s⟩)
section
variable {X : Cx} {W : WX} {x : Str} {p pos : Pos} {e : Expr} {es : List Expr} {fa : DA} {k n : Nat} {f : Addr} {fd : FuncData} {ps : List Str} {F : DF}
theorem call_core {K : PySem.W.Frag} : ∀ (σ : L2.St) (H : Hp) (Q : VK), lL K W (dCall n F fa) σ H Q → tCallS (spD K n F) (WE W) (lA K W fa) σ H Q := fun σ H Q ⟨ρ, G, la, P, XX, r, h, q, xo⟩ =>
  ⟨ρ, G, la, _, XX, r, h, fun ss ρ1 vs G1 la1 H1 p1 a1 z1 => ⟨z1.len.trans p1.1, ss, G1, la1, ρ1.T, _, _, a1.r.tb, z1, p1.2, fun r2 T' v G' la' H' pr g pp rl sr => q _ _ _ _ _ _ pr ⟨a1.g.trans g, a1.p.trans pp, ⟨rl, a1.r.sl, fun i y hy => by
      obtain ⟨u, hu, ru⟩ := a1.r.at_ i y hy
      exact ⟨u, hu, ru.grow g pp⟩⟩⟩ sr, fun y T' G' la' H' cls od px g pp rl xr => xo y ⟨T', ρ1.s⟩ σ G' la' H' cls od px ⟨a1.g.trans g, a1.p.trans pp, ⟨rl, a1.r.sl, fun i y hy => by
      obtain ⟨u, hu, ru⟩ := a1.r.at_ i y hy
      exact ⟨u, hu, ru.grow g pp⟩⟩⟩ xr⟩, xo⟩
theorem dl_call (Fk : FnOk X.prog X.w X.K X.mg X.base (L2.CX X.prog X.w) k f fd ps (spD X.K n F)) (hr : Room k X.A) (hm : X.mg x = some (.ref f)) (hk : PySem.W.keepIn X.K (.ref f) = true) (hb : Binds X.K fd ps []) (tk : Takes X W) (ha : PA X (e :: es) (lA X.K W fa)) (hg : Gl X x := by rfl)
    (hdb : (x == ("__debug__" : Str)) = false := by decide) (he : starEach (e :: es) X.env = (false, eval e X.env) :: starEach es X.env := by rfl) (hpl : (backTo pos (starEach es X.env)).any (·.1) = false := by rfl) : PE X (.Call (.Name x p) (e :: es) [] pos) (lL X.K W (dCall n F fa)) :=
  pe_imp (pe_callS Fk hr hg hm hk hb (fun σ => passAt tk σ) ha hdb he hpl) call_core
end

/-! ### defs -/
def retD (n : Nat) (P : Sl → List Ob → Prop) : Sl → Env → Prop := fun x ρ => match x with
  | .dat d => P (.dat d) (ρ.T.take n)
  | .ob k => if k < n then P (.ob k) (ρ.T.take n) else match ρ.T[k]? with
    | some o => P (.ob n) (ρ.T.take n ++ [o])
    | none => False
  | .clo _ _ _ => False
def endsOf (n : Nat) (P : Sl → List Ob → Prop) (PX : Xn → List Ob → Prop) : DN := { nx := fun ρ => P (.dat .non) (ρ.T.take n), rt := retD n P, xn := fun x ρ => PX x (ρ.T.take n) }
def startD (m n : Nat) (ss : List Sl) (T : List Ob) : Env := ⟨T, ss.map some ++ List.replicate (m - n) none⟩
section
variable {P : Program} {w : World} {K : PySem.W.Frag} {mg : Str → Option Value} {base : Heap}
theorem start_re {G H : Hp} {la : List Addr} {T : List Ob} {vs : List V} {ss : List Sl} {m n : Nat} {N : List Str} (hm : m = N.length) (hn : n = ss.length) (rl : Rl K G H la T) (sr : SlsR K G la vs ss) : Re K G H la (L2.start N vs) (startD m n ss T) := by
  subst hm
  refine ⟨rl, ?_, fun i y hy => ?_⟩
  · show (ss.map some ++ List.replicate (N.length - n) none).length = (vs.map some ++ List.replicate (N.length - vs.length) none).length
    have e1 := sr.len
    simp only [List.length_append, List.length_map, List.length_replicate]
    omega
  · have hy' : (ss.map some ++ List.replicate (N.length - n) none)[i]? = some (some y) := hy
    by_cases hi : i < ss.length
    · rw [List.getElem?_append_left (by simpa using hi), List.getElem?_map] at hy'
      obtain ⟨z, hz, e⟩ := Option.map_eq_some_iff.mp hy'
      have e' := Option.some.inj e
      subst e'
      obtain ⟨v, hv, rv⟩ := sr.get hz
      refine ⟨v, ?_, rv⟩
      show (vs.map some ++ List.replicate (N.length - vs.length) none)[i]? = _
      rw [List.getElem?_append_left (by rw [List.length_map, sr.len]; exact hi), List.getElem?_map, hv]
      rfl
    · rw [List.getElem?_append_right (by simpa using hi), List.getElem?_replicate] at hy'
      split at hy' <;> cases hy'
theorem ends_bk {G : Hp} {la : List Addr} {T : List Ob} {Pd : Sl → List Ob → Prop} {PX : Xn → List Ob → Prop} {Q : VK} {E : XK} (lT : la.length = T.length)
    (q : ∀ r T' v G' la' H', Pd r T' → Same G G' → la <+: la' → Rl K G' H' la' T' → SlR K G' la' v r → Q v H') (qx : ∀ x T' G' la' H' cls od, PX x T' → Same G G' → la <+: la' → Rl K G' H' la' T' → XR K G' H' x cls od → E cls od H') :
    Bk K G la (fun cls d _ H => E cls d H) (endsOf T.length Pd PX) { nx := fun _ H' => Q .non H', rt := Q } := by
  have tr : ∀ {ρ' : Env} {σ' : L2.St} {G' : Hp} {la' : List Addr} {H' : Hp}, Aft K G la σ' ρ' G' la' H' → la'.take T.length = la ∧ Rl K G' H' la (ρ'.T.take T.length) := fun {ρ' σ' G' la' H'} a => by
    have e : la'.take T.length = la := by
      rw [← lT]
      exact pre_take a.p
    have z := a.r.tb.take T.length
    rw [e] at z
    exact ⟨e, z⟩
  refine ⟨fun ρ' σ' G' la' H' p a => ?_, fun ρ' σ' G' la' H' p a => p.elim, fun ρ' σ' G' la' H' p a => p.elim, fun y ρ' v σ' G' la' H' p a z => ?_, fun y ρ' σ' G' la' H' cls od p a xr => ?_⟩
  · exact q _ _ _ G' la H' p a.g List.prefix_rfl (tr a).2 (show Dp K G' .non .non from .non)
  · cases y with
    | dat d => exact q _ _ _ G' la H' p a.g List.prefix_rfl (tr a).2 z
    | clo _ _ _ => exact (show False from p).elim
    | ob j =>
      obtain ⟨b, hb, ev⟩ := z
      subst ev
      have p' : if j < T.length then Pd (.ob j) (ρ'.T.take T.length) else match ρ'.T[j]? with
        | some o => Pd (.ob T.length) (ρ'.T.take T.length ++ [o])
        | none => False := p
      by_cases hj : j < T.length
      · rw [if_pos hj] at p'
        refine q _ _ _ G' la H' p' a.g List.prefix_rfl (tr a).2 ⟨b, ?_, rfl⟩
        rw [← (tr a).1, List.getElem?_take, if_pos hj]
        exact hb
      · rw [if_neg hj] at p'
        split at p'
        · rename_i o ho
          obtain ⟨e1, r1⟩ := tr a
          have nb : b ∉ la := fun hm => by
            obtain ⟨i, hi, e2⟩ := List.getElem_of_mem hm
            have h1 : la'[i]? = some b := pre_at a.p (by rw [List.getElem?_eq_getElem hi, e2])
            obtain ⟨l1, x1⟩ := List.getElem?_eq_some_iff.mp h1
            obtain ⟨l2, x2⟩ := List.getElem?_eq_some_iff.mp hb
            have := (List.getElem_inj a.r.tb.nd).mp (x1.trans x2.symm)
            omega
          have lt2 : (ρ'.T.take T.length).length = T.length := by rw [← r1.len, lT]
          refine q _ _ _ G' (la ++ [b]) H' p' a.g (List.prefix_append _ _) ⟨r1.ext, ?_, by simp [lt2, lT], fun i c u h1 h2 => ?_, fun i c h1 => ?_, r1.nt, r1.tbl⟩ ⟨b, ?_, rfl⟩
          · rw [List.nodup_append]
            exact ⟨r1.nd, by simp, fun c hc d hd => by
              have e3 : d = b := by simpa using hd
              rw [e3]
              intro z
              exact nb (z ▸ hc)⟩
          · by_cases hi : i < la.length
            · rw [List.getElem?_append_left hi] at h1
              rw [List.getElem?_append_left (by omega)] at h2
              exact r1.tab i c u h1 h2
            · rw [List.getElem?_append_right (by omega)] at h1
              rw [List.getElem?_append_right (by omega), lt2, ← lT] at h2
              cases e4 : i - la.length with
              | zero =>
                rw [e4] at h1 h2
                have q1 := Option.some.inj h1
                have q2 := Option.some.inj h2
                subst q1 q2
                exact a.r.tb.tab j _ _ hb ho
              | succ m =>
                rw [e4] at h1
                simp at h1
          · by_cases hi : i < la.length
            · rw [List.getElem?_append_left hi] at h1
              exact r1.there i c h1
            · rw [List.getElem?_append_right (by omega)] at h1
              cases e4 : i - la.length with
              | zero =>
                rw [e4] at h1
                have q1 := Option.some.inj h1
                subst q1
                exact a.r.tb.there j _ hb
              | succ m =>
                rw [e4] at h1
                simp at h1
          · rw [← lT, List.getElem?_append_right (Nat.le_refl _)]
            simp
        · exact p'.elim
  · exact qx _ _ G' la H' cls od p a.g List.prefix_rfl (tr a).2 xr
theorem fn_D {x qual : Str} {st : Stmt} {f : Addr} {fd : FuncData} {N ps : List Str} {k n : Nat} {F : DF} {B : DS} (Fn : Fun K x qual st f fd) (S : FnScope N ps (defScope st)) (hn : ps.length = n)
    (hB : ∀ (cdv : Value) (A : Around) (outer : List PySem.Env) (s : Shared) (H : Hp) (E : XK), Room k (A.deeper (envOfC qual (defScope st) s.heap.objs.size f cdv)) →
      PSs (cxOf (L2.CX P w) P w K mg base N qual (defScope st) f cdv A outer s H E) (defBody st) (lS K (fun cls d _ H => E cls d H) B))
    (hF : ∀ (ss : List Sl) (T : List Ob) (Q : Sl → List Ob → Prop) (QX : Xn → List Ob → Prop), ss.length = n → F ss T Q QX → B (endsOf T.length Q QX) (startD N.length n ss T)) :
    FnOk P w K mg base (L2.CX P w) (k + 1) f fd ps (spD K n F) := by
  refine Fn.okX S (fun vs H Q E h => h.1.trans hn.symm) (fun cdv A outer s H vs Q E hr h => ⟨_, hB cdv A outer s H E hr, ?_⟩)
  obtain ⟨hl, ss, G, la, T, Pd, PX, rl, sr, fp, q, qx⟩ := h
  exact ⟨startD N.length n ss T, G, la, endsOf T.length Pd PX, start_re rfl (hl.symm.trans sr.len) rl sr, hF ss T Pd PX (sr.len.symm.trans hl) fp, ends_bk rl.len q qx⟩
/-- the same, the def's code object being known -/
theorem fn_DC {x qual : Str} {st : Stmt} {f : Addr} {N ps : List Str} {k n : Nat} {F : DF} {B : DS} {oc kV doc pm cdv ct : Value} {od an : Option Addr} {osl : Array (Option Value)}
    (lk : K.lookup f = some ⟨oc, od, .func (PySem.W.fnOf x qual (defArgs st) (defBody st) (defScope st) .none kV doc pm an cdv ct), osl⟩) (hcd : PySem.W.codeIn K cdv qual = true) (S : FnScope N ps (defScope st)) (hn : ps.length = n)
    (hB : ∀ (A : Around) (outer : List PySem.Env) (s : Shared) (H : Hp) (E : XK), Room k (A.deeper (envOfC qual (defScope st) s.heap.objs.size f cdv)) →
      PSs (cxOf (L2.CX P w) P w K mg base N qual (defScope st) f cdv A outer s H E) (defBody st) (lS K (fun cls d _ H => E cls d H) B))
    (hF : ∀ (ss : List Sl) (T : List Ob) (Q : Sl → List Ob → Prop) (QX : Xn → List Ob → Prop), ss.length = n → F ss T Q QX → B (endsOf T.length Q QX) (startD N.length n ss T)) :
    FnOk P w K mg base (L2.CX P w) (k + 1) f (PySem.W.fnOf x qual (defArgs st) (defBody st) (defScope st) .none kV doc pm an cdv ct) ps (spD K n F) := by
  refine fn_of lk hcd S (fun vs H Q E h => h.1.trans hn.symm) (fun A outer s H vs Q E hr h => ⟨_, hB A outer s H E hr, ?_⟩)
  obtain ⟨hl, ss, G, la, T, Pd, PX, rl, sr, fp, q, qx⟩ := h
  exact ⟨startD N.length n ss T, G, la, endsOf T.length Pd PX, start_re rfl (hl.symm.trans sr.len) rl sr, hF ss T Pd PX (sr.len.symm.trans hl) fp, ends_bk rl.len q qx⟩
end
end DL
set_option Elab.async false
set_option linter.all false
set_option maxRecDepth 100000
set_option maxHeartbeats 4000000
set_option autoImplicit false
/-! The data level: tuple * int of any size; enumerate of a tuple. -/
namespace DL
open PySem PySem.Spec PyProof.Rows L2

/-! ### tuple * int -/
theorem tmul_same (l : Addr) (items : Array Value) (n : Nat) (dd : Option Addr) (sl : Array (Option Value)) (x : Int) (u : Tok) (c0 : (decide (x < -(2 ^ 63)) || decide (x ≥ 2 ^ 63)) = false) (c1 : (items.isEmpty || x == 1) = true) :
    Meets (Builtin.«tuple.__mul__» ⟨[.ref l, .int x u], []⟩) (fun _ R s => s.heap.get? l = some { cls := .type "tuple", dict := dd, data := .seq items n, slots := sl } ∧ R (.ok (.ret (Value.ref l))) s) :=
  .of_wp fun prog w A R s h => by
    obtain ⟨hp, g, d, tk, os⟩ := s
    obtain ⟨hl, h⟩ := h
    have f1 := AutoSeq1.idx_int
    wp_walk using AutoSeq1.wpAny_loadPart' hl
    repeat (first
      | (refine wpAny_ite_false (decide_eq_false (by rw [c0]; exact Bool.false_ne_true)) ?_; wp_walk using AutoSeq1.wpAny_loadPart' hl)
      | (refine wpAny_ite_true (decide_eq_true c1) ?_; wp_walk using AutoSeq1.wpAny_loadPart' hl))
    exact ⟨_, rfl, h⟩
theorem tmul_none (l : Addr) (items : Array Value) (n : Nat) (dd : Option Addr) (sl : Array (Option Value)) (x : Int) (u : Tok) (c0 : (decide (x < -(2 ^ 63)) || decide (x ≥ 2 ^ 63)) = false) (c1 : (items.isEmpty || x == 1) = false) (c2 : (decide (x ≤ 0) || items.isEmpty) = true) :
    Meets (Builtin.«tuple.__mul__» ⟨[.ref l, .int x u], []⟩) (fun _ R s => s.heap.get? l = some { cls := .type "tuple", dict := dd, data := .seq items n, slots := sl } ∧
      R (.ok (.ret (Value.ref s.heap.objs.size))) { s with heap := s.heap.push { cls := Value.type "tuple", data := Data.seq #[] }, toks := s.toks }) :=
  .of_wp fun prog w A R s h => by
    obtain ⟨hp, g, d, tk, os⟩ := s
    obtain ⟨hl, h⟩ := h
    have f1 := AutoSeq1.idx_int
    wp_walk using AutoSeq1.wpAny_loadPart' hl
    repeat (first
      | (refine wpAny_ite_false (decide_eq_false (by rw [c0]; exact Bool.false_ne_true)) ?_; wp_walk using AutoSeq1.wpAny_loadPart' hl)
      | (refine wpAny_ite_false (decide_eq_false (by rw [c1]; exact Bool.false_ne_true)) ?_; wp_walk using AutoSeq1.wpAny_loadPart' hl)
      | (refine wpAny_ite_true (decide_eq_true c2) ?_; wp_walk using AutoSeq1.wpAny_loadPart' hl))
    exact ⟨_, rfl, h⟩
/-- t * k: k = 1 gives t itself, k ≤ 0 the empty one -/
def rRepA (K : PySem.W.Frag) : R2 := fun x y H Q => ∃ l k xs, x = .ref l ∧ y = .int k ∧ SqT K H l xs ∧ -1000 ≤ k ∧ k ≤ 1000 ∧ xs.length ≤ 1000 ∧ ((xs = [] ∨ k = 1) → Q (.ref l) H) ∧ (¬ (xs = [] ∨ k = 1) → ∀ p, H p = none → Q (.ref p) (upd H p (.tup (List.replicate k.toNat xs).flatten)))
section
variable {X : Cx}
theorem op_repA : OpR X (binaryOp .Mult) (rRepA X.K) := by
  intro pins s σ H x y v u Q I rx ry h
  obtain ⟨l, k, xs, rfl, rfl, hT, h0, h1, hz, q1, q2⟩ := h
  by_cases big : xs ≠ [] ∧ 2 ≤ k
  · exact op_repT pins s σ H _ _ v u Q I rx ry ⟨l, k, xs, rfl, rfl, hT, big.1, big.2, h1, hz, q2 fun z => z.elim big.1 fun e => by omega⟩
  cases rx
  obtain ⟨t, rfl⟩ := ry
  obtain ⟨its, r, ⟨⟨cls, dd, data, sl⟩, ho, hc, n, hd⟩, hs⟩ := I.tuple hT
  simp only at hc hd
  subst hc hd
  have nil_eq : its = [] ↔ xs = [] := r.nil_iff
  have c0 : (decide (k < -(2 ^ 63)) || decide (k ≥ 2 ^ 63)) = false := by
    rw [decide_eq_false (by omega), decide_eq_false (by omega)] <;> rfl
  have emp : its.toArray.isEmpty = decide (xs = []) := by
    cases its with
    | nil => rw [decide_eq_true (nil_eq.mp rfl)]; rfl
    | cons a b => rw [decide_eq_false fun z => nomatch nil_eq.mpr z]; rfl
  by_cases same : xs = [] ∨ k = 1
  · have c1 : (its.toArray.isEmpty || k == 1) = true := by
      rw [emp]
      rcases same with e | e
      · rw [decide_eq_true e, Bool.true_or]
      · rw [e]
        simp
    exact wpAny_binaryOp_repeat_ref (T := "tuple") (U := "int") (by decide) ⟨_, ho, rfl⟩ (fun s' => typeIs_int s' k t) noFill_tuple_mul F.fills_int_mul F.slot_int_rmul repeat_tuple F.slot_int_index.lookup
      (call_meets F.slot_int_rmul (typeIs_int s k t) F.entry_int_rmul (F.args_int_rmul_2 _ _) (int_rmul_tuple k t l its.toArray n dd sl)
        ⟨ho, rfl, ⟨_, ho, rfl⟩, call_meets F.slot_tuple_mul ⟨_, ho, rfl⟩ F.entry_tuple_mul (F.args_tuple_mul_2 _ _) (tmul_same l its.toArray n dd sl k t c0 c1) ⟨ho, ⟨.ref l, H, I, rfl, q1 same⟩⟩⟩)
  · have hk : k ≤ 0 := by
      have n1 : xs ≠ [] := fun e => same (.inl e)
      have n2 : ¬ 2 ≤ k := fun e => big ⟨n1, e⟩
      have n3 : k ≠ 1 := fun e => same (.inr e)
      omega
    have c1 : (its.toArray.isEmpty || k == 1) = false := by
      rw [emp, decide_eq_false fun e => same (.inl e), Bool.false_or]
      exact beq_eq_false_iff_ne.mpr fun e => same (.inr e)
    have c2 : (decide (k ≤ 0) || its.toArray.isEmpty) = true := by rw [decide_eq_true hk, Bool.true_or]
    have ek : (List.replicate k.toNat xs).flatten = [] := by
      rw [show k.toNat = 0 by omega]
      rfl
    rw [ek] at q2
    refine wpAny_binaryOp_repeat_ref (T := "tuple") (U := "int") (by decide) ⟨_, ho, rfl⟩ (fun s' => typeIs_int s' k t) noFill_tuple_mul F.fills_int_mul F.slot_int_rmul repeat_tuple F.slot_int_index.lookup
      (call_meets F.slot_int_rmul (typeIs_int s k t) F.entry_int_rmul (F.args_int_rmul_2 _ _) (int_rmul_tuple k t l its.toArray n dd sl)
        ⟨ho, rfl, ⟨_, ho, rfl⟩, call_meets F.slot_tuple_mul ⟨_, ho, rfl⟩ F.entry_tuple_mul (F.args_tuple_mul_2 _ _) (tmul_none l its.toArray n dd sl k t c0 c1 c2) ⟨ho, ?_⟩⟩)
    refine ⟨.ref s.heap.objs.size, _, I.laid (t' := s.toks) (o := .tup []) (fun b ob q => Heap.get?_push_of_some _ q) (Nat.le_refl _) ⟨Nat.zero_le _, [], .nil, IsTup.new _ _⟩, rfl, q2 same _ (I.hok.fresh (Nat.le_refl _))⟩
/-- * of ints, tuple * int -/
def rMulA (K : PySem.W.Frag) : R2 := fun x y H Q => rI CMulW (fun i j => .int (i * j)) x y H Q ∨ rRepA K x y H Q
theorem op_mulA : OpR X (binaryOp .Mult) (rMulA X.K) := op_mulW.or op_repA
end
def gMulA : D → D → (D → Prop) → Prop
  | .int i, .int j, P => CMulW i j ∧ P (.int (i * j))
  | .tup xs, .int k, P => (-1000 ≤ k ∧ k ≤ 1000 ∧ xs.length ≤ 1000) ∧ P (.tup (List.replicate k.toNat xs).flatten)
  | _, _, _ => False
theorem rep_len {xs : List V} {k : Int} (h1 : k ≤ 1000) (hz : xs.length ≤ 1000) : (List.replicate k.toNat xs).flatten.length ≤ sizeLine := by
  rw [PyProof.Rows.lm_len_rep_flat, sizeLine_eq]
  have a1 : k.toNat * xs.length ≤ 1000 * 1000 := Nat.mul_le_mul (by omega) hz
  omega
theorem g_mulA {K : PySem.W.Frag} : GOp K (rMulA K) gMulA := by
  intro G H x y d e P Q sm dx dy gp k
  unfold gMulA at gp
  split at gp
  · cases dx
    cases dy
    exact .inl ⟨_, _, rfl, rfl, gp.1, k _ _ _ _ gp.2 (Grow.refl sm) (.int _)⟩
  · cases dy
    cases dx with
    | tup a l r =>
      rename_i xs kk p vs
      obtain ⟨⟨b1, b2, b3⟩, p1⟩ := gp
      refine .inr ⟨_, kk, vs, rfl, rfl, same_t sm a, b1, b2, by rw [r.len]; exact b3, fun z => ?_, fun z q hq => ?_⟩
      · have e1 : (List.replicate kk.toNat xs).flatten = xs := by
          rcases z with z | z
          · rw [(nil_iff r).mp z]
            simp
          · rw [z]
            simp
        rw [e1] at p1
        exact k _ _ _ _ p1 (Grow.refl sm) (.tup a l r)
      · exact k _ _ _ _ p1 (Grow.new sm hq) (.tup (.inl (.inl upd_same)) (rep_len b2 (by rw [r.len]; exact b3)) ((r.rep _).up (Grow.new sm hq).g))
  · exact gp.elim

/-! ### enumerate of a tuple -/
section
variable {prog : Program} {w : World} {A : Around} {E : Value → Shared → Prop} {s : Shared}
theorem en_new (l : Addr) (items : Array Value) :
    Meets (Builtin.«enumerate.__new__» ⟨[.type "enumerate", .ref l], []⟩) (fun _ R s => s.heap.IsTuple l items ∧
      R (.ok (.ret (.ref (s.heap.push { cls := .type "tuple_iterator", data := .fields #[.ref l, .int 0 0] }).objs.size)))
        { s with heap := (s.heap.push { cls := .type "tuple_iterator", data := .fields #[.ref l, .int 0 0] }).push { cls := .type "enumerate", data := .fields #[.none, .bool false, .ref s.heap.objs.size, rawInt 0, .none, .none] } }) :=
  .of_wp fun prog w A R s h => by
    obtain ⟨hp, g, d, tk, os⟩ := s
    obtain ⟨hT, h⟩ := h
    have hsub := sub_enumerate
    have hL : Heap.IsTuple (Shared.heap ⟨hp, g, d, tk, os⟩) l items := hT
    wp_walk
    refine wpAny_stack_any fun st => wpAny_pure ?_
    split
    · rename_i c _ _ _ _ _
      cases (c == Value.type "enumerate") <;> (wp_walk using wpAny_pyIter_tuple hL; exact ⟨_, rfl, h⟩)
    · wp_walk using wpAny_pyIter_tuple hL
      exact ⟨_, rfl, h⟩
theorem en_call {l : Addr} {items : Array Value} {Q : Value → Shared → Prop} (hT : s.heap.IsTuple l items)
    (h : ∀ h', IsEnum h' (s.heap.objs.size + 1) s.heap.objs.size 0 .none → h'.IsTupleIter s.heap.objs.size l 0 → h'.objs.size = s.heap.objs.size + 2 → (∀ b o, s.heap.get? b = some o → h'.get? b = some o) → Q (.ref (s.heap.objs.size + 1)) { s with heap := h' }) :
    wpAny (model prog w) A (call (.type "enumerate") [.ref l]) Q E s := by
  refine callType_new F.called_enumerate (by decide) (F.typeCall_enumerate_1 _) (F.newCall_enumerate_1 _) (fun obj => F.args_object_init_2 obj _) F.entry_enumerate_new (en_new l items) ⟨hT, ?_⟩
  generalize e1 : s.heap.push { cls := .type "tuple_iterator", data := .fields #[.ref l, .int 0 0] } = h1
  have z1 : h1.objs.size = s.heap.objs.size + 1 := by rw [← e1]; exact Heap.size_push ..
  have g1 : h1.get? s.heap.objs.size = some { cls := .type "tuple_iterator", data := .fields #[.ref l, .int 0 0] } := by rw [← e1]; exact Heap.get?_push_size _ rfl
  have k1 : ∀ b o, s.heap.get? b = some o → h1.get? b = some o := fun b o x => by rw [← e1]; exact Heap.get?_push_of_some _ x
  have g2 : (h1.push { cls := .type "enumerate", data := .fields #[.none, .bool false, .ref s.heap.objs.size, rawInt 0, .none, .none] }).get? h1.objs.size = some _ := Heap.get?_push_size _ rfl
  rw [z1] at g2
  show _ ∧ _
  rw [z1]
  exact ⟨⟨_, g2, rfl⟩, h _ g2 ⟨_, Heap.get?_push_of_some _ g1, rfl, rfl⟩ (by rw [Heap.size_push, z1]) fun b o x => Heap.get?_push_of_some _ (k1 b o x)⟩
theorem en_item {e it l : Addr} {i : Nat} {items : Array Value} {x old : Value} {Q : Option Value → Shared → Prop} (he : IsEnum s.heap e it i old) (hit : s.heap.IsTupleIter it l i) (hl : s.heap.IsTuple l items) (hx : items[i]? = some x) (hne : e ≠ it)
    (hQ : ∀ h', IsEnumOut h' e it ((i : Int) + 1) x s.heap.objs.size → h'.IsTupleIter it l (i + 1) → h'.get? s.heap.objs.size = some { cls := .type "tuple", data := .seq #[.int i s.toks, x] } → h'.objs.size = s.heap.objs.size + 1 →
      (∀ b o, b ≠ e → b ≠ it → s.heap.get? b = some o → h'.get? b = some o) → Q (some (.ref s.heap.objs.size)) { s with heap := h', toks := s.toks + 1 }) :
    wpAny (model prog w) A (pyNext (.ref e)) Q E s := by
  have hT : s.TypeIs (.ref e) "enumerate" := ⟨_, he, rfl⟩
  have core : ∀ E' : Value → Shared → Prop, wpAny (model prog w) A.in1 (Builtin.«enumerate.__next__» ⟨[.ref e], []⟩) (fun fin s' => ∃ v, fin = .done (.ret v) ∧ Q (some v) s') E' s := by
    intro E'
    obtain ⟨hp, g, d, tk, os⟩ := s
    show wpAny _ _ (field (.ref e) 2 >>= _) _ _ _
    refine wpAny_bind (wpAny_field he rfl (x := .ref it) rfl ?_)
    refine wpAny_bind (RZ.nextOf_tuple_item hit hl hx fun m1 it1 b1 => ?_)
    have b1' : Heap.SameBut it hp m1 := b1
    have e1 : IsEnum m1 e it i old := (b1'.2 e hne).trans he
    show wpAny _ _ (field (.ref e) 3 >>= _) _ _ ⟨m1, g, d, tk, os⟩
    refine wpAny_bind (wpAny_field e1 rfl (x := rawInt i) rfl ?_)
    show wpAny _ _ (field (.ref e) 4 >>= _) _ _ ⟨m1, g, d, tk, os⟩
    refine wpAny_bind (wpAny_field e1 rfl (x := .none) rfl ?_)
    show wpAny _ _ (mkInt i >>= _) _ _ ⟨m1, g, d, tk, os⟩
    refine wpAny_bind (wpAny_mkInt ?_)
    show wpAny _ _ (setField (.ref e) 3 (rawInt ((i : Int) + 1)) >>= _) _ _ ⟨m1, g, d, tk + 1, os⟩
    refine wpAny_bind (wpAny_setField_rec e1 (by simp) fun m2 e2 b2 => ?_)
    have b2' : Heap.SameBut e m1 m2 := b2
    have e2' : IsEnum m2 e it ((i : Int) + 1) old := e2
    show wpAny _ _ (setField (.ref e) 4 .none >>= _) _ _ ⟨m2, g, d, tk + 1, os⟩
    refine wpAny_bind (wpAny_setField_rec e2' (by simp) fun m3 e3 b3 => ?_)
    have b3' : Heap.SameBut e m2 m3 := b3
    have e3' : IsEnum m3 e it ((i : Int) + 1) old := e3
    show wpAny _ _ (newTuple [.int i tk, x] >>= _) _ _ ⟨m3, g, d, tk + 1, os⟩
    refine wpAny_bind (wpAny_newTuple ?_)
    have sz3 : m3.objs.size = hp.objs.size := by rw [b3'.1, b2'.1, b1'.1]
    have elt : e < hp.objs.size := Heap.lt_size he
    have up3 : ∀ b o, b ≠ e → b ≠ it → hp.get? b = some o → m3.get? b = some o := fun b o n1 n2 q => b3'.extBut b o n1 (b2'.extBut b o n1 (b1'.extBut b o n2 q))
    have it3 : m3.IsTupleIter it l (i + 1) := (it1.extBut b2'.extBut (Ne.symm hne)).extBut b3'.extBut (Ne.symm hne)
    generalize q4 : m3.push { cls := .type "tuple", data := .seq #[.int i tk, x] } = m4
    have e4 : IsEnum m4 e it ((i : Int) + 1) old := by rw [← q4]; exact Heap.get?_push_of_some _ e3'
    have t4 : m4.get? hp.objs.size = some { cls := .type "tuple", data := .seq #[.int i tk, x] } := by rw [← q4, ← sz3]; exact Heap.get?_push_size _ rfl
    have sz4 : m4.objs.size = hp.objs.size + 1 := by rw [← q4, Heap.size_push, sz3]
    have up4 : ∀ b o, b ≠ e → b ≠ it → hp.get? b = some o → m4.get? b = some o := fun b o n1 n2 q => by rw [← q4]; exact Heap.get?_push_of_some _ (up3 b o n1 n2 q)
    have it4 : m4.IsTupleIter it l (i + 1) := by
      obtain ⟨o, ho, rr⟩ := it3
      exact ⟨o, by rw [← q4]; exact Heap.get?_push_of_some _ ho, rr⟩
    show wpAny _ _ (Builtin.SmallTypes.ownedTupleIsFree (.ref e) >>= _) _ _ ⟨m4, g, d, tk + 1, os⟩
    rw [sz3]
    refine wpAny_bind ?_
    unfold Builtin.SmallTypes.ownedTupleIsFree
    refine wpAny_bind (wpAny_field e4 rfl (x := .none) rfl (wpAny_pure ?_))
    simp only [if_true]
    refine wpAny_bind (wpAny_rule ?_)
    refine wpAny_bind (wpAny_field e4 rfl (x := old) rfl ?_)
    refine wpAny_bind (wpAny_setField_rec e4 (by simp) fun m5 e5 b5 => ?_)
    have b5' : Heap.SameBut e m4 m5 := b5
    have e5' : IsEnum m5 e it ((i : Int) + 1) x := e5
    show wpAny _ _ (Builtin.SmallTypes.ownedTupleHandOut (.ref e) (.ref hp.objs.size) >>= _) _ _ ⟨m5, g, d, tk + 1, os⟩
    refine wpAny_bind ?_
    unfold Builtin.SmallTypes.ownedTupleHandOut
    refine wpAny_bind (wpAny_setField_rec e5' (by simp) fun m6 e6 b6 => ?_)
    have b6' : Heap.SameBut e m5 m6 := b6
    have e6' : IsEnumOut m6 e it ((i : Int) + 1) x hp.objs.size := e6
    refine wpAny_setField_rec e6' (by simp) fun m7 e7 b7 => ?_
    have b7' : Heap.SameBut e m6 m7 := b7
    have e7' : IsEnumOut m7 e it ((i : Int) + 1) x hp.objs.size := e7
    have up7 : ∀ b o, b ≠ e → m4.get? b = some o → m7.get? b = some o := fun b o n q => b7'.extBut b o n (b6'.extBut b o n (b5'.extBut b o n q))
    refine wpAny_bind (wpAny_letGo (wpAny_pure ⟨_, rfl, hQ m7 e7' (it4.at fun o q => up7 it o (Ne.symm hne) q) (up7 _ _ (Nat.ne_of_gt elt) t4) (by rw [b7'.1, b6'.1, b5'.1, sz4]) fun b o n1 n2 q => up7 b o n1 (up4 b o n1 n2 q)⟩))
  unfold pyNext
  refine wpAny_bind (wpAny_attempt (wpAny_callSpecial?_slot (name := Str.ofString "__next__") hT F.slot_enumerate_next (wpAny_call_entry F.slot_enumerate_next hT F.entry_enumerate_next ?_ (F.args_enumerate_next_1 _))))
  exact wpAny_mono (core _) (fun fin s' ⟨v, e1, q⟩ => ⟨v, e1, wpAny_pure q⟩) fun _ _ z => z
theorem en_end {e it l : Addr} {i : Nat} {items : Array Value} {old : Value} {Q : Option Value → Shared → Prop} (hh : A.handled = none) (he : IsEnum s.heap e it i old) (hit : s.heap.IsTupleIter it l i) (hl : s.heap.IsTuple l items) (hx : items[i]? = none)
    (hQ : ∀ h', Heap.ExtBut it s.heap h' → Q none { s with heap := h' }) : wpAny (model prog w) A (pyNext (.ref e)) Q E s := by
  have hT : s.TypeIs (.ref e) "enumerate" := ⟨_, he, rfl⟩
  unfold pyNext
  refine wpAny_bind (wpAny_attempt (wpAny_callSpecial?_slot (name := Str.ofString "__next__") hT F.slot_enumerate_next (wpAny_call_entry F.slot_enumerate_next hT F.entry_enumerate_next ?_ (F.args_enumerate_next_1 _))))
  show wpAny _ _ (field (.ref e) 2 >>= _) _ _ _
  refine wpAny_bind (wpAny_field he rfl (x := .ref it) rfl ?_)
  refine wpAny_bind (RZ.nextOf_tuple_end hh hit hl hx fun h' x he' ⟨o, ho, hc⟩ => ?_)
  exact wpAny_bind (wpAny_isInstance (T := "StopIteration") (b := true) ⟨o, ho, hc⟩ isSubtype_stop (wpAny_pure (hQ _ he')))
end
/-- the tuple at a, each item with its number in a new pair -/
def IteT (K : PySem.W.Frag) (a : Addr) : It :=
  ⟨fun i H => ∃ (xs : List V) (x : V), SqT K H a xs ∧ xs[i]? = some x, fun i H v H' => ∃ T x, v = .ref T ∧ H T = none ∧ H' = upd H T (.tup [.int (i : Nat), x]) ∧ ∀ xs, SqT K H a xs → xs[i]? = some x, fun i H => ∃ xs : List V, SqT K H a xs ∧ xs.length ≤ i⟩
theorem en_turn {P : Program} {w : World} {K : PySem.W.Frag} {elts : List Expr} {kk : Nat} {tpos : Pos} (a e it : Addr) : Turn P w K (.Tuple elts kk tpos) (IteT K a) [e, it] e (fun i h => (∃ old, IsEnum h e it ((i : Nat) : Int) old) ∧ h.IsTupleIter it a i ∧ e ≠ it) where
  mem := by simp
  obj := fun i h st b hb => by
    obtain ⟨⟨old, he⟩, ⟨o, ho, hc, hd⟩, _⟩ := st
    rcases (show b = e ∨ b = it by simpa using hb) with rfl | rfl
    · exact ⟨_, he, fun v q => nomatch q⟩
    · exact ⟨o, ho, fun v q => by rw [hd] at q; cases q⟩
  keep := fun i h h' ⟨⟨old, he⟩, hi, hne⟩ k => ⟨⟨old, k e (by simp) _ he⟩, hi.at fun o q => k it (by simp) o q, hne⟩
  item := by
    intro X hP hw hK hc i pins s σ H E I hf st hg
    subst hP hw hK
    obtain ⟨⟨old, he⟩, hit, hne⟩ := st
    obtain ⟨xs, x, hq, hx⟩ := hg
    obtain ⟨its, rv, p, hz⟩ := I.tuple hq
    obtain ⟨u, hu, ru⟩ := rv.get hx
    have hel : e < s.heap.objs.size := Heap.lt_size he
    have hil : it < s.heap.objs.size := by obtain ⟨_, q, _⟩ := hit; exact Heap.lt_size q
    refine en_item he hit (show s.heap.IsTuple a its.toArray from p) (x := u) (by simpa using hu) hne fun h1 ho hit' hT hsz hk => ⟨_, rfl, wpAny_letOwnedTupleGo_enum (s := { s with heap := h1, toks := s.toks + 1 }) ho fun h2 he' sb => ?_⟩
    have hT2 : h2.get? s.heap.objs.size = some { cls := .type "tuple", data := .seq #[.int i s.toks, u] } := (sb.2 _ (Nat.ne_of_gt hel)).trans hT
    have new : ObjOk X.prog X.w (upd H s.heap.objs.size (.tup [.int (i : Nat), x])) h2 s.heap.objs.size (.tup [.int (i : Nat), x]) := ⟨by show 2 ≤ sizeLine; decide, [.int i s.toks, u], .cons ⟨_, rfl⟩ (.cons ru .nil), ⟨_, hT2, rfl, _, rfl⟩⟩
    have I1 : Inv X pins σ (upd H s.heap.objs.size (.tup [.int (i : Nat), x])) { s with heap := h2, toks := s.toks + 1 } :=
      I.turnedNew (ch := [e, it]) (fun b ob hb q => (sb.2 b (fun z => hb (by simp [z]))).trans (hk b ob (fun z => hb (by simp [z])) (fun z => hb (by simp [z])) q)) hf (Nat.le_refl _) new
    refine ⟨.ref s.heap.objs.size, _, I1, rfl, ⟨_, x, rfl, I.hok.fresh (Nat.le_refl _), rfl, fun ys hy => by rw [I.tuple_inj hy hq]; exact hx⟩, ⟨⟨u, ?_⟩, hit'.at fun o q => (sb.2 it (Ne.symm hne)).trans q, hne⟩, fun b hb => ?_⟩
    · have e1 : ((i + 1 : Nat) : Int) = (i : Int) + 1 := by omega
      rw [e1]
      exact he'
    · have hb' : b < s.heap.objs.size := by
        rcases (show b = e ∨ b = it by simpa using hb) with rfl | rfl
        · exact hel
        · exact hil
      rw [upd_ne (Nat.ne_of_lt hb')]
      exact (hf b hb).1
  done := by
    intro X hP hw hK hc i pins s σ H E I hf st hg
    subst hP hw hK
    obtain ⟨⟨old, he⟩, hit, hne⟩ := st
    obtain ⟨xs, hq, hx⟩ := hg
    obtain ⟨its, rv, p, hz⟩ := I.tuple hq
    obtain ⟨f0, f1, f2, f3, f4, f5⟩ := hf it (by simp)
    have hl := rv.length
    exact en_end (I.ok.hd hc) he hit (show s.heap.IsTuple a its.toArray from p) (by simp; omega) fun h' eb => ⟨rfl, I.turned (t' := s.toks) (fun b o hb q => eb b o hb q) f0 f1 f3 f4 f5⟩
  self := fun A i s Q E ⟨⟨_, he⟩, _⟩ h => wpAny_pyIter_enum he h
/-- enumerate of a list, of a tuple -/
def iEnA (K : PySem.W.Frag) (ta : TA) : TI := fun σ H R => ta σ H fun vs H1 => ∃ a xs, vs = [.ref a] ∧ ((SqL K H1 a xs ∧ R (Ite K a) H1) ∨ (SqT K H1 a xs ∧ R (IteT K a) H1))
theorem pi_enA {X : Cx} {e : Expr} {ta : TA} {p pos tpos : Pos} {elts : List Expr} {kk : Nat} (hg : Gl X "enumerate") (hm : X.mg "enumerate" = none) (ha : PA X [e] ta) (hs : starEach [e] X.env = [(false, eval e X.env)] := by rfl) : PI X (.Tuple elts kk tpos) (.Call (.Name "enumerate" p) [e] [] pos) (iEnA X.K ta) := by
  constructor
  intro pins s σ H R I h
  refine Call_ (ld_blt I hg hm boot_enumerate (PyProof.Rows.callWith_type1 (thn (ha.run pos pins s σ H _ I h) ?_) hs rfl))
  rintro us s1 ⟨vs, H1, I1, r1, a, xs, rfl, q⟩
  cases r1 with
  | cons r rr =>
    cases rr
    cases r
    have fp : ∀ b ∈ [s1.heap.objs.size + 1, s1.heap.objs.size], FpOk X pins H1 b := fun b hb => by
      have hle : s1.heap.objs.size ≤ b := by
        rcases (show b = s1.heap.objs.size + 1 ∨ b = s1.heap.objs.size by simpa using hb) with z | z <;> omega
      exact I1.fpOk hle (I1.hok.fresh hle)
    rcases q with ⟨hq, q⟩ | ⟨hq, q⟩
    · obtain ⟨its, rv, p', hz⟩ := I1.list hq
      exact call_enumerate_list p'.isList fun h' he hit hsz hk => wpAny_pyIter_enum he ⟨_, _, _, _, H1, rfl, I1.kept (t' := s1.toks) hk, turn_enum a (s1.heap.objs.size + 1) s1.heap.objs.size, ⟨⟨.none, he⟩, hit, Nat.succ_ne_self _⟩, fp, q⟩
    · obtain ⟨its, rv, p', hz⟩ := I1.tuple hq
      exact en_call (show s1.heap.IsTuple a its.toArray from p') fun h' he hit hsz hk => wpAny_pyIter_enum he ⟨_, _, _, _, H1, rfl, I1.kept (t' := s1.toks) hk, en_turn a (s1.heap.objs.size + 1) s1.heap.objs.size, ⟨⟨.none, he⟩, hit, Nat.succ_ne_self _⟩, fp, q⟩
/-- pairs of a number and an item -/
def enumD : Nat → List D → List D
  | _, [] => []
  | n, x :: xs => .tup [.int n, x] :: enumD (n + 1) xs
theorem enumD_len : ∀ (xs : List D) (n : Nat), (enumD n xs).length = xs.length
  | [], _ => rfl
  | _ :: xs, n => congrArg (· + 1) (enumD_len xs (n + 1))
theorem enumD_get : ∀ (xs : List D) (n i : Nat) (d : D), (enumD n xs)[i]? = some d → ∃ x, xs[i]? = some x ∧ d = .tup [.int ((n + i : Nat) : Int), x]
  | [], n, i, d, h => by simp [enumD] at h
  | x :: xs, n, 0, d, h => ⟨x, rfl, (Option.some.inj h).symm⟩
  | x :: xs, n, i + 1, d, h => by
    obtain ⟨y, h1, h2⟩ := enumD_get xs (n + 1) i d h
    exact ⟨y, h1, by rw [h2, show n + 1 + i = n + (i + 1) by omega]⟩
def dEnum (fa : DA) : DI := fun X ρ Q => fa X ρ fun ss ρ' => match ss with
  | [.dat (.tup a)] => Q (enumD 0 a) ρ'
  | [.dat (.lst a)] => Q (enumD 0 a) ρ'
  | _ => False
theorem di_enum {X : Cx} {W : WX} {e : Expr} {fa : DA} {p pos tpos : Pos} {elts : List Expr} {kk : Nat} (hm : X.mg "enumerate" = none) (ha : PA X [e] (lA X.K W fa)) (hg : Gl X "enumerate" := by rfl) (hs : starEach [e] X.env = [(false, eval e X.env)] := by rfl) :
    PI X (.Tuple elts kk tpos) (.Call (.Name "enumerate" p) [e] [] pos) (lI X.K W (dEnum fa)) :=
  pi_imp (pi_enA hg hm ha hs) fun σ H R ⟨ρ, G, la, P, XX, r, h, q, xo⟩ => ⟨ρ, G, la, _, XX, r, h, fun xs ρ1 vs G1 la1 H1 p1 a1 z1 => by
    have p1' : (match (generalizing := false) xs with
      | [.dat (.tup a)] => P (enumD 0 a) ρ1
      | [.dat (.lst a)] => P (enumD 0 a) ρ1
      | _ => False) := p1
    split at p1'
    · rename_i da
      cases z1 with
      | cons a b =>
        cases b
        cases (show Dp _ _ _ (.tup da) from a) with
        | tup ha lz ra =>
          rename_i pa va
          refine ⟨pa, va, rfl, .inr ⟨same_t a1.r.ext ha, q _ _ _ _ _ _ p1' a1 ⟨fun i H hi e => ?_, fun H e => ?_, fun i G' H x H' e e' y z hz => ?_⟩ ?_⟩⟩
          · rw [enumD_len] at hi
            have h1 : i < va.length := by rw [ra.len]; exact hi
            exact ⟨va, va[i], same_t e ha, by simp [h1]⟩
          · exact ⟨va, same_t e ha, by rw [enumD_len, ra.len]; exact Nat.le_refl _⟩
          · obtain ⟨T, u, rfl, hT, rfl, f1⟩ := y
            obtain ⟨dx, h1, rfl⟩ := enumD_get _ _ _ _ hz
            obtain ⟨d1, g1, k1⟩ := ra.getV (f1 va (same_t (e.trans e') ha))
            rw [h1] at g1
            have q1 := Option.some.inj g1
            subst q1
            rw [Nat.zero_add]
            exact pair_dp e' hT (.int _) (k1.up e)
          · rw [enumD_len, ← ra.len]
            exact Nat.le_trans lz line62
    · rename_i da
      cases z1 with
      | cons a b =>
        cases b
        cases (show Dp _ _ _ (.lst da) from a) with
        | lst ha lz ra =>
          rename_i pa va
          refine ⟨pa, va, rfl, .inl ⟨SqL.of (a1.r.ext _ _ ha), q _ _ _ _ _ _ p1' a1 ⟨fun i H hi e => ?_, fun H e => ?_, fun i G' H x H' e e' y z hz => ?_⟩ ?_⟩⟩
          · rw [enumD_len] at hi
            have h1 : i < va.length := by rw [ra.len]; exact hi
            exact ⟨va, va[i], SqL.of (e _ _ ha), by simp [h1]⟩
          · exact ⟨va, SqL.of (e _ _ ha), by rw [enumD_len, ra.len]; exact Nat.le_refl _⟩
          · obtain ⟨T, u, rfl, hT, rfl, f1⟩ := y
            obtain ⟨dx, h1, rfl⟩ := enumD_get _ _ _ _ hz
            obtain ⟨d1, g1, k1⟩ := ra.getV (f1 va (SqL.of (e' _ _ (e _ _ ha))))
            rw [h1] at g1
            have q1 := Option.some.inj g1
            subst q1
            rw [Nat.zero_add]
            exact pair_dp e' hT (.int _) (k1.up e)
          · rw [enumD_len, ← ra.len]
            exact Nat.le_trans lz line62
    · exact p1'.elim, xo⟩
end DL
set_option Elab.async false
set_option linter.all false
set_option maxRecDepth 100000
set_option maxHeartbeats 4000000
set_option autoImplicit false
/-! The data level: what was left: - of ints, is of bools, list * int, max with a default, fresh lists, three names at once; names of built-ins. -/
namespace DL
open PySem PySem.Spec PyProof.Rows L2

theorem bt_int : bootBuiltins "int" = some (.type "int") := by decide +kernel
theorem bt_bool : bootBuiltins "bool" = some (.type "bool") := by decide +kernel
theorem bt_str : bootBuiltins "str" = some (.type "str") := by decide +kernel
theorem bt_tuple : bootBuiltins "tuple" = some (.type "tuple") := by decide +kernel
theorem bt_list : bootBuiltins "list" = some (.type "list") := by decide +kernel
theorem bt_isinstance : bootBuiltins "isinstance" = some (.builtin "isinstance") := by decide +kernel
theorem bt_abs : bootBuiltins "abs" = some (.builtin "abs") := by decide +kernel
theorem bt_max : bootBuiltins "max" = some (.builtin "max") := by decide +kernel
theorem bt_min : bootBuiltins "min" = some (.builtin "min") := by decide +kernel

section
variable {X : Cx} {W : WX}
theorem de_neg {a : Expr} {fa : DE} {pos : Pos} (ha : PE X a (lE X.K W fa)) : PE X (.UnaryOp .USub a pos) (lE X.K W (dUn gNeg fa)) := de_un un_neg (fun G H x d P Q sm dx gp k => by
  unfold gNeg at gp
  split at gp
  · cases dx
    exact ⟨_, rfl, k _ _ _ _ gp (Grow.refl sm) (.int _)⟩
  · exact gp.elim) ha
end
/-! ### is, is not of bools -/
def gIsB : D → D → (D → Prop) → Prop
  | .bl a, .bl b, P => P (.bl (decide (a = b)))
  | _, _, _ => False
def gNotB : D → D → (D → Prop) → Prop
  | .bl a, .bl b, P => P (.bl (!decide (a = b)))
  | _, _, _ => False
theorem g_isB {K : PySem.W.Frag} : GOp K rIsB gIsB := by
  intro G H x y d e P Q sm dx dy gp k
  unfold gIsB at gp
  split at gp
  · cases dx
    cases dy
    exact ⟨_, _, rfl, rfl, k _ _ _ _ gp (Grow.refl sm) (.bl _)⟩
  · exact gp.elim
theorem g_notB {K : PySem.W.Frag} : GOp K rNotB gNotB := by
  intro G H x y d e P Q sm dx dy gp k
  unfold gNotB at gp
  split at gp
  · cases dx
    cases dy
    exact ⟨_, _, rfl, rfl, k _ _ _ _ gp (Grow.refl sm) (.bl _)⟩
  · exact gp.elim
/-! ### * : ints, tuples, lists -/
def rMulB (K : PySem.W.Frag) : R2 := fun x y H Q => rMulA K x y H Q ∨ rRep x y H Q
theorem op_mulB {X : Cx} : OpR X (binaryOp .Mult) (rMulB X.K) := op_mulA.or op_rep
def gMulB : D → D → (D → Prop) → Prop
  | .int i, .int j, P => CMulW i j ∧ P (.int (i * j))
  | .tup xs, .int k, P => (-1000 ≤ k ∧ k ≤ 1000 ∧ xs.length ≤ 1000) ∧ P (.tup (List.replicate k.toNat xs).flatten)
  | .lst xs, .int k, P => (-1000 ≤ k ∧ k ≤ 1000 ∧ xs.length ≤ 1000) ∧ P (.lst (List.replicate k.toNat xs).flatten)
  | _, _, _ => False
theorem g_mulB {K : PySem.W.Frag} : GOp K (rMulB K) gMulB := by
  intro G H x y d e P Q sm dx dy gp k
  unfold gMulB at gp
  split at gp
  · exact .inl (g_mulA G H x y _ _ P Q sm dx dy gp k)
  · exact .inl (g_mulA G H x y _ _ P Q sm dx dy gp k)
  · cases dy
    cases dx with
    | lst a l r =>
      rename_i xs kk p vs
      obtain ⟨⟨b1, b2, b3⟩, p1⟩ := gp
      have lz := rep_len (xs := vs) b2 (by rw [r.len]; exact b3)
      refine .inr ⟨_, kk, vs, rfl, rfl, sm _ _ a, by omega, by omega, ?_, fun q hq => k _ _ _ _ p1 (Grow.new sm hq) (.lst upd_same lz ((r.rep _).up (Grow.new sm hq).g))⟩
      rw [PyProof.Rows.lm_len_rep_flat, Nat.mul_comm] at lz
      exact lz
  · exact gp.elim
/-! ### a list that may be changed, by list(..) -/
def dNewOf (fa : DA) : DL' := fun X ρ Q => fa X ρ fun xs ρ' => match xs with
  | [.dat (.tup ds)] => Q (.ob ρ'.T.length) ⟨ρ'.T ++ [.lst ds], ρ'.s⟩
  | [.dat (.lst ds)] => Q (.ob ρ'.T.length) ⟨ρ'.T ++ [.lst ds], ρ'.s⟩
  | _ => False
section
variable {X : Cx} {W : WX}
theorem newOf_core {K : PySem.W.Frag} {G1 H1 : Hp} {la1 : List Addr} {σ : L2.St} {ρ1 : Env} {p : Addr} {vs : List V} {ds : List D} (r : Re K G1 H1 la1 σ ρ1) (hp : H1 p = none) (l : vs.length ≤ sizeLine) (d : Dps K G1 vs ds) :
    Re K G1 (upd H1 p (.lst vs)) (la1 ++ [p]) σ ⟨ρ1.T ++ [.lst ds], ρ1.s⟩ ∧ SlR K G1 (la1 ++ [p]) (.ref p) (.ob ρ1.T.length) := by
  refine ⟨⟨r.tb.fresh hp l d, r.sl, fun j y hj => ?_⟩, p, ?_, rfl⟩
  · obtain ⟨u, hu, ru⟩ := r.at_ j y hj
    exact ⟨u, hu, ru.grow (Same.refl _) (List.prefix_append _ _)⟩
  · rw [← r.tb.len, List.getElem?_append_right (Nat.le_refl _)]
    simp
theorem dl_listN {e : Expr} {p pos : Pos} {fa : DA} (hm : X.mg "list" = none) (ha : PA X [e] (lA X.K W fa)) (hgl : Gl X "list" := by rfl) (he : starEach [e] X.env = (false, eval e X.env) :: starEach [] X.env := by rfl) (hpl : (backTo pos (starEach [] X.env)).any (·.1) = false := by rfl) :
    PE X (.Call (.Name "list" p) [e] [] pos) (lL X.K W (dNewOf fa)) :=
  pe_imp (pe_callTy call_list_of hgl hm bt_list ha (by decide) (by decide) he hpl) fun σ H Q ⟨ρ, G, la, P, XX, re, h, q, xo⟩ =>
  ⟨ρ, G, la, _, XX, re, h, fun xs ρ1 vs G1 la1 H1 p1 a1 z1 => by
    have p1' : (match (generalizing := false) xs with
      | [.dat (.tup ds)] => P (.ob ρ1.T.length) ⟨ρ1.T ++ [.lst ds], ρ1.s⟩
      | [.dat (.lst ds)] => P (.ob ρ1.T.length) ⟨ρ1.T ++ [.lst ds], ρ1.s⟩
      | _ => False) := p1
    split at p1'
    · rename_i ds
      cases z1 with
      | cons a b =>
        cases b
        cases (show Dp _ _ _ (.tup ds) from a) with
        | tup ha l r =>
          refine ⟨_, _, rfl, .inr (same_t a1.r.ext ha), fun p hp => ?_⟩
          obtain ⟨c1, c2⟩ := newOf_core a1.r hp l r
          exact q _ _ _ G1 (la1 ++ [p]) _ p1' ⟨a1.g, a1.p.trans (List.prefix_append _ _), c1⟩ c2
    · rename_i ds
      cases z1 with
      | cons a b =>
        cases b
        cases (show Dp _ _ _ (.lst ds) from a) with
        | lst ha l r =>
          refine ⟨_, _, rfl, .inl (SqL.of (a1.r.ext _ _ ha)), fun p hp => ?_⟩
          obtain ⟨c1, c2⟩ := newOf_core a1.r hp l r
          exact q _ _ _ G1 (la1 ++ [p]) _ p1' ⟨a1.g, a1.p.trans (List.prefix_append _ _), c1⟩ c2
    · exact p1'.elim, xo⟩
/-- three names at once -/
theorem ds_par3 (i j l : Nat) {x y z : Str} {a b c : Expr} {f g h : DL'} {px py pz pt pos : Pos} {kt k2 pt2} (hc : X.calm = true) (hN : X.N.Nodup) (ha : PA X [a, b, c] (lA X.K W (dCons f (dCons g (dCons h dNil))))) (hw : swappedStores [.Tuple [.Name x px, .Name y py, .Name z pz] kt pt] (.Tuple [a, b, c] k2 pt2) X.env = pure (some [x, y, z]) := by rfl)
    (hi : X.N[i]? = some x := by rfl) (hj : X.N[j]? = some y := by rfl) (hl : X.N[l]? = some z := by rfl) (hij : i ≠ j := by decide) (hil : i ≠ l := by decide) (hjl : j ≠ l := by decide) (hx : X.env.scope.names.lookup x = some .local := by rfl) (hy : X.env.scope.names.lookup y = some .local := by rfl) (hz : X.env.scope.names.lookup z = some .local := by rfl)
    (hs : swapsWithSole [.Tuple [.Name x px, .Name y py, .Name z pz] kt pt] (.Tuple [a, b, c] k2 pt2) pos.line X.env = pure false := by rfl) : PS X (.Assign [.Tuple [.Name x px, .Name y py, .Name z pz] kt pt] (.Tuple [a, b, c] k2 pt2) pos) (lS X.K W (sPar3 i j l f g h)) :=
  ps_imp (ps_par3 hc hN hi hj hl hij hil hjl hx hy hz ha hw hs) fun D σ H ⟨ρ, G, la, E, r, hh, b⟩ => ⟨ρ, G, la, fun xs ρ2 => ∃ u v w, xs = [u, v, w] ∧ E.nx ⟨ρ2.T, ((ρ2.s.set i (some u)).set j (some v)).set l (some w)⟩, _, r, by
    show f E.xn ρ fun x ρ1 => g E.xn ρ1 fun y ρ2 => h E.xn ρ2 fun z ρ3 => ∃ u v w, [x, y, z] = [u, v, w] ∧ E.nx ⟨ρ3.T, ((ρ3.s.set i (some u)).set j (some v)).set l (some w)⟩
    have e : (fun (x : Sl) (ρ1 : Env) => g E.xn ρ1 fun y ρ2 => h E.xn ρ2 fun z ρ3 => ∃ u v w, [x, y, z] = [u, v, w] ∧ E.nx ⟨ρ3.T, ((ρ3.s.set i (some u)).set j (some v)).set l (some w)⟩) = fun x ρ1 => g E.xn ρ1 fun y ρ2 => h E.xn ρ2 fun z ρ3 => E.nx ⟨ρ3.T, ((ρ3.s.set i (some x)).set j (some y)).set l (some z)⟩ := by
      funext x ρ1
      congr 1
      funext y ρ2
      congr 1
      funext z ρ3
      apply propext
      constructor
      · rintro ⟨u, v, w, h1, h2⟩
        cases h1
        exact h2
      · intro h2
        exact ⟨x, y, z, rfl, h2⟩
    rw [e]
    exact hh, fun xs ρ2 vs G2 la2 H2 p a z => by
    obtain ⟨u, v, w, rfl, p⟩ := p
    cases z with
    | cons z1 z =>
      cases z with
      | cons z2 z =>
        cases z with
        | cons z3 z =>
          cases z
          exact ⟨_, _, _, rfl, b.nx _ _ _ _ _ p ⟨a.g, a.p, ((a.r.set z1).set (ρ := ⟨ρ2.T, ρ2.s.set i (some u)⟩) z2).set (ρ := ⟨ρ2.T, (ρ2.s.set i (some u)).set j (some v)⟩) z3⟩⟩, b.xn⟩
end
end DL
set_option Elab.async false
set_option linter.all false
set_option maxRecDepth 100000
set_option maxHeartbeats 4000000
set_option autoImplicit false
/-! The data level: lemmas for walking by simp. -/
namespace DL
open PySem PySem.Spec PyProof.Rows L2
theorem valK_dat (Q : D → Env → Prop) (d : D) (ρ : Env) : @valK ⟨Q⟩ (.dat d) ρ = Q d ρ := rfl
theorem valK_ob (Q : D → Env → Prop) (k : Nat) (ρ : Env) : @valK ⟨Q⟩ (.ob k) ρ = match ρ.T[k]? with
    | some (.lst xs) => Q (.lst xs) ⟨ρ.T.set k .dead, ρ.s⟩
    | _ => False := rfl
/-! ### places of short lists -/
section
variable {α : Type}
theorem atI_nat (xs : List α) (i : Nat) : atI xs (i : Int) = xs[i]? := by
  unfold atI ixN
  by_cases h : (i : Int) < xs.length
  · rw [if_pos (by omega), if_pos h]
    rfl
  · rw [if_pos (by omega), if_neg h]
    show none = _
    rw [List.getElem?_eq_none (by omega)]
theorem atI_0 (x : α) (r : List α) : atI (x :: r) 0 = some x := atI_nat (x :: r) 0
theorem atI_1 (x y : α) (r : List α) : atI (x :: y :: r) 1 = some y := atI_nat (x :: y :: r) 1
theorem atI_2 (x y z : α) (r : List α) : atI (x :: y :: z :: r) 2 = some z := atI_nat (x :: y :: z :: r) 2
theorem atI_last (xs : List α) (x : α) : atI (xs ++ [x]) (-1) = some x := by
  unfold atI ixN
  rw [if_neg (by omega), if_pos (by simp; omega)]
  show (xs ++ [x])[(((xs ++ [x]).length : Int) + -1).toNat]? = some x
  rw [show (((xs ++ [x]).length : Int) + -1).toNat = xs.length by simp; omega]
  simp
theorem atI_pos {xs : List α} {i : Int} (h : 0 ≤ i) : atI xs i = xs[i.toNat]? := by
  have := atI_nat xs i.toNat
  rwa [Int.toNat_of_nonneg h] at this
theorem atI_some {xs : List α} {i : Int} (h : 0 ≤ i) (h2 : i < xs.length) : atI xs i = some (xs[i.toNat]'(by omega)) := by
  rw [atI_pos h, List.getElem?_eq_getElem]
theorem ixN_pos {n : Nat} {i : Int} (h : 0 ≤ i) (h2 : i < n) : ixN n i = some i.toNat := by
  unfold ixN
  rw [if_pos h, if_pos h2]
theorem ixN_20 : ixN 2 0 = some 0 := rfl
theorem ixN_21 : ixN 2 1 = some 1 := rfl
theorem atI_map' (f : Int → D) (xs : List Int) (i : Int) : atI (xs.map f) i = (atI xs i).map f := by
  unfold atI
  rw [List.length_map]
  cases ixN xs.length i with
  | none => rfl
  | some j => simp
theorem set_last (T : List α) (x y : α) : (T ++ [x]).set T.length y = T ++ [y] := by simp
theorem get_last (T : List α) (x : α) : (T ++ [x])[T.length]? = some x := by simp
theorem take_last (T : List α) (x : α) : (T ++ [x]).take T.length = T := by simp
end
/-! ### equality of data -/
theorem deq_str (a b : Str) : deq (.str a) (.str b) = (a == b) := by simp [deq, toP, PyData.eqv]
theorem deq_int (a b : Int) : deq (.int a) (.int b) = (a == b) := by simp [deq, toP, PyData.eqv]
theorem deq_non : deq .non .non = true := by simp [deq, toP, PyData.eqv]
theorem deq_bl (a b : Bool) : deq (.bl a) (.bl b) = (a == b) := by simp [deq, toP, PyData.eqv]
theorem deq_tt (a b : List D) : deq (.tup a) (.tup b) = deqs a b := by simp [deq, deqs, toP, PyData.eqv]
theorem deq_ll (a b : List D) : deq (.lst a) (.lst b) = deqs a b := by simp [deq, deqs, toP, PyData.eqv]
theorem deqs_nn : deqs [] [] = true := by simp [deqs, toPs, PyData.eqvAll]
theorem deqs_cc (a b : D) (r s : List D) : deqs (a :: r) (b :: s) = (deq a b && deqs r s) := by simp [deq, deqs, toPs, PyData.eqvAll]
theorem deqs_nc (b : D) (s : List D) : deqs [] (b :: s) = false := by simp [deqs, toPs, PyData.eqvAll]
theorem deqs_cn (b : D) (s : List D) : deqs (b :: s) [] = false := by simp [deqs, toPs, PyData.eqvAll]
theorem deq_sn (a : Str) : deq (.str a) .non = false := by simp [deq, toP, PyData.eqv]
theorem deq_ni (a : Int) : deq .non (.int a) = false := by simp [deq, toP, PyData.eqv]
theorem deq_in (a : Int) : deq (.int a) .non = false := by simp [deq, toP, PyData.eqv]
theorem deq_tn (a : List D) : deq (.tup a) .non = false := by simp [deq, toP, PyData.eqv]
theorem deq_nt (a : List D) : deq .non (.tup a) = false := by simp [deq, toP, PyData.eqv]
mutual
theorem eqvP_refl : ∀ (n : Nat) (d : D), okd n d = true → PyData.eqv (toP d) (toP d) = true
  | _, .non, _ => by simp [toP, PyData.eqv]
  | _, .bl b, _ => by simp [toP, PyData.eqv]
  | _, .int b, _ => by simp [toP, PyData.eqv]
  | _, .str b, _ => by simp [toP, PyData.eqv]
  | n, .raw _, h => by simp [okd] at h
  | 0, .tup xs, h => by simp [okd] at h
  | n + 1, .tup xs, h => by
    simp only [okd] at h
    simp only [toP, PyData.eqv]
    exact eqvPs_refl n xs h
  | 0, .lst xs, h => by simp [okd] at h
  | n + 1, .lst xs, h => by
    simp only [okd] at h
    simp only [toP, PyData.eqv]
    exact eqvPs_refl n xs h
  | n, .scr ns, h => by
    simp only [toP, PyData.eqv]
    clear h
    induction ns with
    | nil => simp [PyData.eqvAll]
    | cons x r ih => simp [PyData.eqvAll, PyData.eqv, ih]
theorem eqvPs_refl : ∀ (n : Nat) (ds : List D), okds n ds = true → PyData.eqvAll (toPs ds) (toPs ds) = true
  | _, [], _ => by simp [toPs, PyData.eqvAll]
  | n, d :: ds, h => by
    simp only [okds, Bool.and_eq_true] at h
    simp only [toPs, PyData.eqvAll, Bool.and_eq_true]
    exact ⟨eqvP_refl n d h.1, eqvPs_refl n ds h.2⟩
end
theorem deq_refl {d : D} (n : Nat) (h : okd n d = true) : deq d d = true := eqvP_refl n d h
mutual
theorem okd_up : ∀ (n : Nat) (d : D), okd n d = true → okd (n + 1) d = true
  | _, .non, _ => by simp [okd]
  | _, .bl b, _ => by simp [okd]
  | _, .int b, _ => by simp [okd]
  | _, .str b, _ => by simp [okd]
  | n, .raw _, h => by simp [okd] at h
  | 0, .tup xs, h => by simp [okd] at h
  | n + 1, .tup xs, h => by
    simp only [okd] at h ⊢
    exact okds_up n xs h
  | 0, .lst xs, h => by simp [okd] at h
  | n + 1, .lst xs, h => by
    simp only [okd] at h ⊢
    exact okds_up n xs h
  | n, .scr ns, h => by simp [okd] at h
theorem okds_up : ∀ (n : Nat) (ds : List D), okds n ds = true → okds (n + 1) ds = true
  | _, [], _ => by simp [okds]
  | n, d :: ds, h => by
    simp only [okds, Bool.and_eq_true] at h ⊢
    exact ⟨okd_up n d h.1, okds_up n ds h.2⟩
end
theorem okd_le {n m : Nat} {d : D} (h : okd n d = true) (l : n ≤ m) : okd m d = true := by
  induction l with
  | refl => exact h
  | step _ ih => exact okd_up _ _ ih
theorem okds_iff (n : Nat) : ∀ ds : List D, okds n ds = true ↔ ∀ d ∈ ds, okd n d = true
  | [] => by simp [okds]
  | d :: ds => by simp [okds, okds_iff n ds]
theorem okd_item {n : Nat} {ds : List D} {d : D} (h : okd (n + 1) (.tup ds) = true) (m : d ∈ ds) : okd (n + 1) d = true := by
  simp only [okd] at h
  exact okd_up _ _ ((okds_iff n ds).mp h d m)
theorem okd_itemL {n : Nat} {ds : List D} {d : D} (h : okd (n + 1) (.lst ds) = true) (m : d ∈ ds) : okd (n + 1) d = true := by
  simp only [okd] at h
  exact okd_up _ _ ((okds_iff n ds).mp h d m)
theorem okd_non (n : Nat) : okd n .non = true := by simp [okd]
theorem okd_bl (n : Nat) (b : Bool) : okd n (.bl b) = true := by simp [okd]
theorem okd_int (n : Nat) (i : Int) : okd n (.int i) = true := by simp [okd]
theorem okd_str (n : Nat) (x : Str) : okd n (.str x) = true := by simp [okd]
theorem okds_nil (n : Nat) : okds n [] = true := by simp [okds]
theorem okds_cons (n : Nat) (d : D) (r : List D) : okds n (d :: r) = (okd n d && okds n r) := by simp [okds]
theorem okd_60t (xs : List D) : okd 60 (.tup xs) = okds 59 xs := by simp [okd]
theorem okd_59t (xs : List D) : okd 59 (.tup xs) = okds 58 xs := by simp [okd]
theorem okd_58t (xs : List D) : okd 58 (.tup xs) = okds 57 xs := by simp [okd]
theorem okd_60l (xs : List D) : okd 60 (.lst xs) = okds 59 xs := by simp [okd]
theorem okd_59l (xs : List D) : okd 59 (.lst xs) = okds 58 xs := by simp [okd]
theorem okd_58l (xs : List D) : okd 58 (.lst xs) = okds 57 xs := by simp [okd]
theorem st_tk : (("to" : Str) == ("bark" : Str)) = false := by decide
theorem st_tb : (("to" : Str) == ("back" : Str)) = false := by decide
theorem st_tf : (("to" : Str) == ("front" : Str)) = false := by decide
theorem st_kt : (("bark" : Str) == ("to" : Str)) = false := by decide
theorem st_kb : (("bark" : Str) == ("back" : Str)) = false := by decide
theorem st_kf : (("bark" : Str) == ("front" : Str)) = false := by decide
theorem st_bt : (("back" : Str) == ("to" : Str)) = false := by decide
theorem st_bk : (("back" : Str) == ("bark" : Str)) = false := by decide
theorem st_bf : (("back" : Str) == ("front" : Str)) = false := by decide
theorem st_ft : (("front" : Str) == ("to" : Str)) = false := by decide
theorem st_fk : (("front" : Str) == ("bark" : Str)) = false := by decide
theorem st_fb : (("front" : Str) == ("back" : Str)) = false := by decide
theorem nat_num (n : Nat) : ((@OfNat.ofNat Nat n (instOfNatNat n) : Nat) : Int) = (@OfNat.ofNat Int n (@instOfNat n)) := rfl
/-! ### tuples of whole numbers -/
def tupI (xs : List Int) : D := .tup (xs.map .int)
theorem okds_ints (n : Nat) (xs : List Int) : okds n (xs.map .int) = true := by
  rw [okds_iff]
  intro d hd
  obtain ⟨x, _, rfl⟩ := List.mem_map.mp hd
  simp [okd]
theorem okd_tupI (n : Nat) (xs : List Int) : okd (n + 1) (tupI xs) = true := by
  simp only [tupI, okd]
  exact okds_ints n xs
theorem okd_tI (n : Nat) (xs : List Int) : okd (n + 1) (.tup (xs.map .int)) = true := okd_tupI n xs
theorem dat_tI (xs : List Int) : D.tup (xs.map .int) = tupI xs := rfl
theorem intsOf_map : ∀ xs : List Int, intsOf (xs.map .int) = some xs
  | [] => rfl
  | x :: r => by
    show (intsOf (r.map .int)).map (x :: ·) = _
    rw [intsOf_map r]
    rfl
theorem gIx_tupI (xs : List Int) (i : Int) (P : D → Prop) : gIx (tupI xs) (.int i) P = (match atI xs i with | some n => P (.int n) | none => False) := by
  show (match atI (xs.map .int) i with | some d => P d | none => False) = _
  rw [atI_map']
  cases atI xs i <;> rfl
theorem gLen_tupI (xs : List Int) (P : D → Prop) : gLen [tupI xs] P = P (.int xs.length) := by
  show P (.int (xs.map D.int).length) = _
  rw [List.length_map]
theorem cutL_map {α β : Type} (f : α → β) (xs : List α) (lo hi : Option Int) : cutL (xs.map f) lo hi = (cutL xs lo hi).map f := by
  unfold cutL
  rw [List.length_map, List.map_take, List.map_drop]
theorem gSl_tupI (xs : List Int) (lo hi : Option Int) (P : D → Prop) : gSl (tupI xs) lo hi P = P (tupI (cutL xs lo hi)) := by
  show P (.tup (cutL (xs.map D.int) lo hi)) = _
  rw [cutL_map]
  rfl
theorem gAdd_tupI (xs ys : List Int) (P : D → Prop) : gAdd (tupI xs) (tupI ys) P = (xs.length + ys.length ≤ sizeLine ∧ P (tupI (xs ++ ys))) := by
  show ((xs.map D.int).length + (ys.map D.int).length ≤ sizeLine ∧ P (.tup (xs.map D.int ++ ys.map D.int))) = _
  rw [List.length_map, List.length_map, ← List.map_append]
  rfl
theorem cut_to {α : Type} (xs : List α) {i : Int} (h : 0 ≤ i) (h2 : i ≤ xs.length) : cutL xs none (some i) = xs.take i.toNat := by
  unfold cutL
  rw [HT.sIx_none, show HT.sIx xs.length xs.length (some i) = min i.toNat xs.length by
    have := HT.sIx_nat xs.length xs.length i.toNat
    rwa [Int.toNat_of_nonneg h] at this]
  rw [show min i.toNat xs.length = i.toNat by omega]
  simp
theorem cut_from {α : Type} (xs : List α) {i : Int} (h : 0 ≤ i) : cutL xs (some i) none = xs.drop i.toNat := by
  unfold cutL
  rw [HT.sIx_none, show HT.sIx xs.length 0 (some i) = min i.toNat xs.length by
    have := HT.sIx_nat xs.length 0 i.toNat
    rwa [Int.toNat_of_nonneg h] at this]
  by_cases q : i.toNat ≤ xs.length
  · rw [Nat.min_eq_left q]
    rw [List.take_of_length_le]
    simp
  · rw [Nat.min_eq_right (by omega)]
    simp
    omega
/-! ### walks -/
theorem loop_inv {g : DG} {B : DS} {E : DN} (I : List D → Env → Prop) (step : ∀ d r ρ, I (d :: r) ρ → ∀ N : Env → Prop, (∀ ρ', I r ρ' → N ρ') → g d ρ fun ρ' => B { E with nx := N, ct := N, bk := E.nx } ρ') (done : ∀ ρ, I [] ρ → E.nx ρ) : ∀ (ds : List D) (ρ : Env), I ds ρ → loopD g B E ds ρ
  | [], ρ, h => done ρ h
  | d :: ds, ρ, h => step d ds ρ h (loopD g B E ds) fun ρ' h' => loop_inv I step done ds ρ' h'
theorem comp_inv {g : DG} {t : DT} {e : DE} {own : List Nat} {k : Nat} {T : List Ob} {s0 : List (Option Sl)} {Q : Env → Prop} (hk : k = T.length) (I : List D → List D → List Ob → Prop)
    (step : ∀ d r acc T', T'.length = k → acc.length + (d :: r).length ≤ sizeLine → I (d :: r) acc T' → ∀ R : Option D → Env → Prop, (∀ o T'' s', T''.length = k → I r (acc ++ o.toList) T'' → wipeS s' own = s0 → R o ⟨T'' ++ [.lst acc], s'⟩) →
      g d ⟨T' ++ [.lst acc], s0⟩ fun ρ1 => t X0 ρ1 fun b ρ2 => if b = true then e X0 ρ2 fun y ρ3 => R (some y) ρ3 else R none ρ2)
    (done : ∀ acc T' s', T'.length = k → I [] acc T' → wipeS s' own = s0 → Q ⟨T' ++ [.lst acc], s'⟩) : ∀ (ds acc : List D) (T' : List Ob) (s' : List (Option Sl)), T'.length = k → acc.length + ds.length ≤ sizeLine → I ds acc T' → wipeS s' own = s0 → compD g t e own k ds ⟨T' ++ [.lst acc], s'⟩ Q
  | [], acc, T', s', hl, _, h, hs => done acc T' s' hl h hs
  | d :: ds, acc, T', s', hl, hz, h, hs => by
    unfold compD
    simp only
    rw [hs]
    refine step d ds acc T' hl hz h (fun o ρ3 => match o with
      | some y => match ρ3.T[k]? with
        | some (.lst acc) => acc.length < sizeLine ∧ compD g t e own k ds ⟨ρ3.T.set k (.lst (acc ++ [y])), ρ3.s⟩ Q
        | _ => False
      | none => compD g t e own k ds ρ3 Q) ?_
    intro o T'' s'' hl2 h2 hs2
    rw [List.length_cons] at hz
    cases o with
    | none => exact comp_inv hk I step done ds acc T'' s'' hl2 (by omega) (by simpa using h2) hs2
    | some y =>
      show (match (T'' ++ [Ob.lst acc])[k]? with
        | some (.lst acc) => acc.length < sizeLine ∧ compD g t e own k ds ⟨(T'' ++ [Ob.lst _]).set k (.lst (acc ++ [y])), s''⟩ Q
        | _ => False)
      rw [← hl2, get_last]
      simp only
      rw [set_last, hl2]
      exact ⟨by omega, comp_inv hk I step done ds (acc ++ [y]) T'' s'' hl2 (by rw [List.length_append]; simp; omega) h2 hs2⟩
/-- a comprehension whose turns change nothing else -/
theorem dComp_pure {fi : DI} {g : DG} {t : DT} {e : DE} {own : List Nat} {X : XP} {ρ : Env} {Q : D → Env → Prop} (h : D → Option D) (ds : List D) (T : List Ob) (s s0 : List (Option Sl)) (hfi : ∀ P : List D → Env → Prop, P ds ⟨T, s⟩ → fi X ρ P)
    (hs : wipeS s own = s0) (hs2 : wipeS s0 own = s0) (hlow : lowS T.length s0 = true) (hz : ds.length ≤ sizeLine)
    (step : ∀ d ∈ ds, ∀ acc, ∀ R : Option D → Env → Prop, (∀ s', wipeS s' own = s0 → R (h d) ⟨T ++ [.lst acc], s'⟩) → g d ⟨T ++ [.lst acc], s0⟩ fun ρ1 => t X0 ρ1 fun b ρ2 => if b = true then e X0 ρ2 fun y ρ3 => R (some y) ρ3 else R none ρ2)
    (q : Q (.lst (ds.filterMap h)) ⟨T, s0⟩) : dComp fi g t e own X ρ Q := by
  unfold dComp
  apply hfi
  simp only
  rw [hs]
  refine comp_inv rfl (fun r acc T' => T' = T ∧ (∀ d ∈ r, d ∈ ds) ∧ acc ++ r.filterMap h = ds.filterMap h) ?_ ?_ ds [] T s0 rfl (by simpa using hz) ⟨rfl, fun d h => h, rfl⟩ hs2
  · rintro d r acc T' hl hz ⟨rfl, hm, he⟩ R hR
    refine step d (hm d List.mem_cons_self) acc R fun s' hs' => hR _ _ _ rfl ⟨rfl, fun d' m => hm d' (List.mem_cons_of_mem _ m), ?_⟩ hs'
    rw [← he, List.filterMap_cons]
    cases h d <;> simp
  · rintro acc T' s' hl ⟨rfl, hm, he⟩ hs'
    simp only [List.filterMap_nil, List.append_nil] at he
    rw [get_last]
    simp only
    rw [hs', take_last, he]
    exact ⟨hlow, q⟩
/-- a comprehension whose turns change lists -/
theorem dComp_any {fi : DI} {g : DG} {t : DT} {e : DE} {own : List Nat} {X : XP} {ρ : Env} {Q : D → Env → Prop} (I : List D → List D → List Ob → Prop) (ds : List D) (T : List Ob) (s s0 : List (Option Sl)) (hfi : ∀ P : List D → Env → Prop, P ds ⟨T, s⟩ → fi X ρ P)
    (hs : wipeS s own = s0) (hs2 : wipeS s0 own = s0) (hlow : lowS T.length s0 = true) (hz : ds.length ≤ sizeLine) (h0 : I ds [] T)
    (step : ∀ d r acc T', T'.length = T.length → acc.length + (d :: r).length ≤ sizeLine → I (d :: r) acc T' → ∀ R : Option D → Env → Prop, (∀ o T'' s', T''.length = T.length → I r (acc ++ o.toList) T'' → wipeS s' own = s0 → R o ⟨T'' ++ [.lst acc], s'⟩) →
      g d ⟨T' ++ [.lst acc], s0⟩ fun ρ1 => t X0 ρ1 fun b ρ2 => if b = true then e X0 ρ2 fun y ρ3 => R (some y) ρ3 else R none ρ2)
    (q : ∀ acc T', T'.length = T.length → I [] acc T' → Q (.lst acc) ⟨T', s0⟩) : dComp fi g t e own X ρ Q := by
  unfold dComp
  apply hfi
  simp only
  rw [hs]
  refine comp_inv rfl I step ?_ ds [] T s0 rfl (by simpa using hz) h0 hs2
  intro acc T' s' hl hI hs'
  simp only
  rw [← hl, get_last]
  simp only
  rw [hs', take_last, hl]
  exact ⟨hlow, q acc T' hl hI⟩
def compK (g : DG) (t : DT) (e : DE) (own : List Nat) (Q : D → Env → Prop) : List D → Env → Prop := fun ds ρ1 => compD g t e own ρ1.T.length ds ⟨ρ1.T ++ [.lst []], wipeS ρ1.s own⟩ fun ρ2 => match ρ2.T[ρ1.T.length]? with
  | some (.lst acc) => lowS ρ1.T.length (wipeS ρ2.s own) = true ∧ Q (.lst acc) ⟨ρ2.T.take ρ1.T.length, wipeS ρ2.s own⟩
  | _ => False
def compC [h : Kept (D → Env → Prop)] (g : DG) (t : DT) (e : DE) (own : List Nat) : List D → Env → Prop := compK g t e own h.q
theorem dComp_eq (fi : DI) (g : DG) (t : DT) (e : DE) (own : List Nat) (X : XP) (ρ : Env) (Q : D → Env → Prop) : dComp fi g t e own X ρ Q = fi X ρ (@compC ⟨Q⟩ g t e own) := rfl
theorem compK_any {g : DG} {t : DT} {e : DE} {own : List Nat} {Q : D → Env → Prop} (I : List D → List D → List Ob → Prop) {ds : List D} {T : List Ob} {s : List (Option Sl)} (s0 : List (Option Sl))
    (hs : wipeS s own = s0) (hs2 : wipeS s0 own = s0) (hlow : lowS T.length s0 = true) (hz : ds.length ≤ sizeLine) (h0 : I ds [] T)
    (step : ∀ d r acc T', T'.length = T.length → acc.length + (d :: r).length ≤ sizeLine → I (d :: r) acc T' → ∀ R : Option D → Env → Prop, (∀ o T'' s', T''.length = T.length → I r (acc ++ o.toList) T'' → wipeS s' own = s0 → R o ⟨T'' ++ [.lst acc], s'⟩) →
      g d ⟨T' ++ [.lst acc], s0⟩ fun ρ1 => t X0 ρ1 fun b ρ2 => if b = true then e X0 ρ2 fun y ρ3 => R (some y) ρ3 else R none ρ2)
    (q : ∀ acc T', T'.length = T.length → I [] acc T' → Q (.lst acc) ⟨T', s0⟩) : compK g t e own Q ds ⟨T, s⟩ :=
  dComp_any (fi := fun _ ρ P => P ds ⟨T, s⟩) (X := X0) (ρ := ⟨T, s⟩) I ds T s s0 (fun _ h => h) hs hs2 hlow hz h0 step q
theorem compK_pure {g : DG} {t : DT} {e : DE} {own : List Nat} {Q : D → Env → Prop} (h : D → Option D) {ds : List D} {T : List Ob} {s : List (Option Sl)} (s0 : List (Option Sl))
    (hs : wipeS s own = s0) (hs2 : wipeS s0 own = s0) (hlow : lowS T.length s0 = true) (hz : ds.length ≤ sizeLine)
    (step : ∀ d ∈ ds, ∀ acc, ∀ R : Option D → Env → Prop, (∀ s', wipeS s' own = s0 → R (h d) ⟨T ++ [.lst acc], s'⟩) → g d ⟨T ++ [.lst acc], s0⟩ fun ρ1 => t X0 ρ1 fun b ρ2 => if b = true then e X0 ρ2 fun y ρ3 => R (some y) ρ3 else R none ρ2)
    (q : Q (.lst (ds.filterMap h)) ⟨T, s0⟩) : compK g t e own Q ds ⟨T, s⟩ :=
  dComp_pure (fi := fun _ ρ P => P ds ⟨T, s⟩) (X := X0) (ρ := ⟨T, s⟩) h ds T s s0 (fun _ h => h) hs hs2 hlow hz step q
theorem take_len {α : Type} {T T' : List α} (h : T'.length = T.length) : T'.take T.length = T' := List.take_of_length_le (by omega)
end DL
set_option Elab.async false
set_option linter.all false
set_option maxRecDepth 100000
set_option maxHeartbeats 4000000
set_option autoImplicit false
/-! max(xs, default=d). -/
namespace PySem
theorem mxd_args (a d : Value) : argsOk "max" ⟨[a], [("default", d)]⟩ := by
  unfold argsOk
  kernel_rfl
section
variable {prog : Program} {w : World} {A : Around} {R : Result → Shared → Prop} {I : Addr} {fp wr : List Addr} {n : Nat} {P : Nat → Value → Prop} {St : Nat → Heap → Prop}
theorem mxd_loop (Wk : Walks prog w A.in1 I fp wr n P St) (lt : Nat → Nat → Bool) (cmp : CmpOf prog w A.in1 .Gt P lt) (S : Addr) (nS : S ∉ fp) (d : Value) :
    ∀ (m j : Nat) (s : Shared) (its : Array Value) (cc : Nat), n - j = m → j ≤ n → St j s.heap → ((j = 0 ∧ its = #[]) ∨ (∃ vb, 0 < j ∧ P (argBest lt (j - 1)) vb ∧ its = #[vb, vb])) → s.heap.get? S = some { cls := .type "list", dict := none, data := .seq its cc, slots := #[] } →
    (∀ (v : Value) (h2 : Heap) (tk : Nat), ((n = 0 ∧ v = d) ∨ (0 < n ∧ P (argBest lt (n - 1)) v)) → (∀ b o, b ∉ wr → b ≠ S → s.heap.get? b = some o → h2.get? b = some o) → R (.ok (.ret v)) { s with heap := h2, toks := tk }) →
    codeAny (model prog w) A (.builtin "max.loop" ⟨[.ref I, .none, .ref S], [("default", d)]⟩) R s := by
  have nw : S ∉ wr := fun z => nS (Wk.sub _ z)
  have nm : (toString "max" ++ toString ".loop" : String) = "max.loop" := by decide
  intro m
  induction m with
  | zero =>
    intro j s its cc hm hj st hb hS hR
    have hn : j = n := by omega
    subst hn
    refine codeAny_builtin F.entry_max_loop ?_
    rw [Around.under_plainId F.plain_max_loop _]
    show wpAny _ A.in1 (seqItems? (.ref S) >>= _) _ _ s
    refine wpAny_bind (wpAny_seqItems hS rfl ?_)
    show wpAny _ A.in1 (tryCatch (pyNext (.ref I)) _ >>= _) _ _ s
    refine wpAny_bind (wpAny_tryCatch (Wk.done s _ _ st fun h2 tk kp => ?_))
    have hS2 := kp S _ nw hS
    rcases hb with ⟨rfl, rfl⟩ | ⟨vb, j0, hp, rfl⟩
    · show wpAny _ A.in1 (rule _ >>= _) _ _ _
      refine wpAny_bind (wpAny_rule (wpAny_pure ?_))
      exact hR d h2 tk (.inl ⟨rfl, rfl⟩) fun b o x1 x2 e => kp b o x1 e
    · show wpAny _ A.in1 (updateSeq S (fun _ => #[]) >>= _) _ _ _
      refine wpAny_bind ?_
      refine wpAny_updateSeq hS2 rfl (wpAny_bind (wpAny_letGo (wpAny_pure ?_)))
      exact hR vb _ tk (.inr ⟨j0, hp⟩) fun b o x1 x2 e => (Heap.get?_update_other _ _ (Ne.symm x2)).trans (kp b o x1 e)
  | succ m ih =>
    intro j s its cc hm hj st hb hS hR
    have jn : j < n := by omega
    refine codeAny_builtin F.entry_max_loop ?_
    rw [Around.under_plainId F.plain_max_loop _]
    show wpAny _ A.in1 (seqItems? (.ref S) >>= _) _ _ s
    refine wpAny_bind (wpAny_seqItems hS rfl ?_)
    show wpAny _ A.in1 (tryCatch (pyNext (.ref I)) _ >>= _) _ _ s
    refine wpAny_bind (wpAny_tryCatch (Wk.item j s _ _ jn st fun v h2 tk pv st2 kp => ?_))
    have hS2 := kp S _ nw hS
    rcases hb with ⟨rfl, rfl⟩ | ⟨vb, j0, hp, rfl⟩
    · show wpAny _ A.in1 (updateSeq S (fun _ => #[v, v]) >>= _) _ _ _
      refine wpAny_bind ?_
      refine wpAny_updateSeq hS2 rfl ?_
      rw [nm]
      refine wpAny_pure ⟨plainId_quiet F.plain_max_loop _, ih 1 _ #[v, v] _ (by omega) (by omega) (Wk.frame _ _ _ st2 fun b hbf o e => ?_) (.inr ⟨v, Nat.one_pos, pv, rfl⟩) (Heap.get?_update_self _ hS2 rfl) fun u h3 tk3 hu kp3 => ?_⟩
      · exact (Heap.get?_update_other _ _ (fun z : S = b => nS (z ▸ hbf))).trans e
      · exact hR u h3 tk3 hu fun b o x1 x2 e => kp3 b o x1 x2 ((Heap.get?_update_other _ _ (Ne.symm x2)).trans (kp b o x1 e))
    · show wpAny _ A.in1 (tryCatch (holding [v, v] (richCompare .Gt v vb >>= _)) _ >>= _) _ _ _
      refine wpAny_bind (wpAny_tryCatch (wpAny_holding (wpAny_bind (cmp j (argBest lt (j - 1)) v vb _ _ _ pv hp ?_))))
      refine wpAny_bind (wpAny_holding (wpAny_truthy_bool ?_))
      refine wpAny_bind (wpAny_letGo (wpAny_pure ?_))
      obtain ⟨i, rfl⟩ : ∃ i, j = i + 1 := ⟨j - 1, by omega⟩
      simp only [Nat.add_sub_cancel] at hp ⊢
      cases hq : lt (i + 1) (argBest lt i) with
      | true =>
        simp only [if_true]
        refine wpAny_bind ?_
        refine wpAny_updateSeq hS2 rfl (wpAny_bind (wpAny_letGo ?_))
        rw [nm]
        refine wpAny_pure ⟨plainId_quiet F.plain_max_loop _, ih (i + 2) _ #[v, v] _ (by omega) (by omega) (Wk.frame _ _ _ st2 fun b hbf o e => ?_) (.inr ⟨v, by omega, (show P (argBest lt (i + 1)) v by simp only [argBest, hq, if_true]; exact pv), rfl⟩) (Heap.get?_update_self _ hS2 rfl) fun u h3 tk3 hu kp3 => ?_⟩
        · exact (Heap.get?_update_other _ _ (fun z : S = b => nS (z ▸ hbf))).trans e
        · exact hR u h3 tk3 hu fun b o x1 x2 e => kp3 b o x1 x2 ((Heap.get?_update_other _ _ (Ne.symm x2)).trans (kp b o x1 e))
      | false =>
        simp only [Bool.false_eq_true, if_false]
        refine wpAny_bind (wpAny_letGo ?_)
        rw [nm]
        refine wpAny_pure ⟨plainId_quiet F.plain_max_loop _, ih (i + 2) _ #[vb, vb] cc (by omega) (by omega) st2 (.inr ⟨vb, by omega, (show P (argBest lt (i + 1)) vb by simp only [argBest, hq, Bool.false_eq_true, if_false]; exact hp), rfl⟩) hS2 fun u h3 tk3 hu kp3 => ?_⟩
        exact hR u h3 tk3 hu fun b o x1 x2 e => kp3 b o x1 x2 (kp b o x1 e)
end
section
variable {prog : Program} {w : World} {A : Around} {E : Value → Shared → Prop} {s : Shared} {l : Addr} {xs : Array (Int × Tok)}
theorem mxd_call {Q : Value → Shared → Prop} (a d : Value) (hc : wpAny (model prog w) A.in1 (Builtin.«max» ⟨[a], [("default", d)]⟩) (fun fin s' => match fin with
      | .done f => (match (Except.ok f : Result) with
        | .ok (.ret v) => Q v s'
        | .ok _ => False
        | .error e => E e s')
      | .again c' => c'.quiet = true ∧ codeAny (model prog w) A c' (fun r s' => match r with
        | .ok (.ret v) => Q v s'
        | .ok _ => False
        | .error e => E e s') s') E s) : wpAny (model prog w) A (call (.builtin "max") [a] [("default", d)]) Q E s := by
  refine wpAny_call (codeAny_call_builtin F.plain_max F.entry_max ?_)
  have ha := mxd_args a d
  simp only [checkBuiltinCall, F.kind_max]
  cases hsig : Manifest.signature? "max" with
  | none => exact wpAny_pure hc
  | some sg =>
    have ha2 : Bind.checkArgs "max" sg ⟨[a], [("default", d)]⟩ = pure () := by simpa only [argsOk, hsig] using ha
    simp only [ha2]
    exact wpAny_pure hc
theorem mxd_ints {Q : Value → Shared → Prop} (d : Value) (hh : A.handled = none) (hl : s.heap.IsList l (intItems xs))
    (h : ∀ v h' tk, ((xs.size = 0 ∧ v = d) ∨ (0 < xs.size ∧ (intItems xs)[argBest (fun i j => decide (numAt xs i > numAt xs j)) (xs.size - 1)]? = some v)) → (∀ b o, s.heap.get? b = some o → h'.get? b = some o) → Q v { s with heap := h', toks := tk }) :
    wpAny (model prog w) A (call (.builtin "max") [.ref l] [("default", d)]) Q E s := by
  have nm : (toString "max" ++ toString ".loop" : String) = "max.loop" := by decide
  refine mxd_call _ d ?_
  show wpAny _ A.in1 (Builtin.Builtins.bindParams "max" ["key", "default"] 0 ⟨[], [("default", d)]⟩ >>= _) _ _ s
  refine wpAny_bind (wpAny_of_eq (show Builtin.Builtins.bindParams "max" ["key", "default"] 0 ⟨[], [("default", d)]⟩ = pure [none, some d] from rfl) ?_)
  refine wpAny_bind (wpAny_pure ?_)
  refine wpAny_bind (iter_intList hl fun s2 e st hfp hlI => ?_)
  subst e
  have Wk := Walks.list (prog := prog) (w := w) (A := A.in1) hh s.heap.objs.size l hlI (intItems xs)
  refine wpAny_bind (wpAny_newObj_type ?_)
  have nS : (s.heap.push { cls := .type "list_iterator", data := .fields #[.ref l, .int 0 0] }).objs.size ∉ [s.heap.objs.size, l] := fun hm => Nat.lt_irrefl _ (hfp _ hm)
  rw [nm]
  refine wpAny_pure ⟨plainId_quiet F.plain_max_loop _, mxd_loop Wk (fun i j => decide (numAt xs i > numAt xs j)) (CmpOf.ints_gt (numAt xs) (fun _ _ => intItems_at)) _ nS d _ 0 _ #[] _ rfl (Nat.zero_le _) (Wk.frame _ _ _ st fun b _ o e => Heap.get?_push_of_some _ e) (.inl ⟨rfl, rfl⟩) (Heap.get?_push_size _ rfl) fun v h2 tk hv kp => ?_⟩
  refine h v h2 tk (by simpa [intItems] using hv) fun b o e => ?_
  exact old_kept (fun b o hbw e => kp b o hbw (Nat.ne_of_lt (Heap.lt_size e)) (Heap.get?_push_of_some _ e)) b o e
end
end PySem
namespace DL
open PySem PySem.Spec PyProof.Rows L2
def rMaxDef (K : PySem.W.Frag) : List V → List V → Hp → VK → Prop := fun vs zs H Q => ∃ (a : Addr) (ns : List Int) (d : V), vs = [V.ref a] ∧ zs = [d] ∧ SqL K H a (ns.map V.int) ∧ (ns = [] → Q d H) ∧ (0 < ns.length → ∀ m, m ∈ ns → (∀ y ∈ ns, y ≤ m) → Q (.int m) H)
theorem cr_maxDef {X : Cx} (hc : X.calm = true) : CallRK X (.builtin "max") [Str.ofString "default"] (rMaxDef X.K) := by
  intro pins s σ H vs zs us ws Q I r rz h
  obtain ⟨a, ns, d, rfl, rfl, hs, q0, q1⟩ := h
  obtain rfl := Vals.ref1 r
  obtain ⟨w1, rfl, e1⟩ := vals1 rz
  obtain ⟨its, rv, hl, _⟩ := I.list hs
  have hi := rv.ints
  obtain ⟨xs, e⟩ := hi.allInts.items
  have hn : numsOf (intItems xs).toList = ns := by rw [← e]; exact hi.numsOf
  rw [nums_intItems] at hn
  have hl' := hl.isList
  rw [e] at hl'
  refine mxd_ints w1 (I.ok.hd hc) hl' fun v h' tk hv kp => ?_
  rcases hv with ⟨h0, rfl⟩ | ⟨h0, hv⟩
  · refine ⟨d, H, I.kept kp, e1, q0 ?_⟩
    rw [← hn]
    simpa using h0
  · obtain ⟨t, rfl⟩ := intItems_at hv
    obtain ⟨h1, h2⟩ := argBest_gt (numAt xs) (xs.size - 1)
    refine ⟨.int _, H, I.kept kp, ⟨_, rfl⟩, q1 (by rw [← hn]; simpa using h0) _ ?_ fun y hy => ?_⟩
    · rw [numAt_eq, ← hn]
      exact PySem.getD_mem (by rw [List.length_map, Array.length_toList]; omega)
    · rw [← hn] at hy
      obtain ⟨j, hj, rfl⟩ := mem_getD hy
      rw [List.length_map, Array.length_toList] at hj
      rw [← numAt_eq]
      exact h2 j (by omega)
def dMaxD (fa : DA) (fd : DE) : DE := fun X ρ Q => fa X ρ fun xs ρ1 => match dats xs with
  | some [.lst ds] => fd X ρ1 fun e ρ2 => match intsOf ds with
    | some [] => Q e ρ2
    | some (n :: ns) => Q (.int (maxOf n ns)) ρ2
    | none => False
  | _ => False
section
variable {X : Cx} {W : WX}
theorem de_maxd {e d : Expr} {p pos kpos : Pos} {fa : DA} {fd : DE} (hc : X.calm = true) (hm : X.mg "max" = none) (ha : PA X [e] (lA X.K W fa)) (hd : PE X d (lE X.K W fd)) (hg : Gl X "max" := by rfl)
    (he : backTo pos (starEach [e] X.env) = (false, eval e X.env) :: backTo pos (starEach [] X.env) := by rfl) (hpl : (backTo pos (starEach [e] X.env)).any (·.1) = false := by rfl)
    (hall : (backToKw pos (keywordEach [⟨some "default", d, kpos⟩] X.env)).all (·.1.isSome) = true := by rfl) (hnone : (backToKw pos (keywordEach [⟨some "default", d, kpos⟩] X.env)).any (·.1.isNone) = false := by rfl) (hks : (backToKw pos (keywordEach [⟨some "default", d, kpos⟩] X.env)).filterMap (·.1) = [Str.ofString "default"] := by rfl) :
    PE X (.Call (.Name "max" p) [e] [⟨some "default", d, kpos⟩] pos) (lE X.K W (dMaxD fa fd)) :=
  pe_imp (pe_callBK (cr_maxDef hc) hg hm bt_max ha (pk_cons hd pk_nil) (by decide) (by decide) he hpl hall hnone hks) fun σ H Q ⟨ρ, G, la, P, XX, re, h, q, xo⟩ =>
  ⟨ρ, G, la, _, XX, re, h, fun xs ρ1 vs G1 la1 H1 p1 a1 z1 => by
    have p1' : (match (generalizing := false) dats xs with
      | some [.lst ds] => fd XX ρ1 fun e ρ2 => match intsOf ds with
        | some [] => P e ρ2
        | some (n :: ns) => P (.int (maxOf n ns)) ρ2
        | none => False
      | _ => False) := p1
    split at p1'
    · rename_i ds hds
      have dp := dats_of z1 hds
      cases dp with
      | cons a b =>
        cases b
        cases a with
        | lst a l r =>
          refine ⟨ρ1, G1, la1, _, XX, a1.r, p1', fun e2 ρ2 v G2 la2 H2 p2 a2 z2 => ?_, xo.up a1.g a1.p⟩
          have p2' : (match (generalizing := false) intsOf ds with
            | some [] => P e2 ρ2
            | some (n :: ns) => P (.int (maxOf n ns)) ρ2
            | none => False) := p2
          split at p2'
          · rename_i hn
            have e := intsOf_of r hn
            subst e
            exact ⟨_, [], v, rfl, rfl, SqL.of (a2.r.ext _ _ (a2.g _ _ a)), fun _ => q _ _ _ _ _ _ p2' (a1.trans a2) z2, fun h0 => absurd h0 (by simp)⟩
          · rename_i n ns hn
            have e := intsOf_of r hn
            subst e
            refine ⟨_, n :: ns, v, rfl, rfl, SqL.of (a2.r.ext _ _ (a2.g _ _ a)), fun h0 => (nomatch h0), fun _ m hm2 hle => ?_⟩
            obtain ⟨c1, c2, c3⟩ := maxOf_ge ns n
            have em : m = maxOf n ns := by
              have h1 : maxOf n ns ≤ m := by
                rcases c3 with c3 | c3
                · rw [c3]
                  exact hle _ (by simp)
                · exact hle _ (by simp [c3])
              have h2 : m ≤ maxOf n ns := by
                rcases List.mem_cons.mp hm2 with z | z
                · rw [z]
                  exact c1
                · exact c2 _ z
              omega
            rw [em]
            exact q _ _ _ _ _ _ p2' (a1.trans a2) (.int _)
          · exact p2'.elim
    · exact p1'.elim, xo⟩
end
end DL
set_option Elab.async false
set_option linter.all false
set_option maxRecDepth 100000
set_option maxHeartbeats 4000000
set_option autoImplicit false
/-! {"a": i, "b": j}.get(e, d). -/
namespace DL
open PySem PySem.Spec PyProof.Rows L2
def dGetP (k1 k2 : Str) (i1 i2 : Int) (fe fd : DE) : DE := fun X ρ Q => fe X ρ fun k ρ1 => fd X ρ1 fun z ρ2 => match k with
  | .str w => if w = k1 then Q (.int i1) ρ2 else if w = k2 then Q (.int i2) ρ2 else Q z ρ2
  | _ => False
theorem fn_none {P : Program} {w : World} {K : PySem.W.Frag} {mg : Str → Option Value} {base : Heap} {CX : CXT} {k n : Nat} {f : Addr} {fd : FuncData} {ps : List Str} {F : DF} (h : ∀ ss T Q QX, F ss T Q QX → False) : FnOk P w K mg base CX k f fd ps (spD K n F) :=
  ⟨fun vs H Q E ⟨_, ss, G, la, T, Pd, PX, _, _, fp, _⟩ => (h _ _ _ _ fp).elim, fun A outer s H args us vs Q E _ _ _ _ ⟨_, ss, G, la, T, Pd, PX, _, _, fp, _⟩ => (h _ _ _ _ fp).elim⟩
theorem upd_twice {H : Hp} {p : Addr} {x y : HO} : upd (upd H p x) p y = upd H p y := by
  funext b
  by_cases hb : b = p
  · subst hb
    rw [upd_same, upd_same]
  · rw [upd_ne hb, upd_ne hb, upd_ne hb]
theorem Grow.hid {G H : Hp} {p : Addr} {o : HO} (e : Same G H) (h : H p = none) : Grow G H G (upd H p o) :=
  ⟨Same.refl _, same_new h, e.trans (same_new h), fun _ ga _ => ga, fun h => h⟩
section
variable {X : Cx} {W : WX}
theorem de_getP {k1 k2 : Str} {i1 i2 : Int} {a1 a2 b1 b2 : Nat} {p1 p2 q1 q2 dpos apos cpos : Pos} {e f : Expr} {fe fd : DE} (hu : X.A.units + 1 < cLine) (hk : k1 ≠ k2) (he : PE X e (lE X.K W fe)) (hf : PE X f (lE X.K W fd))
    (m : M2 X (.Dict [some (.Constant (.str k1) a1 p1), some (.Constant (.str k2) a2 p2)] [.Constant (.int i1) b1 q1, .Constant (.int i2) b2 q2] dpos) "get" apos e f cpos := by exact ⟨rfl, rfl, rfl, rfl⟩) :
    PE X (.Call (.Attribute (.Dict [some (.Constant (.str k1) a1 p1), some (.Constant (.str k2) a2 p2)] [.Constant (.int i1) b1 q1, .Constant (.int i2) b2 q2] dpos) "get" apos) [e, f] [] cpos) (lE X.K W (dGetP k1 k2 i1 i2 fe fd)) :=
  pe_imp (pe_dget2 hu (pe_disp (pps_cons pe_str pe_int (pps_cons pe_str pe_int pps_nil)) rfl rfl (by simp) (by simp)) he hf m) fun σ H Q ⟨ρ, G, la, P, XX, re, h, q, xo⟩ => by
  intro p hp
  refine ⟨upd_same, [(.inr k1, .int i1), (.inr k2, .int i2)], rfl, by simp, ?_⟩
  rw [upd_twice]
  have hm : mergeK [] [((.inr k1 : Key), V.int i1), (.inr k2, .int i2)] = [(.inr k1, .int i1), (.inr k2, .int i2)] := by
    have hne : ¬ ((Sum.inr k1 : Key) = .inr k2) := fun z => hk (Sum.inr.inj z)
    simp [mergeK, putK, hne]
  rw [hm]
  refine ⟨p, rfl, .inl ⟨_, .inl upd_same⟩, ?_⟩
  have w0 : Grow G H (upd G p (.dK [(.inr k1, .int i1), (.inr k2, .int i2)])) (upd H p (.dK [(.inr k1, .int i1), (.inr k2, .int i2)])) := Grow.new re.tb.ext hp
  have gp : upd G p (.dK [(.inr k1, .int i1), (.inr k2, .int i2)]) p = some (.dK [(.inr k1, .int i1), (.inr k2, .int i2)]) := upd_same
  have rg := re.grow w0
  have s0 := w0.g
  generalize upd G p (.dK [(.inr k1, .int i1), (.inr k2, .int i2)]) = G0 at gp rg s0
  refine ⟨ρ, G0, la, _, XX, rg, h, fun k ρ1 v G1 la1 H1 e1 r1 z1 => ⟨ρ1, G1, la1, _, XX, r1.r, e1, fun z ρ2 u G2 la2 H2 e2 r2 z2 => ?_, xo.up (s0.trans r1.g) r1.p⟩, xo.up s0 List.prefix_rfl⟩
  have e2' : (match (generalizing := false) k with
    | .str w => if w = k1 then P (.int i1) ρ2 else if w = k2 then P (.int i2) ρ2 else P z ρ2
    | _ => False) := e2
  cases k with
  | str w =>
    cases z1
    have hp2 : H2 p = some (.dK [(.inr k1, .int i1), (.inr k2, .int i2)]) := r2.r.ext _ _ (r2.g _ _ (r1.g _ _ gp))
    have af : Aft X.K G la σ ρ2 G2 la2 H2 := ⟨s0.trans (r1.g.trans r2.g), r1.p.trans r2.p, r2.r⟩
    refine ⟨_, DGet.k (k := .inr w) hp2, ?_⟩
    by_cases w1 : w = k1
    · subst w1
      rw [valV_pos rfl]
      simp only [if_true] at e2'
      exact q _ _ _ _ _ _ e2' af (.int _)
    · rw [valV_neg (fun z => w1 (Sum.inr.inj z).symm)]
      simp only [if_neg w1] at e2'
      by_cases w2 : w = k2
      · subst w2
        rw [valV_pos rfl]
        simp only [if_true] at e2'
        exact q _ _ _ _ _ _ e2' af (.int _)
      · rw [valV_neg (fun z => w2 (Sum.inr.inj z).symm), valV_nil]
        simp only [if_neg w2] at e2'
        exact q _ _ _ _ _ _ e2' af z2
  | _ => exact e2'.elim
end
end DL
set_option Elab.async false
set_option linter.all false
set_option maxRecDepth 100000
set_option maxHeartbeats 4000000
set_option autoImplicit false
/-! The data level: raise, try, defs as values, lambdas that are handed to a def. -/
namespace DL
open PySem PySem.Spec PyProof.Rows L2

/-! ### raise -/
/-- what is known of an own class of errors -/
structure ExcC (K : PySem.W.Frag) (mg : Str → Option Value) (x : Str) (C : Addr) : Prop where
  g : mg x = some (.ref C)
  n : PySem.W.nsIn K mainGlobals x = some (some (.ref C))
  x : PySem.W.excIn K C [.type "ValueError", .type "Exception", .type "BaseException", .type "object"] "ValueError.__new__" = true
  k : PySem.W.keepIn K (.ref C) = true
  b : PySem.W.subIn K (.ref C) (.type "BaseException") = some true
  t : PySem.W.typeIn K (.ref C) = some (.type "type")
def sRaise (n : Str) : DS := fun E ρ => E.xn ⟨n, none⟩ ρ
section
variable {X : Cx} {W : WX}
theorem ds_raise {x m : Str} {C : Addr} {j : Nat} {p p2 p3 pos : Pos} (hc : X.calm = true) (tk : Takes X W) (ex : ExcC X.K X.mg x C) (hg : Gl X x := by rfl) (hdb : (x == ("__debug__" : Str)) = false := by decide) :
    PS X (.Raise (some (.Call (.Name x p) [.Constant (.str m) j p2] [] p3)) none pos) (lS X.K W (sRaise x)) :=
  ps_imp (ps_raise hc tk (pmk_own PySem.F.excBase_ValueError ex.x ex.g ex.k (raises_own ex.b ex.t) hg hdb)) fun D σ H ⟨ρ, G, la, E, r, f, b⟩ => b.xn ⟨x, none⟩ ρ σ G la H (.ref C) none f (Aft.refl r) ⟨ex.n, True.intro⟩
end

/-! ### try -/
/-- whether an error of the class x is one of the class c -/
def isaN (x c : Str) : Bool := x == c || c == ("DogError" : Str)
def hndl (R : List Str) (E : DN) : List (Str × DS) → XP
  | [] => E.xn
  | (c, S) :: r => fun x ρ => R.contains x.n = true ∧ if isaN x.n c = true then S { E with xn := X0 } ρ else hndl R E r x ρ
def sTry (R : List Str) (B : DS) (cl : List (Str × DS)) : DS := fun E ρ => B { E with xn := hndl R E cl } ρ
inductive DCl (X : Cx) (R : List Str) : List ExceptHandler → List Cl → List (Str × DS) → Prop
  | nil : DCl X R [] [] []
  | only {c : Str} {A : Addr} {S : DS} {b : Stmt} {su : List Stmt} {np p : Pos} {hs : List ExceptHandler} {ks : List Cl} {cl : List (Str × DS)} (nm : Names X c (.ref A))
      (ex : ∀ n ∈ R, ∀ cls, PySem.W.nsIn X.K mainGlobals n = some (some cls) → PySem.W.exmOne X.K cls (.ref A) = some (isaN n c))
      (run : ∀ (a : Addr) (o : Obj) (pn : List (Addr × Obj)), PSs (X.suite a ((a, o) :: pn)) (b :: su) (lS X.K W0 S)) (r : DCl X R hs ks cl) :
      DCl X R (.ExceptHandler (some (.Name c np)) none (b :: su) p :: hs) (⟨.ref A, none, fun _ _ _ => lS X.K W0 S⟩ :: ks) ((c, S) :: cl)
  | skip {c n : Str} {i : Nat} {A : Addr} {b : Stmt} {su : List Stmt} {np p : Pos} {hs : List ExceptHandler} {ks : List Cl} {cl : List (Str × DS)} (nm : Names X c (.ref A)) (nd : X.N.Nodup) (hi : X.N[i]? = some n) (hl : X.env.kindOf n = some .local)
      (ex : ∀ n ∈ R, ∀ cls, PySem.W.nsIn X.K mainGlobals n = some (some cls) → PySem.W.exmOne X.K cls (.ref A) = some false) (r : DCl X R hs ks cl) :
      DCl X R (.ExceptHandler (some (.Name c np)) (some n) (b :: su) p :: hs) (⟨.ref A, some i, fun _ _ _ => tNever⟩ :: ks) cl
section
variable {X : Cx} {W : WX} {R : List Str}
theorem DCl.ok {hs : List ExceptHandler} {ks : List Cl} {cl : List (Str × DS)} (h : DCl X R hs ks cl) : ClsOk X hs ks := by
  induction h with
  | nil => exact .nil
  | only nm ex run r ih => exact .cons (.only nm fun a o cls d pn _ _ => run a o pn) ih
  | skip nm nd hi hl ex r ih => exact .cons (.named nm nd hi hl fun a o cls d pn _ _ => pss_never) ih
theorem DCl.wish {G : Hp} {la : List Addr} {E : DN} {D : Ends} (b : Bk X.K G la W E D) : ∀ {hs : List ExceptHandler} {ks : List Cl} {cl : List (Str × DS)}, DCl X R hs ks cl → ∀ (x : Xn) (ρ' : Env) (σ' : L2.St) (G' : Hp) (la' : List Addr) (H' : Hp) (cls : Value) (od : Option Addr),
    hndl R E cl x ρ' → (cl ≠ [] → True) → Aft X.K G la σ' ρ' G' la' H' → XR X.K G' H' x cls od → (R.contains x.n = true) → wMix X.K W D ks cls od σ' H' := by
  intro hs ks cl h
  induction h with
  | nil =>
    intro x ρ' σ' G' la' H' cls od p _ a z _
    exact b.xn x ρ' σ' G' la' H' cls od p a z
  | @only c A S b0 su np p0 hs ks cl nm ex run r ih =>
    intro x ρ' σ' G' la' H' cls od p t a z hR
    obtain ⟨_, p⟩ := p
    refine ⟨isaN x.n c, ex x.n (by simpa using hR) cls z.1, fun e => ?_, fun e => ?_⟩
    · rw [if_pos e] at p
      intro q hq
      have bb := b.up a.g a.p
      exact ⟨ρ', G', la', _, a.r, p, ⟨bb.nx, bb.bk, bb.ct, bb.rt, fun _ _ _ _ _ _ _ _ f => f.elim⟩⟩
    · rw [if_neg (by rw [e]; exact Bool.false_ne_true)] at p
      exact ih x ρ' σ' G' la' H' cls od p (fun _ => True.intro) a z hR
  | @skip c n i A b0 su np p0 hs ks cl nm nd hi hl ex r ih =>
    intro x ρ' σ' G' la' H' cls od p t a z hR
    exact ⟨false, ex x.n (by simpa using hR) cls z.1, (fun e => by cases e), fun _ => ih x ρ' σ' G' la' H' cls od p t a z hR⟩
theorem hndl_R {E : DN} {c : Str × DS} {cl : List (Str × DS)} {x : Xn} {ρ : Env} (h : hndl R E (c :: cl) x ρ) : R.contains x.n = true := h.1
theorem ds_try {body : List Stmt} {h0 : ExceptHandler} {hds : List ExceptHandler} {ks : List Cl} {pos : Pos} {B : DS} {c : Str × DS} {cl : List (Str × DS)} (hs : X.stack = X.env :: X.outer) (hf : X.env.frame = some X.env.locals) (tk : Takes X W)
    (hb : ∀ (W' : WX) (pn : List (Addr × Obj)) (xe : Value → Shared → Prop), Takes (X.tr pn xe) W' → PassesOwn (model X.prog X.w) X.A X.env xe → PSs (X.tr pn xe) body (lS X.K W' B))
    (hk : DCl X R (h0 :: hds) ks (c :: cl)) : PS X (.Try body (h0 :: hds) [] [] pos) (lS X.K W (sTry R B (c :: cl))) :=
  ps_imp (ps_tryC (tb := fun W' => lS X.K W' B) hs hf tk hb hk.ok) fun D σ H ⟨ρ, G, la, E, r, f, b⟩ =>
    ⟨ρ, G, la, { E with xn := hndl R E (c :: cl) }, r, f, ⟨b.nx, b.bk, b.ct, b.rt, fun x ρ' σ' G' la' H' cls od p a z => DCl.wish b hk x ρ' σ' G' la' H' cls od p (fun _ => True.intro) a z (hndl_R p)⟩⟩
end

/-! ### defs as values -/
section
variable {X : Cx} {W : WX}
theorem de_fn {x : Str} {a : Addr} {pos : Pos} (hm : X.mg x = some (.ref a)) (hn : PySem.W.nsIn X.K mainGlobals x = some (some (.ref a))) (hg : Gl X x := by rfl) (hd : (x == ("__debug__" : Str)) = false := by decide) : PE X (.Name x pos) (lE X.K W (dC (.fn x))) :=
  pe_imp (pe_glob hg hm (v := .ref a) rfl hd) fun σ H Q ⟨ρ, G, la, P, XX, r, f, q, _⟩ => q _ _ _ _ _ _ f (Aft.refl r) (.fn hn)
/-- x(e, ..), x a name of the def that holds a def of the module -/
def dCallV (i n : Nat) (F : Str → Option DF) (fa : DA) : DL' := fun X ρ Q => match ρ.s[i]? with
  | some (some (.dat (.fn x))) => match F x with
    | some S => fa X ρ fun ss ρ1 => ss.length = n ∧ S ss ρ1.T (fun r T' => Q r ⟨T', ρ1.s⟩) (fun x T' => X x ⟨T', ρ1.s⟩)
    | none => False
  | _ => False
structure Kept1 (X : Cx) (k n : Nat) (x : Str) (S : DF) : Prop where
  ex : ∃ (f : Addr) (fd : FuncData) (ps : List Str), PySem.W.nsIn X.K mainGlobals x = some (some (.ref f)) ∧ FnOk X.prog X.w X.K X.mg X.base (L2.CX X.prog X.w) k f fd ps (spD X.K n S) ∧ PySem.W.keepIn X.K (.ref f) = true ∧ Binds X.K fd ps []
theorem dl_callV (i : Nat) {x : Str} {p pos : Pos} {e : Expr} {es : List Expr} {fa : DA} {k n : Nat} {F : Str → Option DF} (hF : ∀ y S, F y = some S → Kept1 X k n y S) (hr : Room k X.A) (tk : Takes X W) (ha : PA X (e :: es) (lA X.K W fa)) (hN : X.N[i]? = some x := by rfl)
    (hv : Vis X.env.scope x := by first | exact Or.inl rfl | exact Or.inr (Or.inl rfl) | exact Or.inr (Or.inr rfl)) (hdb : (x == ("__debug__" : Str)) = false := by decide) (hcd : (x == ("__classdict__" : Str)) = false := by decide)
    (he : starEach (e :: es) X.env = (false, eval e X.env) :: starEach es X.env := by rfl) (hpl : (backTo pos (starEach es X.env)).any (·.1) = false := by rfl) : PE X (.Call (.Name x p) (e :: es) [] pos) (lL X.K W (dCallV i n F fa)) := by
  constructor
  rintro pins s σ H Q I ⟨ρ, G, la, P, XX, re, h, q, xo⟩
  unfold dCallV at h
  split at h
  · rename_i y hy
    split at h
    · rename_i S hS
      obtain ⟨f, fd, ps, hn, Fk, hk, hb⟩ := (hF y S hS).ex
      obtain ⟨v, hσ, rv⟩ := re.at_ i _ hy
      have rv' : Dp X.K G v (.fn y) := rv
      cases rv' with
      | fn hn2 =>
      rename_i a
      have ea : a = f := by
        rw [hn] at hn2
        cases hn2
        rfl
      subst ea
      refine wpAny_Call_Name_kw (thn ((pe_var (pos := p) hN hv hdb hcd).run pins s σ H (fun v H1 => v = .ref a ∧ H1 = H) I ⟨_, hσ, rfl, rfl⟩) ?_)
      rintro u s1 ⟨v, H1, I1, r1, rfl, rfl⟩
      cases r1
      refine PySem.W.callWith_K (h₀ := X.base) I.ok.mod.kin hk (thn (ha.run pos pins s1 σ H1 _ I1 ⟨ρ, G, la, _, XX, re, h, fun ss ρ1 vs G1 la1 H1 p1 a1 z1 => ?_, xo⟩) fun us s2 ⟨vs, H2, I2, r, q2⟩ => ⟨I2.kIn, run_fnS Fk hr hb (passAt tk σ) I2 r q2⟩) he hpl
      exact ⟨z1.len.trans p1.1, ss, G1, la1, ρ1.T, _, _, a1.r.tb, z1, p1.2, fun r2 T' v G' la' H' pr g pp rl sr => q _ _ _ _ _ _ pr ⟨a1.g.trans g, a1.p.trans pp, ⟨rl, a1.r.sl, fun i y hy => by
          obtain ⟨u, hu, ru⟩ := a1.r.at_ i y hy
          exact ⟨u, hu, ru.grow g pp⟩⟩⟩ sr, fun y T' G' la' H' cls od px g pp rl xr => xo y ⟨T', ρ1.s⟩ σ G' la' H' cls od px ⟨a1.g.trans g, a1.p.trans pp, ⟨rl, a1.r.sl, fun i y hy => by
          obtain ⟨u, hu, ru⟩ := a1.r.at_ i y hy
          exact ⟨u, hu, ru.grow g pp⟩⟩⟩ xr⟩
    · exact h.elim
  · exact h.elim
end

/-! ### lambdas -/
abbrev CallF := List Ob → (Sl → List Ob → Prop) → (Xn → List Ob → Prop) → Prop
/-- a(), a the lambda that was handed over; n: how many names the def has -/
def dAct (n : Nat) (f : Addr) (G0 : Hp) (la0 : List Addr) (c : CallF) : DL' := fun X ρ Q => ρ.s[0]? = some (some (.clo f G0 la0)) ∧ c ρ.T (fun r T' => Q r ⟨T', ρ.s⟩) (fun x T' => X x ⟨T', List.replicate n none⟩)
/-- tl does what c says, from what was known at the lambda's making on -/
def Real (K : PySem.W.Frag) (G0 : Hp) (la0 : List Addr) (c : CallF) (tl : XK → Hp → VK → Prop) : Prop := ∀ (G : Hp) (la : List Addr) (H : Hp) (T : List Ob) (Q : Sl → List Ob → Prop) (QX : Xn → List Ob → Prop) (Qv : VK) (E : XK), c T Q QX → Rl K G H la T → Same G0 G → la0 <+: la →
  (∀ r T' v G' la' H', Q r T' → Same G G' → la <+: la' → Rl K G' H' la' T' → SlR K G' la' v r → Qv v H') → (∀ x T' G' la' H' cls od, QX x T' → Same G G' → la <+: la' → Rl K G' H' la' T' → XR K G' H' x cls od → E cls od H') → tl E H Qv
/-- what the def promises that the lambda is handed to -/
abbrev WF := CallF → List Ob → (Sl → List Ob → Prop) → Prop
def TTd (K : PySem.W.Frag) (F : WF) : (XK → Hp → VK → Prop) → Hp → VK → Prop := fun tl H Q => ∃ (G0 : Hp) (la0 : List Addr) (T : List Ob) (c : CallF) (P : Sl → List Ob → Prop), Rl K G0 H la0 T ∧ Real K G0 la0 c tl ∧ F c T P ∧
  (∀ r T' v G' la' H', P r T' → Same G0 G' → la0 <+: la' → Rl K G' H' la' T' → SlR K G' la' v r → Q v H')
theorem Takes.len {X : Cx} {W : WX} (tk : Takes X W) : Takes X (fun cls d σ H => σ.length = X.N.length → W cls d σ H) := fun u s' ⟨a, B, sI, pins, σ, H, cls, d, e, I, nb, up, sky, na, os, ag, w⟩ =>
  tk u s' ⟨a, B, sI, pins, σ, H, cls, d, e, I, nb, up, sky, na, os, ag, w I.len⟩
theorem codeO_tbl {c : Addr} {q : Str} : ∀ ps, LamX.CodeO c q ≠ .tbl ps := fun ps z => by
  unfold LamX.CodeO at z
  cases z
/-- what is known grows by the lambda's code object -/
theorem Rl.code {K : PySem.W.Frag} {G H : Hp} {la : List Addr} {T : List Ob} {c : Addr} {q : Str} (r : Rl K G H la T) (hc : H c = some (LamX.CodeO c q)) : Same G (upd G c (LamX.CodeO c q)) ∧ Rl K (upd G c (LamX.CodeO c q)) H la T := by
  have s1 : Same G (upd G c (LamX.CodeO c q)) := fun b o e => by
    by_cases hb : b = c
    · subst hb
      rw [upd_same]
      have := r.ext b o e
      rw [hc] at this
      exact this
    · rw [upd_ne hb]
      exact e
  have ne : ∀ {b : Addr} {o : HO}, H b = some o → (∀ d, o ≠ LamX.CodeO c q) → b ≠ c := fun {b o} e n z => by
    rw [z, hc] at e
    exact n c (Option.some.inj e).symm
  refine ⟨s1, ⟨fun b o e => ?_, r.nd, r.len, fun k a o h1 h2 => ?_, r.there, r.nt.upd codeO_tbl, fun p hp => ⟨?_, (r.tbl p hp).2⟩⟩⟩
  · by_cases hb : b = c
    · subst hb
      rw [upd_same] at e
      rw [← e]
      exact hc
    · rw [upd_ne hb] at e
      exact r.ext b o e
  · have z := r.tab k a o h1 h2
    cases o with
    | dead => exact True.intro
    | lst ds =>
      obtain ⟨g, vs, e, l, d⟩ := z
      refine ⟨?_, vs, e, l, d.up s1⟩
      rw [upd_ne (ne e fun _ z => by unfold LamX.CodeO at z; cases z)]
      exact g
    | dic ks ds =>
      obtain ⟨g, vs, e, l0, l, d⟩ := z
      refine ⟨?_, vs, e, l0, l, d.up s1⟩
      rw [upd_ne (ne e fun _ z => by unfold LamX.CodeO at z; cases z)]
      exact g
  · obtain ⟨g, ps, e, _⟩ := r.tbl p hp
    rw [upd_ne (ne e fun _ z => codeO_tbl ps z.symm)]
    exact g
/-- what is known stays where only tables grow -/
theorem Rl.extN {K : PySem.W.Frag} {G H H1 : Hp} {la : List Addr} {T : List Ob} (r : Rl K G H la T) (e : LamX.ExtN H H1) (t : LamX.Tabs (tabsOf K) H1) : Rl K G H1 la T := by
  refine ⟨fun b o h => e b o (r.ext b o h) fun ps z => r.nt b ps (by rw [h, z]), r.nd, r.len, fun k a o h1 h2 => ?_, fun k a h => ?_, r.nt, fun p hp => ⟨(r.tbl p hp).1, t p hp⟩⟩
  · have z := r.tab k a o h1 h2
    cases o with
    | dead => exact True.intro
    | lst ds =>
      obtain ⟨g, vs, h, l, d⟩ := z
      exact ⟨g, vs, e a _ h (fun ps z => by cases z), l, d⟩
    | dic ks ds =>
      obtain ⟨g, vs, h, l0, l, d⟩ := z
      exact ⟨g, vs, e a _ h (fun ps z => by cases z), l0, l, d⟩
  · obtain ⟨o, h1, h2⟩ := r.there k a h
    exact ⟨o, e a o h1 h2, h2⟩
end DL
set_option Elab.async false
set_option linter.all false
set_option maxRecDepth 100000
set_option maxHeartbeats 4000000
set_option autoImplicit false
/-! The data level: a def that calls the lambda it got; x(lambda: e); the end of a law. -/
namespace DL
open PySem PySem.Spec PyProof.Rows L2

abbrev wordCx (X : Cx) (Ng : List Str) (x : Str) (sg : Scope) (g : Addr) (cdg : Value) (s : Shared) (H : Hp) : Cx := cxOf C8.CX0 X.prog X.w X.K X.mg X.base Ng x sg g cdg X.A X.stack s H C8.E0
theorem gives_D {X : Cx} {Ng : List Str} {x : Str} {sg : Scope} {g : Addr} {cdg : Value} {bg : List Stmt} {a q : Str} {n : Nat} {F : WF} {B : Addr → Hp → List Addr → CallF → DS} (hn : n = Ng.length)
    (hB : ∀ (s : Shared) (H : Hp) (f : Addr) (G0 : Hp) (la0 : List Addr) (c : CallF), (∀ (W : WX) (pn : List (Addr × Obj)) (xe : Value → Shared → Prop) (p1 p2 : Pos), Takes ((wordCx X Ng x sg g cdg s H).tr pn xe) W →
      PE ((wordCx X Ng x sg g cdg s H).tr pn xe) (.Call (.Name a p1) [] [] p2) (lL X.K W (dAct n f G0 la0 c))) → PSs (wordCx X Ng x sg g cdg s H).nox bg (lS X.K W0 (B f G0 la0 c)))
    (hF : ∀ (f : Addr) (G0 : Hp) (la0 : List Addr) (c : CallF) (T : List Ob) (Q : Sl → List Ob → Prop), F c T Q → B f G0 la0 c (endsOf T.length Q (fun _ _ => False)) (startD n 1 [.clo f G0 la0] T)) :
    LamX.GivesTo X Ng x sg g cdg bg a q (TTd X.K F) := by
  intro f c' s H Q tl act hc h
  obtain ⟨G0, la0, T, c, P, rl, real, fp, post⟩ := h
  obtain ⟨s1, rl1⟩ := rl.code hc
  refine ⟨lS X.K W0 (B f (upd G0 c' (LamX.CodeO c' q)) la0 c), hB s H f _ la0 c (fun W pn xe p1 p2 tk => ?_), startD n 1 [.clo f (upd G0 c' (LamX.CodeO c' q)) la0] T, _, la0, endsOf T.length P (fun _ _ => False),
    start_re hn rfl rl1 (.cons ⟨rfl, Same.refl _, List.prefix_rfl⟩ .nil), hF f _ la0 c T P fp, ends_bk rl1.len (fun r T' v G' la' H' p g pp r1 sr => post r T' v G' la' H' p (s1.trans g) pp r1 sr) (fun _ _ _ _ _ _ _ z _ _ _ _ => z.elim)⟩
  refine pe_imp (act (fun cls d σ H => σ.length = ((wordCx X Ng x sg g cdg s H).tr pn xe).N.length → W cls d σ H) pn xe (fun cls d H' => ∀ σ', σ'.length = Ng.length → W cls d σ' H') p1 p2 (Takes.len tk) (fun cls d σ' H' e h => e σ' h)) fun σZ HZ QZ ⟨ρ, G, la, P2, XX, re, hh, q2, xo⟩ => ?_
  obtain ⟨hs, hcall⟩ := hh
  obtain ⟨v, hv, ev, sg2, pl⟩ := re.at_ 0 _ hs
  subst ev
  refine ⟨hv, re.ext _ _ (sg2 _ _ upd_same), real G la HZ ρ.T _ _ QZ _ hcall re.tb (s1.trans sg2) pl (fun r T' v G' la' H' p g pp r1 sr => q2 _ _ v G' la' H' p ⟨g, pp, ⟨r1, re.sl, fun i y hy => ?_⟩⟩ sr) (fun y T' G' la' H' cls od p g pp r1 xr σ' hl => xo y _ σ' G' la' H' cls od p ⟨g, pp, ⟨r1, ?_, fun i y hy => ?_⟩⟩ xr)⟩
  · obtain ⟨u, hu, ru⟩ := re.at_ i y hy
    exact ⟨u, hu, ru.grow g pp⟩
  · show (List.replicate n none).length = σ'.length
    rw [List.length_replicate, hl, hn]
  · have hy' : (List.replicate n (none : Option Sl))[i]? = some (some y) := hy
    rw [List.getElem?_replicate] at hy'
    split at hy' <;> cases hy'

/-- x(lambda: e): F is what x does with what it gets -/
def dLam (F : WF) (fb : DL') : DL' := fun X ρ Q => F (fun T Q' QX' => fb (fun x ρ' => QX' x ρ'.T) ⟨T, ρ.s⟩ (fun r ρ' => Q' r ρ'.T)) ρ.T (fun r T' => Q r ⟨T', ρ.s⟩)
/-- the def that gets lambdas, as it stands -/
structure LWord (K : PySem.W.Frag) (mg : Str → Option Value) (x a : Str) (st : Stmt) (Ng : List Str) (g : Addr) (cdv : Value) : Prop where
  ex : ∃ (oc : Value) (od an : Option Addr) (osl : Array (Option Value)) (kV doc pm ct : Value), K.lookup g = some ⟨oc, od, .func (PySem.W.fnOf x x (defArgs st) (defBody st) (defScope st) .none kV doc pm an cdv ct), osl⟩ ∧
    Binds K (PySem.W.fnOf x x (defArgs st) (defBody st) (defScope st) .none kV doc pm an cdv ct) [a] []
  code : PySem.W.codeIn K cdv x = true
  keep : PySem.W.keepIn K (.ref g) = true
  mg : mg x = some (.ref g)
  sc : FnScope Ng [a] (defScope st)
  at0 : Ng[0]? = some a
  vis : Vis (defScope st) a
theorem dl_lam {X : Cx} {W : WX} {x a : Str} {st : Stmt} {Ng : List Str} {g c P : Addr} {cdv : Value} {k : Nat} {params : Arguments} {body : Expr} {scope : Scope} {F : WF} {fb : DL'} {p lpos pos : Pos} (Wd : LWord X.K X.mg x a st Ng g cdv)
    (hG : LamX.GivesTo X Ng x (defScope st) g cdv (defBody st) a (X.env.qual ++ "<lambda>") (TTd X.K F)) (TB : LamX.TabB X.base X.mg c P) (hcode : X.env.code = .ref c) (hmT : (P, X.env.qual ++ "<lambda>") ∈ tabsOf X.K)
    (hu : ∀ p ∈ tabsOf X.K, p.1 = P → p.2 = X.env.qual ++ "<lambda>") (hr : Room (k + 2) X.A) (L : LamX.LamS X.env.scope scope)
    (hbody : ∀ (A : Around) (outer : List PySem.Env) (s : Shared) (H : Hp) (E : XK) (f c' : Addr), Room k (A.deeper (LamX.lamEnv X scope s.heap.objs.size f c')) → PE (LamX.lamCx X A outer s H E scope f c') body (lL X.K (fun cls d _ H => E cls d H) fb))
    (hbind : ∀ (q : Str) (cl : List (Str × Addr)) (pm cv ctv : Value), bindArgs (PySem.W.kla_fn "<lambda>" q params body scope cl pm cv ctv) ⟨[], []⟩ = pure [] := by intros; rfl) (hdef : defaultsOf params X.env = ([], []) := by rfl)
    (hg : Gl X x := by rfl) (hdb : (x == ("__debug__" : Str)) = false := by decide) (hd : (a == ("__debug__" : Str)) = false := by decide) (hcd : (a == ("__classdict__" : Str)) = false := by decide) :
    PE X (.Call (.Name x p) [.Lambda params body scope lpos] [] pos) (lL X.K W (dLam F fb)) := by
  obtain ⟨oc, od, an, osl, kV, doc, pm, ct, lk, hb⟩ := Wd.ex
  refine pe_imp (LamX.pe_lamcall (T := tabsOf X.K) (TT := TTd X.K F) (t := fun E => lL X.K (fun cls d _ H => E cls d H) fb) hg Wd.mg Wd.keep lk Wd.code hb Wd.sc Wd.at0 Wd.vis hG TB hcode hmT hu hr L hdef hbind hbody hdb hd hcd) fun σ H Q ⟨ρ, G, la, P2, XX, r, hF, q, xo⟩ => ?_
  have gr : ∀ {G' : Hp} {la' : List Addr} {i : Nat} {y : Sl}, Same G G' → la <+: la' → ρ.s[i]? = some (some y) → ∃ v, σ[i]? = some (some v) ∧ SlR X.K G' la' v y := fun {G' la' i y} g pp hy => by
    obtain ⟨u, hu, ru⟩ := r.at_ i y hy
    exact ⟨u, hu, ru.grow g pp⟩
  refine ⟨fun p hp => (r.tb.tbl p hp).2, fun H1 eN T1 => ⟨G, la, ρ.T, _, _, r.tb.extN eN T1, ?_, hF, fun r2 T' v G' la' H' p g pp rl sr => q _ _ v G' la' H' p ⟨g, pp, ⟨rl, r.sl, fun i y hy => gr g pp hy⟩⟩ sr⟩⟩
  intro G' la' H' T' Q' QX' Qv E hc rl sg pl kq kx
  exact ⟨⟨T', ρ.s⟩, G', la', _, _, ⟨rl, r.sl, fun i y hy => gr sg pl hy⟩, hc, fun r2 ρ' v G2 la2 H2 p a z => kq r2 ρ'.T v G2 la2 H2 p a.g a.p a.r.tb z, fun y ρ' σ' G2 la2 H2 cls od p a z => kx y ρ'.T G2 la2 H2 cls od p a.g a.p a.r.tb z⟩

/-! ### a name that is one of several defs -/
def lookF : List (Str × DF) → Str → Option DF
  | [], _ => none
  | (x, S) :: r, y => if (y == x) = true then some S else lookF r y
theorem lookF_nil {X : Cx} {k n : Nat} : ∀ y S, lookF [] y = some S → Kept1 X k n y S := fun y S h => by cases h
theorem lookF_cons {X : Cx} {k n : Nat} {x : Str} {S : DF} {l : List (Str × DF)} (h : Kept1 X k n x S) (r : ∀ y S, lookF l y = some S → Kept1 X k n y S) : ∀ y S', lookF ((x, S) :: l) y = some S' → Kept1 X k n y S' := fun y S' e => by
  unfold lookF at e
  split at e
  · rename_i q
    have e1 : y = x := by simpa using q
    have e2 := Option.some.inj e
    subst e1 e2
    exact h
  · exact r y S' e
theorem kept_up {X : Cx} {j k n : Nat} {x : Str} {S : DF} {f : Addr} {fd : FuncData} {ps : List Str} (F : FnOk X.prog X.w X.K X.mg X.base (L2.CX X.prog X.w) j f fd ps (spD X.K n S)) (h : j ≤ k) (hn : PySem.W.nsIn X.K mainGlobals x = some (some (.ref f))) (hk : PySem.W.keepIn X.K (.ref f) = true) (hb : Binds X.K fd ps []) : Kept1 X k n x S :=
  ⟨f, fd, ps, hn, ⟨F.len, fun A outer s H args us vs Q E hr => F.run A outer s H args us vs Q E (hr.mono h)⟩, hk, hb⟩

/-! ### which errors a clause takes -/
theorem exq_nil {K : PySem.W.Frag} {c : Value} {f : Str → Bool} : ∀ n ∈ ([] : List Str), ∀ cls, PySem.W.nsIn K mainGlobals n = some (some cls) → PySem.W.exmOne K cls c = some (f n) := fun n h => by simp at h
theorem exq_cons {K : PySem.W.Frag} {c : Value} {f : Str → Bool} {n : Str} {R : List Str} {C : Addr} {b : Bool} (hn : PySem.W.nsIn K mainGlobals n = some (some (.ref C))) (hx : PySem.W.exmOne K (.ref C) c = some b) (hb : b = f n)
    (r : ∀ n ∈ R, ∀ cls, PySem.W.nsIn K mainGlobals n = some (some cls) → PySem.W.exmOne K cls c = some (f n)) : ∀ m ∈ n :: R, ∀ cls, PySem.W.nsIn K mainGlobals m = some (some cls) → PySem.W.exmOne K cls c = some (f m) := fun m h cls hc => by
  rcases List.mem_cons.mp h with rfl | h
  · rw [hn] at hc
    cases hc
    rw [hx, hb]
  · exact r m h cls hc

/-! ### the end of a law -/
theorem walk_ofD {l : PySem.W.OpenLaw} {n k : Nat} {q : Program} {loose : List Str} {XP : (Str → Option Value) → Heap → Prop} {YP : World → Heap → Prop} {d : DefRec} {K : Params → PySem.W.Frag} {CX : World → CXT} {x : Str}
    (hn : l.most = some n) (hn2 : n ≤ sizeLine) (hdf : d.params.defaults = []) (hr : Room k callerA) (hY : ∀ (w : World) (h : Heap), YP w h → (K w.params).In h)
    (F : ∀ (w : World) (mg mb : Str → Option Value) (fa : Addr) (h : Heap) (lo : List Str) (mean : ExcName → Option Value), YP w h → (K w.params).In h → Top q lo mean mg mb h → mg d.name = some (.ref fa) → LamX.LawAtS l w (K w.params) (CX w) k n x mg fa h)
    (hCX : ∀ (w : World) (H : Hp) (s : Shared) (e : Value) (s' : Shared), CX w [] H s (fun _ _ _ => False) e s' → False) : PySem.W.WalkO q loose XP YP l.row.toRowW d [] (fun f vs => PySem.call f vs) := by
  refine Att.attach_callB hn hdf fun w s0 s1 mg mb fa o pm cd doc a vs ns G Y ho hd hcd hmg hobj hints hlen hbits hg => ?_
  have KX := hY w _ Y
  obtain ⟨fd, cs, sp, hT, nT, C, hb, hsp, hF⟩ := F w mg mb fa _ _ _ Y KX G.T hmg
  exact LamX.law_callTs KX G.T.g G.T.b G.T.builtins G.T.nolimit hg hT nT C G.T.bmain hobj hints (Nat.le_trans hlen hn2) hr hF hb (fun H hH hS => hsp H a ns hlen hbits hH hS) fun H e s' => hCX w H s1 e s'
/-- the known part at the start: all but the tables -/
def lessTbl (H : Hp) : Hp := fun b => match H b with
  | some (.tbl _) => none
  | o => o
theorem less_same (H : Hp) : Same (lessTbl H) H := fun b o e => by
  unfold lessTbl at e
  split at e
  · cases e
  · exact e
theorem less_nt (H : Hp) : NoTbl (lessTbl H) := fun b ps e => by
  unfold lessTbl at e
  split at e
  · cases e
  · rename_i z
    exact z ps e
theorem less_at {H : Hp} {b : Addr} {o : HO} (e : H b = some o) (n : ∀ ps, o ≠ .tbl ps) : lessTbl H b = some o := by
  unfold lessTbl
  rw [e]
  cases o <;> first | rfl | exact absurd rfl (n _)
theorem less_none {H : Hp} {b : Addr} {ps : Array Value} (e : H b = some (.tbl ps)) : lessTbl H b = none := by
  unfold lessTbl
  rw [e]
theorem less_seq {K : PySem.W.Frag} {H : Hp} {a : Addr} {vs : List V} (h : SqL K H a vs) : SqL K (lessTbl H) a vs := by
  rcases h with (h | ⟨o, h⟩) | h
  · exact .inl (.inl (less_at h fun ps z => by cases z))
  · exact .inl (.inr ⟨o, less_at h fun ps z => by cases z⟩)
  · exact .inr h
theorem law_spT {K : PySem.W.Frag} {S : DF} {cs : List (Addr × Addr)} (ht : ∀ p ∈ tabsOf K, ∃ c, (c, p.1) ∈ cs) (hlaw : ∀ (ns : List Int) (T : List Ob) (Q : Sl → List Ob → Prop) (QX : Xn → List Ob → Prop), ns.length ≤ 63 → (∀ T', Q (.dat (.bl true)) T') → S [.dat (.scr ns)] T Q QX) (H : Hp) (a : Addr) (ns : List Int) (hl : ns.length ≤ 63)
    (hH : ∀ p ∈ cs, H p.2 = some (.tbl #[])) (hS : SqL K H a (ns.map V.int)) : spD K 1 S [.ref a] H (fun v _ => v = .bl true) fun _ _ _ => False :=
  ⟨rfl, [.dat (.scr ns)], lessTbl H, [], [], fun r _ => r = .dat (.bl true), fun _ _ => False, ⟨less_same H, List.nodup_nil, rfl, fun k a o h => by simp at h, fun k a h => by simp at h, less_nt H, fun p hp => by
    obtain ⟨c, hc⟩ := ht p hp
    exact ⟨less_none (hH _ hc), LamX.TabS.nil (hH _ hc)⟩⟩, .cons (.scr (less_seq hS)) .nil, hlaw ns [] _ _ hl (fun _ => rfl), fun r T' v G' la' H' e _ _ _ z => by
    subst e
    cases z
    rfl, fun _ _ _ _ _ _ _ f _ _ _ _ => f.elim⟩
theorem cx_none {P : Program} {w : World} {H : Hp} {s s' : Shared} {e : Value} (h : L2.CX P w [] H s (fun _ _ _ => False) e s') : False := by
  obtain ⟨a, B, H', cls, d, _, _, _, _, _, _, _, hE⟩ := h
  exact hE
end DL
set_option Elab.async false
set_option linter.all false
set_option maxRecDepth 100000
set_option maxHeartbeats 4000000
set_option autoImplicit false
/-! The data level: two names at once, by a tuple that is built. -/
namespace DL
open PySem PySem.Spec PyProof.Rows L2
theorem ds_par2T (i j : Nat) {X : Cx} {W : WX} {x y : Str} {a b : Expr} {f g : DL'} {px py pt pos : Pos} {kt k2 pt2} (hc : X.calm = true) (hN : X.N.Nodup) (ha : PA X [a, b] (lA X.K W (dCons f (dCons g dNil))))
    (hi : X.N[i]? = some x := by rfl) (hj : X.N[j]? = some y := by rfl) (hx : Loc X.env.scope x := by first | exact Or.inl rfl | exact Or.inr rfl) (hy : Loc X.env.scope y := by first | exact Or.inl rfl | exact Or.inr rfl)
    (hfx : X.fn x = true ∨ X.env.scope.names.lookup x = some .local := by first | exact .inl rfl | exact .inr rfl | assumption) (hfy : X.fn y = true ∨ X.env.scope.names.lookup y = some .local := by first | exact .inl rfl | exact .inr rfl | assumption)
    (hs : swapsWithSole [.Tuple [.Name x px, .Name y py] kt pt] (.Tuple [a, b] k2 pt2) pos.line X.env = pure false := by rfl) (hw : swappedStores [.Tuple [.Name x px, .Name y py] kt pt] (.Tuple [a, b] k2 pt2) X.env = pure none := by rfl)
    (h1 : (assignEach [.Tuple [.Name x px, .Name y py] kt pt] X.env).map (·.2) = [assign (.Tuple [.Name x px, .Name y py] kt pt) X.env] := by rfl) (h2 : (assignEach [.Name x px, .Name y py] X.env).map (·.2) = assign (.Name x px) X.env :: (assignEach [.Name y py] X.env).map (·.2) := by rfl)
    (h3 : (assignEach [.Name y py] X.env).map (·.2) = assign (.Name y py) X.env :: (assignEach [] X.env).map (·.2) := by rfl) (hn : (assignEach [.Name x px, .Name y py] X.env).length = 2 := by rfl) (hst : (assignEach [.Name x px, .Name y py] X.env).findIdx? (·.1) = none := by rfl) :
    PS X (.Assign [.Tuple [.Name x px, .Name y py] kt pt] (.Tuple [a, b] k2 pt2) pos) (lS X.K W (sPar2 i j f g)) :=
  ps_imp (ps_asg (pe_tup ha) (pg_tup hc (pgs_cons (pg_name (i := i) hN hi hx hfx) (pgs_cons (pg_name (i := j) hN hj hy hfy) pgs_nil h3) h2) hn hst) hs hw h1) fun D σ H ⟨ρ, G, la, E, r, h, b⟩ => ⟨ρ, G, la, fun xs ρ2 => ∃ u v, xs = [u, v] ∧ E.nx ⟨ρ2.T, (ρ2.s.set i (some u)).set j (some v)⟩, _, r, by
    show f E.xn ρ fun x ρ1 => g E.xn ρ1 fun y ρ2 => ∃ u v, [x, y] = [u, v] ∧ E.nx ⟨ρ2.T, (ρ2.s.set i (some u)).set j (some v)⟩
    have e : (fun (x : Sl) (ρ1 : Env) => g E.xn ρ1 fun y ρ2 => ∃ u v, [x, y] = [u, v] ∧ E.nx ⟨ρ2.T, (ρ2.s.set i (some u)).set j (some v)⟩) = fun x ρ1 => g E.xn ρ1 fun y ρ2 => E.nx ⟨ρ2.T, (ρ2.s.set i (some x)).set j (some y)⟩ := by
      funext x ρ1
      congr 1
      funext y ρ2
      exact propext ⟨fun ⟨u, v, h1, h2⟩ => by cases h1; exact h2, fun h2 => ⟨x, y, rfl, h2⟩⟩
    rw [e]
    exact h, fun xs ρ2 vs G2 la2 H2 p a z => by
    obtain ⟨u, v, rfl, p⟩ := p
    cases z with
    | cons z1 z =>
      cases z with
      | cons z2 z =>
        cases z
        rename_i v1 v2
        refine ⟨by show 2 ≤ sizeLine; decide, fun q hq => ⟨_, _, rfl, .inl (.inl upd_same), rfl, _, _, rfl, _, _, rfl, rfl, ?_⟩⟩
        have a2 := a.grow (Grow.hid (o := .tup [v1, v2]) a.r.ext hq)
        exact b.nx _ _ _ _ _ p ⟨a2.g, a2.p, (a2.r.set z1).set (ρ := ⟨ρ2.T, ρ2.s.set i (some u)⟩) z2⟩, b.xn⟩
end DL
set_option Elab.async false
set_option linter.all false
set_option maxRecDepth 100000
set_option maxHeartbeats 4000000
set_option autoImplicit false
/-! Errors with a field: their own __init__, raised, caught by name. -/
namespace DL
open PySem PySem.Spec PyProof.Rows L2

/-! ### B.__init__(self, ..), B an own class of errors -/
/-- what the text says of the base class -/
structure BaseC (K : PySem.W.Frag) (mg : Str → Option Value) (x : Str) (B : Addr) : Prop where
  g : mg x = some (.ref B)
  k : PySem.W.keepIn K (.ref B) = true
  rd : PySem.W.readsIn K B (.type "type") = true
  ga : PySem.W.specialIn K (.ref B) "__getattribute__" = some (some (.builtin "type.__getattribute__"))
  i : PySem.W.findCls K (.ref B) (.type "type") "__init__" = some (.val (.builtin "ValueError.__init__"))
section
variable {X : Cx} {e : Expr} {es : List Expr} {ta : TA} {p1 p2 pos : Pos} {x : Str} {B : Addr}
theorem pe_baseinit {pl : Sem Bool} (b : BaseC X.K X.mg x B) (ha : PA X (e :: es) ta) (hg : Gl X x := by rfl) (hdb : (x == ("__debug__" : Str)) = false := by decide)
    (hc : eval (.Call (.Attribute (.Name x p1) "__init__" p2) (e :: es) [] pos) X.env = (do
      let ov ← eval (.Name x p1) X.env
      standAt p2.atName
      let (f, first) ← holding [ov] (getMethod ov "__init__" pl)
      callWith pos f first (backTo pos (starEach (e :: es) X.env)) (backToKw pos (keywordEach [] X.env))) := by rfl)
    (he : starEach (e :: es) X.env = (false, eval e X.env) :: starEach es X.env := by rfl) (hpl : (backTo pos (starEach es X.env)).any (·.1) = false := by rfl) :
    PE X (.Call (.Attribute (.Name x p1) "__init__" p2) (e :: es) [] pos) (tVeI X.K ta) := by
  refine ⟨fun pins s σ H Q I h => ?_⟩
  refine PySem.W.methodCall_KW (ld_glob I hg b.g ?_ hdb) hc
  refine PySem.W.method_cls I.kIn b.ga ?_
  refine PySem.W.cls_value I.kIn b.rd b.i (by decide +kernel) ?_
  show wpAny _ _ (callWith pos (Value.builtin "ValueError.__init__") [] (backTo pos (starEach (e :: es) X.env)) []) _ _ _
  refine PyProof.Rows.callWith_method1 (thn (ha.run pos pins _ σ H _ (I.tok _) h) fun us s1 ⟨vs, H1, I1, r1, a, C, ws, ev, hl, T, ea, q⟩ => ?_) he hpl
  subst ev
  cases r1 with
  | @cons _ u0 _ ur ra rw' =>
    obtain rfl : u0 = Value.ref a := ra
    have hlen : ur.length ≤ sizeLine := by
      rw [← Paired.length rw', sizeLine_eq]
      omega
    exact oinit_ok T I1 ea hlen fun s' J => ⟨.non, H1, J, rfl, q⟩
end

/-! ### an own __init__ that keeps one field -/
def spI (f : Str) (C : Addr) : Sp := fun vs H Q _ => ∃ a x, vs = [.ref a, x] ∧ H a = some (exo a C none) ∧ ∀ dx, H dx = none → dx ≠ a → Q .non (upd (upd H dx (exd dx [(f, x)])) a (exo a C (some dx)))
section
variable {P : Program} {w : World} {K : PySem.W.Frag} {mg : Str → Option Value} {base : Heap}
theorem fn_ini {CX : CXT} {f : Str} {C fI : Addr} {name qual : Str} {params : Arguments} {body : List Stmt} {scope : Scope} {kV doc pm cdv ct dV oc : Value} {od an : Option Addr} {osl : Array (Option Value)} {N ps : List Str} {k : Nat}
    (lk : K.lookup fI = some ⟨oc, od, .func (PySem.W.fnOf name qual params body scope dV kV doc pm an cdv ct), osl⟩) (hcd : PySem.W.codeIn K cdv qual = true) (S : FnScope N ps scope) (hn : ps.length = 2)
    (T : OexC K C) (hno : PySem.W.findIn K (.ref C) f = some none) (m : Str)
    (hB : ∀ (A : Around) (outer : List PySem.Env) (s : Shared) (H : Hp) (E : XK), Room k (A.deeper (envOfC qual scope s.heap.objs.size fI cdv)) →
      PSs (cxOf CX P w K mg base N qual scope fI cdv A outer s H E) body (tSeq (tDrop (tVeI K (tCons (tVar 0) (tCons (tC (.str m)) tNil)))) (tOst K f (tVar 0) (tVar 1)))) :
    FnOk P w K mg base CX (k + 1) fI (PySem.W.fnOf name qual params body scope dV kV doc pm an cdv ct) ps (spI f C) := by
  refine fn_of lk hcd S (fun vs H Q E h => ?_) (fun A outer s H vs Q E hr h => ⟨_, hB A outer s H E hr, ?_⟩)
  · obtain ⟨a, x, rfl, _⟩ := h
    exact hn.symm
  · obtain ⟨a, x, rfl, ha, q⟩ := h
    have s0 : (L2.start N [V.ref a, x])[0]? = some (some (.ref a)) := rfl
    have s1 : (L2.start N [V.ref a, x])[1]? = some (some x) := rfl
    refine ⟨.ref a, s0, a, C, [.str m], rfl, by simp, T, ha, ?_⟩
    refine ⟨x, s1, .ref a, s0, a, C, rfl, T, hno, .inl ⟨ha, fun dx hd ne => q dx hd ne⟩⟩
end

/-! ### raise C(e), C with such an __init__ -/
def sRaiseF (n f : Str) (fe : DE) : DS := fun E ρ => fe E.xn ρ fun d ρ' => E.xn ⟨n, some (f, d)⟩ ρ'
section
variable {X : Cx} {W : WX} {x f : Str} {e : Expr} {fe : DE} {C fI : Addr} {k : Nat} {fd : FuncData} {ps : List Str} {p p3 pos : Pos}
theorem ds_raiseF (hc : X.calm = true) (tk : Takes X W) (T : OexC X.K C) (iC : PySem.W.findIn X.K (.ref C) "__init__" = some (some (.ref fI))) (tI : PySem.W.typeIn X.K (.ref fI) = some (.type "function"))
    (F1 : FnOk X.prog X.w X.K X.mg X.base (L2.CX X.prog X.w) k fI fd ps (spI f C)) (hr : Room (k + 1) X.A) (hb : Binds X.K fd ps []) (hm : X.mg x = some (.ref C)) (hn : PySem.W.nsIn X.K mainGlobals x = some (some (.ref C)))
    (he : PE X e (lE X.K W fe)) (hg : Gl X x := by rfl) (hdb : (x == ("__debug__" : Str)) = false := by decide) (hs : starEach [e] X.env = (false, eval e X.env) :: starEach [] X.env := by rfl) (hpl : (backTo p3 (starEach [] X.env)).any (·.1) = false := by rfl) :
    PS X (.Raise (some (.Call (.Name x p) [e] [] p3)) none pos) (lS X.K W (sRaiseF x f fe)) := by
  refine ps_imp (ps_raise hc tk (pmk_oex T iC tI F1 hr hb (dvs := []) .nil (passes_call tk fun _ _ _ _ h => h.elim) hg hm (pa_cons he pa_nil hs) hdb hs hpl)) fun D σ H ⟨ρ, G, la, E, r, h, b⟩ => ?_
  refine ⟨ρ, G, la, _, E.xn, r, h, fun d ρ' v G' la' H' hp a z => ?_, b.xn⟩
  refine ⟨by simp, fun a0 h0 => ⟨a0, v, rfl, upd_same, fun dx hd ne => ⟨rfl, dx, [(f, v)], upd_same, ?_, ?_, ?_⟩⟩⟩
  · rw [upd_ne ne, upd_same]
  · rw [upd_ne ne] at hd
    exact hd
  · have hd' : H' dx = none := by
      rw [upd_ne ne] at hd
      exact hd
    have e1 : upd (del (upd (upd (upd H' a0 (exo a0 C none)) dx (exd dx [(f, v)])) a0 (exo a0 C (some dx))) a0) dx (.xd [(f, v)]) = upd H' dx (.xd [(f, v)]) := by
      funext b
      by_cases hb : b = dx
      · subst hb
        rw [upd_same, upd_same]
      · rw [upd_ne hb, upd_ne hb]
        by_cases hb2 : b = a0
        · subst hb2
          rw [del_same, h0]
        · rw [del_ne hb2, upd_ne hb2, upd_ne hb, upd_ne hb2]
    rw [e1]
    have w := Grow.new (o := .xd [(f, v)]) a.r.tb.ext hd'
    exact b.xn ⟨x, some (f, d)⟩ ρ' σ _ la' _ (.ref C) (some dx) hp (a.grow w) ⟨hn, dx, v, rfl, upd_same, z.up w.g⟩
end

/-! ### try, with clauses that name the error -/
def hndlF (R : List Str) (E : DN) : List (Str × (Xn → DS)) → XP
  | [] => E.xn
  | (c, S) :: r => fun x ρ => R.contains x.n = true ∧ if isaN x.n c = true then S x { E with xn := X0 } ρ else hndlF R E r x ρ
def sTryF (R : List Str) (B : DS) (cl : List (Str × (Xn → DS))) : DS := fun E ρ => B { E with xn := hndlF R E cl } ρ
/-- y = 'w' + str(e.f), e the error (slot i), y at slot j -/
def sFld (i j : Nat) (w f : Str) : Xn → DS := fun x E ρ => ρ.s[i]? = some none ∧ i ≠ j ∧ ∃ n : Int, x.f = some (f, .int n) ∧ n.natAbs.log2 < 1920 ∧ w.length + Str.length (toString n) ≤ sizeLine ∧ E.nx ⟨ρ.T, ρ.s.set j (some (.dat (.str (w ++ toString n))))⟩
def tFld (i j : Nat) (w f : Str) (A : Addr) (a : Addr) (cls : Value) (d : Option Addr) : TS :=
  tAsg (tOp (fun x y H Q => ∃ i j, x = .str i ∧ y = .str j ∧ i.length + j.length ≤ sizeLine ∧ Q (.str (i ++ j)) H) (tC (.str w)) (tCB (fun xs H Q => ∃ i, xs = [.int i] ∧ i.natAbs.log2 < 1920 ∧ Q (.str (toString i)) H) (tCons (tXf a cls d A f (tVar i)) tNil))) (gName j)
inductive DClF (X : Cx) (R : List Str) : List ExceptHandler → List Cl → List (Str × (Xn → DS)) → Prop
  | nil : DClF X R [] [] []
  | only {c : Str} {A : Addr} {S : DS} {b : Stmt} {su : List Stmt} {np p : Pos} {hs : List ExceptHandler} {ks : List Cl} {cl : List (Str × (Xn → DS))} (nm : Names X c (.ref A))
      (ex : ∀ n ∈ R, ∀ cls, PySem.W.nsIn X.K mainGlobals n = some (some cls) → PySem.W.exmOne X.K cls (.ref A) = some (isaN n c))
      (run : ∀ (a : Addr) (o : Obj) (pn : List (Addr × Obj)), PSs (X.suite a ((a, o) :: pn)) (b :: su) (lS X.K W0 S)) (r : DClF X R hs ks cl) :
      DClF X R (.ExceptHandler (some (.Name c np)) none (b :: su) p :: hs) (⟨.ref A, none, fun _ _ _ => lS X.K W0 S⟩ :: ks) ((c, fun _ => S) :: cl)
  | named {c n w f : Str} {i j : Nat} {A : Addr} {b : Stmt} {su : List Stmt} {np p : Pos} {hs : List ExceptHandler} {ks : List Cl} {cl : List (Str × (Xn → DS))} (nm : Names X c (.ref A)) (nd : X.N.Nodup) (hi : X.N[i]? = some n) (hl : X.env.kindOf n = some .local)
      (ex : ∀ n ∈ R, ∀ cls, PySem.W.nsIn X.K mainGlobals n = some (some cls) → PySem.W.exmOne X.K cls (.ref A) = some (isaN n c)) (hc : PySem.W.nsIn X.K mainGlobals c = some (some (.ref A))) (hd : (c == ("DogError" : Str)) = false)
      (run : ∀ (a : Addr) (o : Obj) (cls : Value) (d : Option Addr) (pn : List (Addr × Obj)), Zc cls d o → (∃ vs, o.data = .fields vs) → PSs (X.suite a ((a, o) :: pn)) (b :: su) (tFld i j w f A a cls d)) (r : DClF X R hs ks cl) :
      DClF X R (.ExceptHandler (some (.Name c np)) (some n) (b :: su) p :: hs) (⟨.ref A, some i, tFld i j w f A⟩ :: ks) ((c, sFld i j w f) :: cl)
section
variable {X : Cx} {W : WX} {R : List Str}
theorem DClF.ok {hs : List ExceptHandler} {ks : List Cl} {cl : List (Str × (Xn → DS))} (h : DClF X R hs ks cl) : ClsOk X hs ks := by
  induction h with
  | nil => exact .nil
  | only nm ex run r ih => exact .cons (.only nm fun a o cls d pn _ _ => run a o pn) ih
  | named nm nd hi hl ex hc hd run r ih => exact .cons (.named nm nd hi hl fun a o cls d pn z f => run a o cls d pn z f) ih
theorem DClF.wish {G : Hp} {la : List Addr} {E : DN} {D : Ends} (b : Bk X.K G la W E D) : ∀ {hs : List ExceptHandler} {ks : List Cl} {cl : List (Str × (Xn → DS))}, DClF X R hs ks cl → ∀ (x : Xn) (ρ' : Env) (σ' : L2.St) (G' : Hp) (la' : List Addr) (H' : Hp) (cls : Value) (od : Option Addr),
    hndlF R E cl x ρ' → Aft X.K G la σ' ρ' G' la' H' → XR X.K G' H' x cls od → (R.contains x.n = true) → wMix X.K W D ks cls od σ' H' := by
  intro hs ks cl h
  induction h with
  | nil =>
    intro x ρ' σ' G' la' H' cls od p a z _
    exact b.xn x ρ' σ' G' la' H' cls od p a z
  | @only c A S b0 su np p0 hs ks cl nm ex run r ih =>
    intro x ρ' σ' G' la' H' cls od p a z hR
    obtain ⟨_, p⟩ := p
    refine ⟨isaN x.n c, ex x.n (by simpa using hR) cls z.1, fun e => ?_, fun e => ?_⟩
    · rw [if_pos e] at p
      intro q hq
      have bb := b.up a.g a.p
      exact ⟨ρ', G', la', _, a.r, p, ⟨bb.nx, bb.bk, bb.ct, bb.rt, fun _ _ _ _ _ _ _ _ f => f.elim⟩⟩
    · rw [if_neg (by rw [e]; exact Bool.false_ne_true)] at p
      exact ih x ρ' σ' G' la' H' cls od p a z hR
  | @named c n w f i j A b0 su np p0 hs ks cl nm nd hi hl ex hc hd run r ih =>
    intro x ρ' σ' G' la' H' cls od p a z hR
    obtain ⟨_, p⟩ := p
    refine ⟨isaN x.n c, ex x.n (by simpa using hR) cls z.1, fun e => ?_, fun e => ?_⟩
    · rw [if_pos e] at p
      intro q hq
      obtain ⟨pi, hij, m, ef, lm, ll, pn⟩ := p
      have exn : x.n = c := by
        unfold isaN at e
        rw [hd, Bool.or_false] at e
        simpa using e
      have ecl : cls = .ref A := by
        have z1 := z.1
        rw [exn, hc] at z1
        cases z1
        rfl
      have z2 := z.2
      rw [ef] at z2
      obtain ⟨dd, v, e1, e2, e3⟩ := z2
      cases e3
      have li : i < σ'.length := by
        rw [← a.r.sl]
        exact (List.getElem?_eq_some_iff.mp pi).1
      have g1 : (σ'.set i (some (.ref q)))[i]? = some (some (V.ref q)) := by
        rw [List.getElem?_set_self li]
      refine ⟨.ref q, g1, rfl, ecl, dd, [(f, .int m)], .int m, e1, e2, by simp [List.lookup], m, rfl, lm, w, _, rfl, rfl, ll, ?_⟩
      refine b.nx ⟨ρ'.T, ρ'.s.set j (some (.dat (.str (w ++ toString m))))⟩ _ G' la' H' pn ⟨a.g, a.p, ⟨a.r.tb, ?_, fun y z hy => ?_⟩⟩
      · simp only [List.length_set]
        exact a.r.sl
      · by_cases hyj : j = y
        · subst hyj
          have lj : j < ρ'.s.length := by
            have := (List.getElem?_eq_some_iff.mp hy).1
            simpa using this
          rw [List.getElem?_set_self lj] at hy
          have ez := Option.some.inj (Option.some.inj hy)
          subst ez
          refine ⟨_, ?_, (.str _ : Dp X.K G' _ _)⟩
          rw [List.getElem?_set_ne hij, List.getElem?_set_self (by rw [List.length_set, ← a.r.sl]; exact lj)]
        · rw [List.getElem?_set_ne hyj] at hy
          have hyi : i ≠ y := fun t => by
            subst t
            rw [pi] at hy
            cases hy
          obtain ⟨u, hu, ru⟩ := a.r.at_ y z hy
          exact ⟨u, by rw [List.getElem?_set_ne hyi, List.getElem?_set_ne hyj, List.getElem?_set_ne hyi]; exact hu, ru⟩
    · rw [if_neg (by rw [e]; exact Bool.false_ne_true)] at p
      exact ih x ρ' σ' G' la' H' cls od p a z hR
end
end DL
set_option Elab.async false
set_option linter.all false
set_option maxRecDepth 100000
set_option maxHeartbeats 4000000
set_option autoImplicit false
/-! Errors as values: made, asked for their class, their field read. -/
namespace DL
open PySem PySem.Spec PyProof.Rows L2
/-- all own classes of errors; the fields of those that keep one -/
def errN : List Str := ["DogError", "InvalidDrill", "InvalidBeginning", "InvalidMany", "InvalidSheep", "InvalidPlace", "InvalidRun", "InvalidIndex", "Unlike", "NothingToUndo", "TooMany", "InvalidText"]
def fldN : List (Str × Str) := [("TooMany", "limit"), ("InvalidText", "line")]
theorem bt_ValueError : bootBuiltins "ValueError" = some (.type "ValueError") := by decide +kernel
theorem exO_tbl {cls : Value} {p : Addr} : ∀ ps, ExO cls p ≠ .tbl ps := fun ps z => by
  have z' : HO.ext _ = HO.tbl ps := z
  cases z'
theorem exd_tbl {p : Addr} {fs : List (Str × V)} : ∀ ps, exd p fs ≠ .tbl ps := fun ps z => by
  have z' : HO.ext _ = HO.tbl ps := z
  cases z'
/-! ### X(e) as a value -/
def dErr (x : Str) (fe : DE) : DE := fun X ρ Q => fe X ρ fun _ ρ' => Q (.err x none) ρ'
def dErf (x f : Str) (fe : DE) : DE := fun X ρ Q => fe X ρ fun d ρ' => match d with
  | .int i => Q (.err x (some (f, i))) ρ'
  | _ => False
section
variable {X : Cx} {W : WX} {x f : Str} {e : Expr} {fe : DE} {C fI : Addr} {k : Nat} {fd : FuncData} {ps : List Str} {p pos : Pos} {ta : TA} {es : List Expr} {sp : Sp}
theorem de_exc (ex : ExcC X.K X.mg x C) (he : PE X e (lE X.K W fe)) (hg : Gl X x := by rfl) (hs : starEach [e] X.env = (false, eval e X.env) :: starEach [] X.env := by rfl) (hdb : (x == ("__debug__" : Str)) = false := by decide) :
    PE X (.Call (.Name x p) [e] [] pos) (lE X.K W (dErr x fe)) :=
  pe_imp (pe_exc1 PySem.F.excBase_ValueError ex.x ex.g ex.k hg he hs hdb) fun σ H Q ⟨ρ, G, la, P, XX, r, h, q, xo⟩ =>
    ⟨ρ, G, la, _, XX, r, h, fun d ρ' v G' la' H' p a z a0 h0 => q (.err x none) ρ' (.ref a0) _ la' _ p (a.grow (Grow.new (o := ExO (.ref C) a0) a.r.tb.ext h0 exO_tbl)) (.err ex.n upd_same), xo⟩
/-- C(e, ..), C with an own __init__, as a value -/
def tVaO (C : Addr) (sp : Sp) (ta : TA) : TE := fun σ H Q => ta σ H fun vs H1 => vs.length ≤ 1000 ∧ ∀ a, H1 a = none → sp (.ref a :: vs) (upd H1 a (exo a C none)) (fun v H2 => v = .non ∧ Q (.ref a) H2) (fun _ _ _ => False)
theorem pe_oexv {CX : CXT} (T : OexC X.K C) (iC : PySem.W.findIn X.K (.ref C) "__init__" = some (some (.ref fI))) (tI : PySem.W.typeIn X.K (.ref fI) = some (.type "function"))
    (F1 : FnOk X.prog X.w X.K X.mg X.base CX k fI fd ps sp) (hr : Room (k + 1) X.A) (hb : Binds X.K fd ps []) (hx : Passes CX X (fun _ _ _ => False)) (hg : Gl X x) (hm : X.mg x = some (.ref C)) (ha : PA X (e :: es) ta)
    (hdb : (x == ("__debug__" : Str)) = false := by decide) (he : starEach (e :: es) X.env = (false, eval e X.env) :: starEach es X.env := by rfl) (hpl : (backTo pos (starEach es X.env)).any (·.1) = false := by rfl) :
    PE X (.Call (.Name x p) (e :: es) [] pos) (tVaO C sp ta) := by
  refine ⟨fun pins s σ H Q I h => ?_⟩
  obtain ⟨nm, q, N, bs, bm, sn, sub, ab, col, dd, k0, k1, k2, k3, k5, hC, hbm⟩ := T.cls
  refine wpAny_Call_Name_kw (ld_glob I hg hm ?_ hdb)
  refine PySem.W.callWith_K (h₀ := X.base) I.ok.mod.kin T.kC (thn (ha.run pos pins s σ H _ I h) fun us s1 ⟨vs, H1, I1, r1, hz, q1⟩ => ⟨I1.kIn, ?_⟩) he hpl
  show wpAny _ _ (call (.ref C) us) _ _ _
  obtain ⟨hp, g, dr, tk, os⟩ := s1
  have hsz : hp.objs.size ≤ hp.objs.size + 1 := Nat.le_succ _
  have hn : H1 (hp.objs.size + 1) = none := I1.hok.fresh hsz
  have hq := q1 (hp.objs.size + 1) hn
  have kk : ∀ b o, hp.get? b = some o → ((hp.push (PySem.W.kdv_tup us)).push (PySem.HandSPX.excO C hp.objs.size)).get? b = some o := fun b o e => Heap.get?_push_of_some _ (Heap.get?_push_of_some _ e)
  have hget : ((hp.push (PySem.W.kdv_tup us)).push (PySem.HandSPX.excO C hp.objs.size)).get? (hp.objs.size + 1) = some (PySem.HandSPX.excO C hp.objs.size) := by heap_get
  have I2 : Inv X pins σ (upd H1 (hp.objs.size + 1) (exo (hp.objs.size + 1) C none)) ⟨(hp.push (PySem.W.kdv_tup us)).push (PySem.HandSPX.excO C hp.objs.size), g, dr, tk, os⟩ :=
    I1.laid (t' := tk) (a := hp.objs.size + 1) (o := exo (hp.objs.size + 1) C none) (h' := (hp.push (PySem.W.kdv_tup us)).push (PySem.HandSPX.excO C hp.objs.size)) kk hsz (exo_ok hget)
  have r2 : Vals (V.ref (hp.objs.size + 1) :: vs) (Value.ref (hp.objs.size + 1) :: us) := .cons rfl r1
  have hl : (Value.ref (hp.objs.size + 1) :: us).length = ps.length := by
    have e := r2.length
    rw [F1.len _ _ _ _ hq] at e
    exact e.symm
  have hus : us.length ≤ sizeLine := by
    rw [← Paired.length r1, sizeLine_eq]
    omega
  have hbb := hb _ (Value.ref (hp.objs.size + 1) :: us) I2.kIn (by simpa using hl)
  rw [List.append_nil] at hbb
  refine wpAny_call (PySem.HandSPX.call_own F.excBase_ValueError (fun Y => PySem.HandSPX.refsVE_contains Y bm hbm) (I1.kIn _ _ hC) (PySem.W.looks_findIn I1.kIn iC) (fun self => PySem.W.bind_fn I1.kIn self tI) hus
    (codeAny_mono (F1.run _ X.stack _ _ ⟨Value.ref (hp.objs.size + 1) :: us, []⟩ (Value.ref (hp.objs.size + 1) :: us) _ _ (fun _ _ _ => False) (hr.make C us []) (I2.env0.make C us []) hbb r2 hq) fun r s' hq' => ?_))
  cases r with
  | error er => exact hx pins σ _ _ er s' I2 hq'
  | ok fl =>
    cases fl with
    | ret u =>
      obtain ⟨v, H2, J, rv, ev, q2⟩ := I2.after hq'
      subst ev
      exact ⟨rv, .ref (hp.objs.size + 1), H2, J, rfl, q2⟩
    | next => exact False.elim hq'
    | brk => exact False.elim hq'
    | cont => exact False.elim hq'
end
section
variable {X : Cx} {W : WX} {x f : Str} {e : Expr} {fe : DE} {C fI : Addr} {k : Nat} {fd : FuncData} {ps : List Str} {p pos : Pos}
theorem de_excF (T : OexC X.K C) (iC : PySem.W.findIn X.K (.ref C) "__init__" = some (some (.ref fI))) (tI : PySem.W.typeIn X.K (.ref fI) = some (.type "function"))
    (F1 : FnOk X.prog X.w X.K X.mg X.base (L2.CX X.prog X.w) k fI fd ps (spI f C)) (hr : Room (k + 1) X.A) (hb : Binds X.K fd ps []) (tk : Takes X W) (hm : X.mg x = some (.ref C)) (hn : PySem.W.nsIn X.K mainGlobals x = some (some (.ref C)))
    (he : PE X e (lE X.K W fe)) (hg : Gl X x := by rfl) (hdb : (x == ("__debug__" : Str)) = false := by decide) (hs : starEach [e] X.env = (false, eval e X.env) :: starEach [] X.env := by rfl) (hpl : (backTo pos (starEach [] X.env)).any (·.1) = false := by rfl) :
    PE X (.Call (.Name x p) [e] [] pos) (lE X.K W (dErf x f fe)) := by
  refine pe_imp (pe_oexv T iC tI F1 hr hb (passes_call tk fun _ _ _ _ h => h.elim) hg hm (pa_cons he pa_nil hs) hdb hs hpl) fun σ H Q ⟨ρ, G, la, P, XX, r, h, q, xo⟩ => ?_
  refine ⟨ρ, G, la, _, XX, r, h, fun d ρ' v G' la' H' hp a z => ?_, xo⟩
  split at hp
  · rename_i i
    cases z
    refine ⟨by simp, fun a0 h0 => ⟨a0, .int i, rfl, upd_same, fun dx hd ne => ⟨rfl, ?_⟩⟩⟩
    have hd' : H' dx = none := by
      rw [upd_ne ne] at hd
      exact hd
    have e1 : upd (upd (upd H' a0 (exo a0 C none)) dx (exd dx [(f, .int i)])) a0 (exo a0 C (some dx)) = upd (upd H' dx (exd dx [(f, .int i)])) a0 (exo a0 C (some dx)) := by
      funext b
      by_cases hb : b = a0
      · subst hb
        rw [upd_same, upd_same]
      · rw [upd_ne hb, upd_ne hb]
        by_cases hb2 : b = dx
        · subst hb2
          rw [upd_same, upd_same]
        · rw [upd_ne hb2, upd_ne hb2, upd_ne hb]
    rw [e1]
    have w1 := Grow.new (o := exd dx [(f, .int i)]) a.r.tb.ext hd' exd_tbl
    have h0' : upd H' dx (exd dx [(f, .int i)]) a0 = none := by
      rw [upd_ne (Ne.symm ne)]
      exact h0
    have w2 := Grow.new (o := exo a0 C (some dx)) w1.i h0' (fun ps => exo_tbl)
    exact q (.err x (some (f, i))) ρ' (.ref a0) _ la' _ hp (a.grow (w1.trans w2)) (.erf hn upd_same (by rw [upd_ne ne, upd_same]))
  · exact hp.elim
end

/-! ### isinstance -/
/-- what the class of an error must say, so that its instances are asked rightly -/
structure ErrK (K : PySem.W.Frag) (C : Addr) : Prop where
  cl : (PySem.W.clsIn K C).isSome = true
  hg : PySem.W.findIn K (.ref C) "__getattribute__" = some (some (.builtin "BaseException.__getattribute__"))
  hk : PySem.W.findIn K (.ref C) "__getattr__" = some none
  hs : PySem.W.subIn K (.ref C) (.type "BaseException") = some true
  ha : PySem.W.findIn K (.ref C) "__class__" = some (some (.builtin "object.__class__"))
  hm : PySem.W.mroIn K C (.type "object") = some true
structure ErrAll (K : PySem.W.Frag) (N : List Str) : Prop where
  hn : PySem.W.specialIn K (.builtin "object.__class__") "__get__" = some (some (.builtin "getset_descriptor.__get__"))
  ht : PySem.W.takesIn K (.builtin "object.__class__") = some true
  c : ∀ n ∈ N, ∀ C, PySem.W.nsIn K mainGlobals n = some (some (.ref C)) → ErrK K C
  i : ∀ n ∈ N, ∀ c ∈ N, ∀ C D, PySem.W.nsIn K mainGlobals n = some (some (.ref C)) → PySem.W.nsIn K mainGlobals c = some (some (.ref D)) → PySem.W.kitOne K (.ref C) (.ref D) = some (isaN n c)
  v : ∀ n ∈ N, ∀ C, PySem.W.nsIn K mainGlobals n = some (some (.ref C)) → PySem.W.kitOne K (.ref C) (.type "ValueError") = some true
theorem fm0 {α : Type} {P : α → Prop} : ∀ p ∈ ([] : List α), P p := fun p h => nomatch h
theorem fm2 {α : Type} {P : α → Prop} {a : α} {l : List α} (h : P a) (r : ∀ p ∈ l, P p) : ∀ p ∈ a :: l, P p := fun p hp => by
  rcases List.mem_cons.mp hp with rfl | hp
  · exact h
  · exact r p hp
theorem fmI {K : PySem.W.Frag} {n c : Str} {C D : Addr} {x : Bool} (h : PySem.W.kitOne K (.ref C) (.ref D) = some x) (e : isaN n c = x := by decide) : PySem.W.kitOne K (.ref C) (.ref D) = some (isaN n c) := by rw [e]; exact h
theorem kit_mk {K : PySem.W.Frag} {C D : Addr} {b : Bool} (h : PySem.W.subIn K (.ref C) (.ref D) = some b) (self : PySem.W.subIn K (.ref C) (.ref C) = some true) (hc : PySem.W.isClsIn K D = true) (ht : PySem.W.typeIn K (.ref D) = some (.type "type")) : PySem.W.kitOne K (.ref C) (.ref D) = some b := by
  unfold PySem.W.kitOne
  by_cases e : C = D
  · subst e
    rw [self] at h
    rw [if_pos (by simp)]
    exact h
  · rw [if_neg (by simp; exact e)]
    show (if ((PySem.W.clsIn K D).isSome && PySem.W.typeIn K (.ref D) == some (.type "type")) = true then PySem.W.subIn K (.ref C) (.ref D) else none) = some b
    rw [show (PySem.W.clsIn K D).isSome = true from hc, ht, if_pos (by decide)]
    exact h
theorem kit_ve {K : PySem.W.Frag} {C : Addr} (h : PySem.W.subIn K (.ref C) (.type "ValueError") = some true) : PySem.W.kitOne K (.ref C) (.type "ValueError") = some true := by
  unfold PySem.W.kitOne
  rw [if_neg (by intro z; cases (eq_of_beq z))]
  show (if PySem.W.kitMeta "ValueError" = true then PySem.W.subIn K (.ref C) (.type "ValueError") else none) = some true
  rw [if_pos (by first | rfl | decide +kernel | kernel_rfl)]
  exact h
theorem errAll_mk {K : PySem.W.Frag} {N : List Str} (L : List (Str × Addr)) (hN : L.map (·.1) = N) (hL : ∀ p ∈ L, PySem.W.nsIn K mainGlobals p.1 = some (some (.ref p.2))) (hc : ∀ p ∈ L, ErrK K p.2)
    (hi : ∀ p ∈ L, ∀ q ∈ L, PySem.W.kitOne K (.ref p.2) (.ref q.2) = some (isaN p.1 q.1)) (hv : ∀ p ∈ L, PySem.W.kitOne K (.ref p.2) (.type "ValueError") = some true)
    (hn : PySem.W.specialIn K (.builtin "object.__class__") "__get__" = some (some (.builtin "getset_descriptor.__get__"))) (ht : PySem.W.takesIn K (.builtin "object.__class__") = some true) : ErrAll K N := by
  subst hN
  have at_ : ∀ n ∈ L.map (·.1), ∀ C, PySem.W.nsIn K mainGlobals n = some (some (.ref C)) → (n, C) ∈ L := fun n hn C h => by
    obtain ⟨p, hp, rfl⟩ := List.mem_map.mp hn
    have := hL p hp
    rw [h] at this
    cases this
    exact hp
  exact ⟨hn, ht, fun n h C e => hc _ (at_ n h C e), fun n h c h' C D e e' => hi _ (at_ n h C e) _ (at_ c h' D e'), fun n h C e => hv _ (at_ n h C e)⟩
theorem fldAll_mk {K : PySem.W.Frag} {F : List (Str × Str)} (L : List ((Str × Str) × Addr)) (hN : L.map (·.1) = F) (hL : ∀ p ∈ L, PySem.W.nsIn K mainGlobals p.1.1 = some (some (.ref p.2))) (hc : ∀ p ∈ L, XfC K p.2 ∧ PySem.W.findIn K (.ref p.2) p.1.2 = some none) :
    ∀ q ∈ F, ∀ C, PySem.W.nsIn K mainGlobals q.1 = some (some (.ref C)) → XfC K C ∧ PySem.W.findIn K (.ref C) q.2 = some none := by
  subst hN
  intro q hq C h
  obtain ⟨p, hp, rfl⟩ := List.mem_map.mp hq
  have := hL p hp
  rw [h] at this
  cases this
  exact hc p hp
def rIsX (K : PySem.W.Frag) : List V → Hp → VK → Prop := fun xs H Q => ∃ (p C : Addr) (c : V) (cv : Value) (b : Bool), xs = [.ref p, c] ∧ (H p = some (ExO (.ref C) p) ∨ ∃ dx fs, H p = some (exo p C (some dx)) ∧ H dx = some (exd dx fs)) ∧ ErrK K C ∧
  PySem.W.specialIn K (.builtin "object.__class__") "__get__" = some (some (.builtin "getset_descriptor.__get__")) ∧ PySem.W.takesIn K (.builtin "object.__class__") = some true ∧ (∀ u, RelV c u → u = cv) ∧ PySem.W.kitOne K (.ref C) cv = some b ∧ Q (.bl b) H
theorem call_isX {X : Cx} : CallR X (.builtin "isinstance") (rIsX X.K) := by
  intro pins s σ H xs us Q I r h
  obtain ⟨p, C, c, cv, b, rfl, hp, E, hn, ht, hcv, e, q⟩ := h
  cases r with
  | cons rx rr =>
    cases rr with
    | cons rt rr =>
      cases rr
      cases rx
      have ec := hcv _ rt
      subst ec
      rcases hp with hp | ⟨dx, fs, hp, hd⟩
      · obtain ⟨⟨oe, vs, ho, hz, hv, h1, _⟩, _, _⟩ := I.hok p _ hp
        have J : PySem.W.InstAt s.heap p oe C none := by
          obtain ⟨oc, od, oda, osl⟩ := oe
          obtain ⟨z1, z2⟩ := hz
          dsimp only at z1 z2 hv
          subst z1 z2 hv
          exact ⟨ho, rfl, rfl, trivial⟩
        exact PySem.W.kia_one (PySem.W.kitx_exc E.cl E.hg E.hk E.hs E.ha hn ht E.hm) I.kIn J e (fun z => nomatch z) fun tk => ⟨.bl b, H, I.kept (t' := tk) fun _ _ z => z, rfl, q⟩
      · obtain ⟨t1, ho⟩ := exo_at I.hok hp
        obtain ⟨mA, ⟨od, es, ep, hod, _⟩, _⟩ := exd_at I.hok hd
        have J : PySem.W.InstAt s.heap p _ C (some od) := ⟨ho, rfl, rfl, hod⟩
        exact PySem.W.kia_one (PySem.W.kitx_exc E.cl E.hg E.hk E.hs E.ha hn ht E.hm) I.kIn J e (fun z => nomatch z) fun tk => ⟨.bl b, H, I.kept (t' := tk) fun _ _ z => z, rfl, q⟩
def gIsE (N : List Str) : List D → (D → Prop) → Prop
  | [.err n _, .fn c], P => N.contains n = true ∧ N.contains c = true ∧ P (.bl (isaN n c))
  | [.err n _, .raw (.ty "ValueError")], P => N.contains n = true ∧ P (.bl true)
  | _, _ => False
theorem c_isE {K : PySem.W.Frag} {N : List Str} (EA : ErrAll K N) : COp K (rIsX K) (gIsE N) := by
  intro G H vs ds P Q sm h gp k
  unfold gIsE at gp
  split at gp
  · rename_i n f c
    obtain ⟨hN, hC, gp⟩ := gp
    obtain ⟨v, u, rfl, a, b⟩ := two_of h
    cases b with
    | fn hc =>
    cases a with
    | err hn hp =>
      exact ⟨_, _, _, _, _, rfl, .inl (sm _ _ hp), EA.c n (by simpa using hN) _ hn, EA.hn, EA.ht, fun u r => r, EA.i n (by simpa using hN) c (by simpa using hC) _ _ hn hc, k _ _ _ _ gp (Grow.refl sm) (.bl _)⟩
    | erf hn hp hd =>
      exact ⟨_, _, _, _, _, rfl, .inr ⟨_, _, sm _ _ hp, sm _ _ hd⟩, EA.c n (by simpa using hN) _ hn, EA.hn, EA.ht, fun u r => r, EA.i n (by simpa using hN) c (by simpa using hC) _ _ hn hc, k _ _ _ _ gp (Grow.refl sm) (.bl _)⟩
  · rename_i n f
    obtain ⟨hN, gp⟩ := gp
    obtain ⟨v, u, rfl, a, b⟩ := two_of h
    cases b
    cases a with
    | err hn hp =>
      exact ⟨_, _, _, _, _, rfl, .inl (sm _ _ hp), EA.c n (by simpa using hN) _ hn, EA.hn, EA.ht, fun u r => r, EA.v n (by simpa using hN) _ hn, k _ _ _ _ gp (Grow.refl sm) (.bl _)⟩
    | erf hn hp hd =>
      exact ⟨_, _, _, _, _, rfl, .inr ⟨_, _, sm _ _ hp, sm _ _ hd⟩, EA.c n (by simpa using hN) _ hn, EA.hn, EA.ht, fun u r => r, EA.v n (by simpa using hN) _ hn, k _ _ _ _ gp (Grow.refl sm) (.bl _)⟩
  · exact gp.elim

/-! ### e.f -/
def tFldX (K : PySem.W.Frag) (f : Str) (te : TE) : TE := fun σ H Q => te σ H fun x H1 => ∃ (p C dx : Addr) (fs : List (Str × V)) (v : V), x = .ref p ∧ H1 p = some (exo p C (some dx)) ∧ H1 dx = some (exd dx fs) ∧ XfC K C ∧ PySem.W.findIn K (.ref C) f = some none ∧ fs.lookup f = some v ∧ Q v H1
theorem pe_fldX {X : Cx} {e : Expr} {te : TE} {pos : Pos} {f : Str} (he : PE X e te) (hb : attributeBase e f X.env (eval e X.env) = eval e X.env := by rfl) : PE X (.Attribute e f pos) (tFldX X.K f te) := by
  refine ⟨fun pins s σ H Q I h => ?_⟩
  refine attr_of hb (thn (he.run pins s σ H _ I h) fun u s1 hh => ?_)
  obtain ⟨x, H1, I1, rx, p, C, dx, fs, v, ex, hp, hd, T, hno, l, q⟩ := hh
  subst ex
  obtain rfl : u = Value.ref p := rx
  obtain ⟨t1, ho⟩ := exo_at I1.hok hp
  obtain ⟨mA, hns, hr⟩ := exd_at I1.hok hd
  obtain ⟨od, hod, hl⟩ := lookIn_ns hns
  obtain ⟨u, hu, ru⟩ := RelO.some_of (v := v) (o := mA f) (by rw [← l]; exact hr f)
  have J : PySem.W.InstAt s1.heap p _ C (some od) := ⟨ho, rfl, rfl, hod⟩
  exact HandSPX.exc_get I1.kIn J T.ga T.gg T.exC (PySem.W.findObj_own T.hdC hno rfl (by rw [hl, hu])) (handed_of ru) ⟨v, H1, I1.tok _, ru, q⟩
/-- F: (class, field) pairs -/
def dFld (F : List (Str × Str)) (f : Str) (fe : DE) : DE := fun X ρ Q => fe X ρ fun d ρ' => match d with
  | .err n (some (g, i)) => g = f ∧ F.contains (n, f) = true ∧ Q (.int i) ρ'
  | _ => False
theorem de_fld {X : Cx} {W : WX} {e : Expr} {fe : DE} {pos : Pos} {f : Str} {F : List (Str × Str)} (hF : ∀ q ∈ F, ∀ C, PySem.W.nsIn X.K mainGlobals q.1 = some (some (.ref C)) → XfC X.K C ∧ PySem.W.findIn X.K (.ref C) q.2 = some none)
    (he : PE X e (lE X.K W fe)) (hb : attributeBase e f X.env (eval e X.env) = eval e X.env := by rfl) : PE X (.Attribute e f pos) (lE X.K W (dFld F f fe)) :=
  pe_imp (pe_fldX he hb) fun σ H Q ⟨ρ, G, la, P, XX, r, h, q, xo⟩ => ⟨ρ, G, la, _, XX, r, h, fun d ρ' v G' la' H' p a z => by
    split at p
    · rename_i n g i
      obtain ⟨rfl, hm, p⟩ := p
      cases z with
      | erf hn hp hd =>
        obtain ⟨t, no⟩ := hF (n, g) (by simpa using hm) _ hn
        exact ⟨_, _, _, _, _, rfl, a.r.tb.ext _ _ hp, a.r.tb.ext _ _ hd, t, no, by simp [List.lookup], q _ _ _ _ _ _ p a (.int i)⟩
    · exact p.elim, xo⟩
end DL
set_option Elab.async false
set_option linter.all false
set_option maxRecDepth 100000
set_option maxHeartbeats 4000000
set_option autoImplicit false
/-! Texts at data level: join, split, strip, str, int, the signs of a text. -/
namespace DL
open PySem PySem.Spec PyProof.Rows L2

/-! ### methods of a text with one argument -/
def GM1 (K : PySem.W.Frag) (r : V → List V → Hp → VK → Prop) (g : D → D → (D → Prop) → Prop) : Prop := ∀ (G H : Hp) (x y : V) (d e : D) (P : D → Prop) (Q : VK), Same G H → Dp K G x d → Dp K G y e → g d e P →
  (∀ z v G' H', P z → Grow G H G' H' → Dp K G' v z → Q v H') → r x [y] H Q
def dM1 (g : D → D → (D → Prop) → Prop) (fo fe : DE) : DE := fun X ρ Q => fo X ρ fun d ρ1 => (∃ a, d = .str a) ∧ fe X ρ1 fun e ρ2 => g d e fun z => Q z ρ2
theorem m1_core {K : PySem.W.Frag} {W : WX} {r : V → List V → Hp → VK → Prop} {g : D → D → (D → Prop) → Prop} {fo fe : DE} (hg : GM1 K r g) : ∀ (σ : L2.St) (H : Hp) (Q : VK), lE K W (dM1 g fo fe) σ H Q → tM1 r (lE K W fo) (lE K W fe) σ H Q := fun σ H Q ⟨ρ, G, la, P, XX, re, h, q, xo⟩ =>
  ⟨ρ, G, la, _, XX, re, h, fun d ρ1 v G1 la1 H1 p1 a1 z1 => ⟨by
      obtain ⟨⟨a, rfl⟩, _⟩ := p1
      cases z1
      exact ⟨_, rfl⟩, ρ1, G1, la1, _, XX, a1.r, p1.2, fun e ρ2 u G2 la2 H2 p2 a2 z2 =>
    hg G2 H2 v u d e _ Q a2.r.ext (z1.up a2.g) z2 p2 fun z w G' H' pz gr dz => q _ _ _ _ _ _ pz ((a1.trans a2).grow gr) dz, xo.up a1.g a1.p⟩, xo⟩
def strsOf : List D → Option (List Str)
  | [] => some []
  | .str a :: r => (strsOf r).map (a :: ·)
  | _ :: _ => none
theorem strsOf_map : ∀ l : List Str, strsOf (l.map .str) = some l
  | [] => rfl
  | a :: l => by
    show (strsOf (l.map .str)).map (a :: ·) = some (a :: l)
    rw [strsOf_map l]
    rfl
theorem strsOf_of {K : PySem.W.Frag} {G : Hp} : ∀ {vs : List V} {ds : List D} {ys : List Str}, Dps K G vs ds → strsOf ds = some ys → vs = ys.map V.str
  | _, _, _, .nil, h => by
    have e := Option.some.inj h
    subst e
    rfl
  | _, .str a :: r, _, .cons x s, h => by
    have h' : (strsOf r).map (a :: ·) = some _ := h
    obtain ⟨t, ht, e⟩ := Option.map_eq_some_iff.mp h'
    subst e
    cases x
    rw [strsOf_of s ht]
    rfl
  | _, .non :: _, _, .cons _ _, h => by cases h
  | _, .bl _ :: _, _, .cons _ _, h => by cases h
  | _, .int _ :: _, _, .cons _ _, h => by cases h
  | _, .raw _ :: _, _, .cons _ _, h => by cases h
  | _, .tup _ :: _, _, .cons _ _, h => by cases h
  | _, .lst _ :: _, _, .cons _ _, h => by cases h
  | _, .scr _ :: _, _, .cons _ _, h => by cases h
  | _, .fn _ :: _, _, .cons _ _, h => by cases h
  | _, .err _ _ :: _, _, .cons _ _, h => by cases h
theorem dps_strs (K : PySem.W.Frag) (G : Hp) : ∀ ys : List Str, Dps K G (ys.map V.str) (ys.map D.str)
  | [] => .nil
  | y :: ys => .cons (.str y) (dps_strs K G ys)
def gJoin : D → D → (D → Prop) → Prop
  | .str a, .lst ds, P => match strsOf ds with
    | some ys => (ys.map (·.length)).sum + ys.length * a.length ≤ 16777216 ∧ P (.str (Txt.join a ys))
    | none => False
  | _, _, _ => False
def gSplit : D → D → (D → Prop) → Prop
  | .str a, .str b, P => ((b.length == 0) = false ∧ a.length + 2 ≤ sizeLine) ∧ P (.lst ((Txt.split a b).map .str))
  | _, _, _ => False
def gStrip : D → D → (D → Prop) → Prop
  | .str a, .str b, P => a.length ≤ sizeLine ∧ P (.str (Txt.stripChars a b))
  | _, _, _ => False
section
variable {X : Cx} {W : WX} {o e : Expr} {fo fe : DE}
theorem g_join {K : PySem.W.Frag} : GM1 K (fun x xs H Q => ∃ a p, ∃ ys : List Str, x = .str a ∧ xs = [.ref p] ∧ (SqL K H p (ys.map V.str) ∨ SqT K H p (ys.map V.str)) ∧ (ys.map (·.length)).sum + ys.length * a.length ≤ 16777216 ∧ Q (.str (Txt.join a ys)) H) gJoin := by
  intro G H x y d e P Q sm dx dy gp k
  unfold gJoin at gp
  split at gp
  · rename_i a ds
    split at gp
    · rename_i ys hy
      cases dx
      cases dy with
      | lst hp hl hd =>
        have ev := strsOf_of hd hy
        subst ev
        exact ⟨a, _, ys, rfl, rfl, .inl (SqL.of (sm _ _ hp)), gp.1, k _ _ _ _ gp.2 (Grow.refl sm) (.str _)⟩
    · exact gp.elim
  · exact gp.elim
theorem g_split {K : PySem.W.Frag} : GM1 K (fun x xs H Q => ∃ a b, x = .str a ∧ xs = [.str b] ∧ (b.length == 0) = false ∧ a.length + 2 ≤ sizeLine ∧ rNewStrs (Txt.split a b) H Q) gSplit := by
  intro G H x y d e P Q sm dx dy gp k
  unfold gSplit at gp
  split at gp
  · rename_i a b
    cases dx
    cases dy
    refine ⟨a, b, rfl, rfl, gp.1.1, gp.1.2, fun p hp => ?_⟩
    have hl : (Txt.split a b).length ≤ sizeLine := Nat.le_trans (PyProof.Rows.split_le a b) gp.1.2
    exact k _ _ _ _ gp.2 (Grow.new (o := .lst ((Txt.split a b).map V.str)) sm hp) (.lst upd_same (by rw [List.length_map]; exact hl) (dps_strs K _ _))
  · exact gp.elim
theorem g_strip {K : PySem.W.Frag} : GM1 K (fun x xs H Q => ∃ a b, x = .str a ∧ xs = [.str b] ∧ a.length ≤ sizeLine ∧ Q (.str (Txt.stripChars a b)) H) gStrip := by
  intro G H x y d e P Q sm dx dy gp k
  unfold gStrip at gp
  split at gp
  · rename_i a b
    cases dx
    cases dy
    exact ⟨a, b, rfl, rfl, gp.1, k _ _ _ _ gp.2 (Grow.refl sm) (.str _)⟩
  · exact gp.elim
theorem de_join {apos pos : Pos} (ho : PE X o (lE X.K W fo)) (he : PE X e (lE X.K W fe)) (hs : starEach [e] X.env = [(false, eval e X.env)] := by rfl) (hbase : attributeBase o "join" X.env (eval o X.env) = eval o X.env := by rfl) (hline : (apos.endLine == pos.line) = true := by rfl) :
    PE X (.Call (.Attribute o "join" apos) [e] [] pos) (lE X.K W (dM1 gJoin fo fe)) := pe_imp (pe_join ho he hs hbase hline) (m1_core g_join)
theorem de_split {apos pos : Pos} (ho : PE X o (lE X.K W fo)) (he : PE X e (lE X.K W fe)) (hs : starEach [e] X.env = [(false, eval e X.env)] := by rfl) (hbase : attributeBase o "split" X.env (eval o X.env) = eval o X.env := by rfl) (hline : (apos.endLine == pos.line) = true := by rfl) :
    PE X (.Call (.Attribute o "split" apos) [e] [] pos) (lE X.K W (dM1 gSplit fo fe)) := pe_imp (pe_split ho he hs hbase hline) (m1_core g_split)
theorem de_strip {apos pos : Pos} (ho : PE X o (lE X.K W fo)) (he : PE X e (lE X.K W fe)) (hs : starEach [e] X.env = [(false, eval e X.env)] := by rfl) (hbase : attributeBase o "strip" X.env (eval o X.env) = eval o X.env := by rfl) (hline : (apos.endLine == pos.line) = true := by rfl) :
    PE X (.Call (.Attribute o "strip" apos) [e] [] pos) (lE X.K W (dM1 gStrip fo fe)) := pe_imp (pe_m1 F.slot_str_strip F.type_str_strip mt_stripChars ho he hs hbase hline) (m1_core g_strip)
end

/-! ### str, int -/
def gStr : List D → (D → Prop) → Prop
  | [.int i], P => i.natAbs.log2 < 1920 ∧ P (.str (toString i))
  | [.str a], P => P (.str a)
  | _, _ => False
theorem cr_str {X : Cx} : CallR X (.type "str") (fun xs H Q => (∃ i, xs = [.int i] ∧ i.natAbs.log2 < 1920 ∧ Q (.str (toString i)) H) ∨ ∃ a, xs = [.str a] ∧ Q (.str a) H) := call_str_int.or SkE.call_str_str
theorem c_str {K : PySem.W.Frag} : COp K (fun xs H Q => (∃ i, xs = [.int i] ∧ i.natAbs.log2 < 1920 ∧ Q (.str (toString i)) H) ∨ ∃ a, xs = [.str a] ∧ Q (.str a) H) gStr := by
  intro G H vs ds P Q sm h gp k
  unfold gStr at gp
  split at gp
  · obtain ⟨v, rfl, a⟩ := one_of h
    cases a
    exact .inl ⟨_, rfl, gp.1, k _ _ _ _ gp.2 (Grow.refl sm) (.str _)⟩
  · obtain ⟨v, rfl, a⟩ := one_of h
    cases a
    exact .inr ⟨_, rfl, k _ _ _ _ gp (Grow.refl sm) (.str _)⟩
  · exact gp.elim
def gIntS : List D → (D → Prop) → Prop
  | [.str a], P => ∃ n, PySem.intText? a = some n ∧ a.length ≤ 640 ∧ P (.int n)
  | _, _ => False
theorem c_intS {K : PySem.W.Frag} : COp K (fun xs H Q => ∃ a n, xs = [.str a] ∧ PySem.intText? a = some n ∧ a.length ≤ 640 ∧ Q (.int n) H) gIntS := by
  intro G H vs ds P Q sm h gp k
  unfold gIntS at gp
  split at gp
  · obtain ⟨v, rfl, a⟩ := one_of h
    obtain ⟨n, h1, h2, h3⟩ := gp
    cases a
    exact ⟨_, n, rfl, h1, h2, k _ _ _ _ h3 (Grow.refl sm) (.int _)⟩
  · exact gp.elim

/-! ### the signs of a text -/
def signsD (x : Str) : List D := x.cps.toList.map fun c => .str ⟨#[c]⟩
def dSgn (f : DE) : DI := fun X ρ Q => f X ρ fun d ρ' => match d with
  | .str x => x.length ≤ sizeLine ∧ Q (signsD x) ρ'
  | _ => False
theorem walkD_s {K : PySem.W.Frag} {G : Hp} (x : Str) : WalkD K (Its x) G (signsD x) := by
  have hl : (signsD x).length = x.cps.size := by simp [signsD]
  refine ⟨fun i H hi _ => ?_, fun H _ => ?_, fun i G' H v H' e e' y z hz => ?_⟩
  · show i < x.cps.size
    omega
  · show x.cps.size ≤ _
    omega
  · obtain ⟨rfl, c, hc, rfl⟩ := y
    have hz' : z = .str ⟨#[c]⟩ := by
      unfold signsD at hz
      rw [List.getElem?_map, Array.getElem?_toList, hc] at hz
      exact (Option.some.inj hz).symm
    subst hz'
    exact ⟨G', Grow.refl e', .str _⟩
theorem di_sgn {X : Cx} {W : WX} {tg e : Expr} {f : DE} (h : PE X e (lE X.K W f)) : PI X tg e (lI X.K W (dSgn f)) :=
  pi_imp (pi_str h) fun σ H R ⟨ρ, G, la, P, XX, r, h, q, xo⟩ => ⟨ρ, G, la, _, XX, r, h, fun d ρ1 v G1 la1 H1 p1 a1 z1 => by
    cases z1 with
    | str x =>
      have p1' : x.length ≤ sizeLine ∧ P (signsD x) ρ1 := p1
      exact ⟨x, rfl, q _ _ _ _ _ _ p1'.2 a1 (walkD_s x) (by
        rw [show (signsD x).length = x.length by simp [signsD, Str.length]]
        exact Nat.le_trans p1'.1 line62)⟩
    | _ => exact (show False from p1).elim, xo⟩
/-- one sign in a text -/
def gInS (neg : Bool) : D → D → (D → Prop) → Prop
  | .str x, .str z, P => ∃ c, x = ⟨#[c]⟩ ∧ P (.bl (if neg then !decide (c ∈ z.cps.toList) else decide (c ∈ z.cps.toList)))
  | _, _, _ => False
theorem g_inS {K : PySem.W.Frag} : GOp K (fun x y H Q => ∃ (c : Nat) (z : Str), x = .str ⟨#[c]⟩ ∧ y = .str z ∧ Q (.bl (decide (c ∈ z.cps.toList))) H) (gInS false) := by
  intro G H x y d e P Q sm dx dy gp k
  unfold gInS at gp
  split at gp
  · obtain ⟨c, rfl, gp⟩ := gp
    cases dx
    cases dy
    exact ⟨c, _, rfl, rfl, k _ _ _ _ gp (Grow.refl sm) (.bl _)⟩
  · exact gp.elim
theorem g_ninS {K : PySem.W.Frag} : GOp K (fun x y H Q => ∃ (c : Nat) (z : Str), x = .str ⟨#[c]⟩ ∧ y = .str z ∧ Q (.bl (!decide (c ∈ z.cps.toList))) H) (gInS true) := by
  intro G H x y d e P Q sm dx dy gp k
  unfold gInS at gp
  split at gp
  · obtain ⟨c, rfl, gp⟩ := gp
    cases dx
    cases dy
    exact ⟨c, _, rfl, rfl, k _ _ _ _ gp (Grow.refl sm) (.bl _)⟩
  · exact gp.elim
end DL
set_option Elab.async false
set_option linter.all false
set_option maxRecDepth 100000
set_option maxHeartbeats 4000000
set_option autoImplicit false
/-! try with named clauses; text * int; index and count of lists. -/
namespace DL
open PySem PySem.Spec PyProof.Rows L2
section
variable {X : Cx} {W : WX} {R : List Str}
theorem ds_tryF {body : List Stmt} {h0 : ExceptHandler} {hds : List ExceptHandler} {ks : List Cl} {pos : Pos} {B : DS} {c : Str × (Xn → DS)} {cl : List (Str × (Xn → DS))} (hs : X.stack = X.env :: X.outer) (hf : X.env.frame = some X.env.locals) (tk : Takes X W)
    (hb : ∀ (W' : WX) (pn : List (Addr × Obj)) (xe : Value → Shared → Prop), Takes (X.tr pn xe) W' → PassesOwn (model X.prog X.w) X.A X.env xe → PSs (X.tr pn xe) body (lS X.K W' B))
    (hk : DClF X R (h0 :: hds) ks (c :: cl)) : PS X (.Try body (h0 :: hds) [] [] pos) (lS X.K W (sTryF R B (c :: cl))) :=
  ps_imp (ps_tryC (tb := fun W' => lS X.K W' B) hs hf tk hb hk.ok) fun D σ H ⟨ρ, G, la, E, r, f, b⟩ =>
    ⟨ρ, G, la, { E with xn := hndlF R E (c :: cl) }, r, f, ⟨b.nx, b.bk, b.ct, b.rt, fun x ρ' σ' G' la' H' cls od p a z => DClF.wish b hk x ρ' σ' G' la' H' cls od p a z p.1⟩⟩
end
/-! ### text * int -/
def repS (a : Str) (k : Int) : Str := ⟨(List.replicate k.toNat a.cps).foldl (· ++ ·) #[]⟩
theorem rep_size (c : Array Nat) : ∀ (n : Nat) (acc : Array Nat), ((List.replicate n c).foldl (· ++ ·) acc).size = acc.size + n * c.size
  | 0, acc => by simp
  | n + 1, acc => by
    rw [List.replicate_succ, List.foldl_cons, rep_size c n, Array.size_append, Nat.succ_mul]
    omega
theorem repS_len (a : Str) (k : Int) : (repS a k).length = k.toNat * a.length := by
  show ((List.replicate k.toNat a.cps).foldl (· ++ ·) #[]).size = _
  rw [rep_size]
  simp [Str.length]
def rMulS : R2 := fun x y H Q => ∃ a k, x = .str a ∧ y = .int k ∧ (2 ≤ k ∧ k ≤ 1000 ∧ 0 < a.length ∧ a.length ≤ 1000) ∧ Q (.str (repS a k)) H
theorem op_mulS {X : Cx} : OpR X (binaryOp .Mult) rMulS := by
  intro pins s σ H x y v u Q I rx ry h
  obtain ⟨a, k, rfl, rfl, ⟨k2, k3, a0, a1⟩, q⟩ := h
  obtain ⟨t, rfl⟩ := rx
  obtain ⟨t', rfl⟩ := ry
  have hk : (k == 1 || a.length == 0) = false := by
    rw [Bool.or_eq_false_iff]
    exact ⟨by simp; omega, by simp; omega⟩
  refine PySem.P.mul_str ?_ (fun _ _ => ?_) (fun _ _ => ?_) ?_
  · rw [Bool.or_eq_false_iff]
    exact ⟨by simp; omega, by simp; omega⟩
  · have e : (9223372036854775807 : Int) / 1000 ≤ (2 ^ 63 - 1) / k := by
      apply Int.le_ediv_of_mul_le (by omega)
      omega
    omega
  · have e : a.length * k.toNat ≤ 1000 * 1000 := Nat.mul_le_mul a1 (by omega)
    unfold Builtin.Str.tooLong
    simp
    have := sizeLine_eq
    omega
  · rw [if_neg (by omega), hk]
    refine ⟨?_, ⟨.str _, H, I.tok _, ⟨_, rfl⟩, q⟩⟩
    have e : k.toNat * a.length ≤ 1000 * 1000 := Nat.mul_le_mul (by omega) a1
    have e2 := repS_len a k
    have := sizeLine_eq
    show (repS a k).length ≤ sizeLine
    omega
def gMulS : D → D → (D → Prop) → Prop
  | .str a, .int k, P => (2 ≤ k ∧ k ≤ 1000 ∧ 0 < a.length ∧ a.length ≤ 1000) ∧ P (.str (repS a k))
  | _, _, _ => False
theorem g_mulS {K : PySem.W.Frag} : GOp K rMulS gMulS := by
  intro G H x y d e P Q sm dx dy gp k
  unfold gMulS at gp
  split at gp
  · cases dx
    cases dy
    exact ⟨_, _, rfl, rfl, gp.1, k _ _ _ _ gp.2 (Grow.refl sm) (.str _)⟩
  · exact gp.elim

/-! ### list.index, list.count -/
def rCntS (K : PySem.W.Frag) : V → List V → Hp → VK → Prop := fun x xs H Q => ∃ (p : Addr) (ys : List Str) (z : Str), x = .ref p ∧ xs = [.str z] ∧ SqL K H p (ys.map V.str) ∧ Q (.int (ys.count z : Nat)) H
theorem eqU_count {z : Str} : ∀ {us : List Value} {ys : List Str}, Vals (ys.map V.str) us → us.countP (eqU (.str z)) = ys.count z
  | us, [], h => by cases h; rfl
  | us, y :: ys, h => by
    cases h with
    | cons a r =>
      obtain ⟨t, rfl⟩ := a
      have ih := eqU_count (z := z) r
      rw [List.countP_cons, List.count_cons, ih]
      rfl
theorem mt_lcountS {X : Cx} : MtR X "list.count" (rCntS X.K) := by
  intro pins s σ H x xs v us Q I rx rxs h
  obtain ⟨p, ys, z, rfl, rfl, hs, q⟩ := h
  cases rx
  obtain ⟨u, rfl, t, rfl⟩ := vals1 rxs
  obtain ⟨its, rv, ⟨⟨cls, dd, data, sl⟩, n, ho, hc, hdn, hd⟩, hlen⟩ := I.list hs
  simp only at hc hd
  subst hc hd
  refine call_meets PySem.F.slot_list_count ⟨_, ho, rfl⟩ PySem.F.entry_list_count (PySem.F.args_list_count_2 _ _)
    (SeqAt.list_countAt p its.toArray n dd sl (.str z t) (eqU (.str z))) ⟨ho, fun w hw => mem_eqAt (x := .str z) ⟨t, rfl⟩ rfl rv (flat_strs ys) w (by simpa using hw), ?_⟩
  have ec : its.toArray.toList.countP (eqU (.str z)) = ys.count z := eqU_count rv
  refine ⟨.int (ys.count z : Nat), H, I.tok _, ⟨s.toks, ?_⟩, q⟩
  show Value.int ((its.toArray.toList.countP (eqU (.str z)) : Nat) : Int) s.toks = Value.int ((ys.count z : Nat) : Int) s.toks
  rw [ec]
/-- a method of a list with one argument -/
def dBM1 (g : D → D → (D → Prop) → Prop) (fo fe : DE) : DE := fun X ρ Q => fo X ρ fun d ρ1 => (∃ ds, d = .lst ds) ∧ fe X ρ1 fun e ρ2 => g d e fun z => Q z ρ2
theorem bm1_core {K : PySem.W.Frag} {W : WX} {r : V → List V → Hp → VK → Prop} {g : D → D → (D → Prop) → Prop} {fo fe : DE} (hg : GM1 K r g) : ∀ (σ : L2.St) (H : Hp) (Q : VK), lE K W (dBM1 g fo fe) σ H Q → tBM K "list" r (lE K W fo) (tCons (lE K W fe) tNil) σ H Q := fun σ H Q ⟨ρ, G, la, P, XX, re, h, q, xo⟩ =>
  ⟨ρ, G, la, _, XX, re, h, fun d ρ1 v G1 la1 H1 p1 a1 z1 => ⟨by
      obtain ⟨⟨ds, rfl⟩, _⟩ := p1
      cases z1 with
      | lst hp hl hd => exact .inl ⟨rfl, _, SqL.of (a1.r.ext _ _ hp)⟩, ρ1, G1, la1, _, XX, a1.r, p1.2, fun e ρ2 u G2 la2 H2 p2 a2 z2 =>
    hg G2 H2 v u d e _ Q a2.r.ext (z1.up a2.g) z2 p2 fun z w G' H' pz gr dz => q _ _ _ _ _ _ pz ((a1.trans a2).grow gr) dz, xo.up a1.g a1.p⟩, xo⟩
def gCount : D → D → (D → Prop) → Prop
  | .lst ds, .str z, P => match strsOf ds with
    | some ys => P (.int (ys.count z : Nat))
    | none => False
  | _, _, _ => False
theorem g_count {K : PySem.W.Frag} : GM1 K (rCntS K) gCount := by
  intro G H x y d e P Q sm dx dy gp k
  unfold gCount at gp
  split at gp
  · split at gp
    · rename_i ys hy
      cases dy
      cases dx with
      | lst hp hl hd =>
        have ev := strsOf_of hd hy
        subst ev
        exact ⟨_, ys, _, rfl, rfl, SqL.of (sm _ _ hp), k _ _ _ _ gp (Grow.refl sm) (.int _)⟩
    · exact gp.elim
  · exact gp.elim
/-- the first place of an equal one -/
def gIndex : D → D → (D → Prop) → Prop
  | .lst ds, d, P => okd 60 d = true ∧ okds 59 ds = true ∧ SeqAt.shaped (.list (toPs ds)) = true ∧ SeqAt.shaped (toP d) = true ∧ ∃ j : Nat, (ds[j]?.map fun z => deq z d) = some true ∧ (∀ m z, m < j → ds[m]? = some z → deq z d = false) ∧ P (.int (j : Nat))
  | _, _, _ => False
theorem toPs_get : ∀ (ds : List D) (j : Nat), (toPs ds)[j]? = ds[j]?.map toP
  | [], j => by simp [toPs]
  | d :: ds, 0 => by simp [toPs]
  | d :: ds, j + 1 => by
    have := toPs_get ds j
    simpa [toPs] using this
theorem g_index {K : PySem.W.Frag} : GM1 K (rIndexD K) gIndex := by
  intro G H x y d e P Q sm dx dy gp k
  unfold gIndex at gp
  split at gp
  · rename_i ds
    obtain ⟨o1, o2, s1, s2, j, hj, hno, gp⟩ := gp
    obtain ⟨z, hz, ez⟩ := Option.map_eq_some_iff.mp hj
    cases dx with
    | lst hp hl hd =>
      refine ⟨_, y, toP e, toPs ds, j, toP z, rfl, rfl, (show L2.Dp K H (.ref _) (toP (.lst ds)) from Dp.l2 sm 60 _ _ (.lst hp hl hd) (by simpa [okd] using o2)), Dp.l2 sm 60 e y dy o1, s1, s2, ?_, ez, fun m z' hm hz' => ?_, k _ _ _ _ gp (Grow.refl sm) (.int _)⟩
      · rw [toPs_get, hz]
        rfl
      · rw [toPs_get] at hz'
        obtain ⟨w, hw, rfl⟩ := Option.map_eq_some_iff.mp hz'
        exact hno m w hm hw
  · exact gp.elim
section
variable {X : Cx} {W : WX} {o e : Expr} {fo fe : DE}
theorem de_count {apos cpos : Pos} (ho : PE X o (lE X.K W fo)) (he : PE X e (lE X.K W fe)) (hbase : attributeBase o "count" X.env (eval o X.env) = eval o X.env := by rfl)
    (hfew : ((backTo cpos (starEach [e] X.env)).all (fun x => !x.1) && (backToKw cpos (keywordEach [] X.env)).all (fun x => x.1.isSome)
      && decide (([e] : List Expr).length + ([] : List Keyword).length + (if ([] : List Keyword).isEmpty then 0 else 1) < 30)) = true := by rfl)
    (hline : (apos.endLine == cpos.line) = true := by rfl) (hs : starEach [e] X.env = (false, eval e X.env) :: starEach [] X.env := by rfl) (hplain : (backTo cpos (starEach [] X.env)).any (·.1) = false := by rfl) :
    PE X (.Call (.Attribute o "count" apos) [e] [] cpos) (lE X.K W (dBM1 gCount fo fe)) := pe_imp (pe_bm F.plainAttrs_list F.slot_list_count F.type_list_count mt_lcountS ho (pa_cons he pa_nil hs) hbase hfew hline hs hplain) (bm1_core g_count)
theorem de_index {apos cpos : Pos} (hu : X.A.units + 65 < cLine) (ho : PE X o (lE X.K W fo)) (he : PE X e (lE X.K W fe)) (hbase : attributeBase o "index" X.env (eval o X.env) = eval o X.env := by rfl)
    (hfew : ((backTo cpos (starEach [e] X.env)).all (fun x => !x.1) && (backToKw cpos (keywordEach [] X.env)).all (fun x => x.1.isSome)
      && decide (([e] : List Expr).length + ([] : List Keyword).length + (if ([] : List Keyword).isEmpty then 0 else 1) < 30)) = true := by rfl)
    (hline : (apos.endLine == cpos.line) = true := by rfl) (hs : starEach [e] X.env = (false, eval e X.env) :: starEach [] X.env := by rfl) (hplain : (backTo cpos (starEach [] X.env)).any (·.1) = false := by rfl) :
    PE X (.Call (.Attribute o "index" apos) [e] [] cpos) (lE X.K W (dBM1 gIndex fo fe)) := pe_imp (pe_bm F.plainAttrs_list F.slot_list_index F.type_list_index (mt_indexD hu) ho (pa_cons he pa_nil hs) hbase hfew hline hs hplain) (bm1_core g_index)
end
end DL
set_option Elab.async false
set_option linter.all false
set_option maxRecDepth 100000
set_option maxHeartbeats 4000000
set_option autoImplicit false
/-! Dicts with texts for keys that are changed. -/
namespace DL
open PySem PySem.Spec PyProof.Rows L2

/-! ### what is known, without an empty dict -/
section
variable {K : PySem.W.Frag} {G : Hp} {p : Addr}
theorem del_at (hp : G p = some (.dK [])) {a : Addr} {o : HO} (h : G a = some o) (n : o ≠ .dK []) : del G p a = some o := by
  rw [del_ne fun e => ?_]
  · exact h
  · subst e
    rw [hp] at h
    exact n (Option.some.inj h).symm
theorem del_t (hp : G p = some (.dK [])) {a : Addr} {vs : List V} (h : SqT K G a vs) : SqT K (del G p) a vs := by
  rcases h with (h | ⟨o, h⟩) | h
  · exact .inl (.inl (del_at hp h (by intro z; cases z)))
  · exact .inl (.inr ⟨o, del_at hp h (by intro z; cases z)⟩)
  · exact .inr h
theorem del_l (hp : G p = some (.dK [])) {a : Addr} {vs : List V} (h : SqL K G a vs) : SqL K (del G p) a vs := by
  rcases h with (h | ⟨o, h⟩) | h
  · exact .inl (.inl (del_at hp h (by intro z; cases z)))
  · exact .inl (.inr ⟨o, del_at hp h (by intro z; cases z)⟩)
  · exact .inr h
theorem exO_dk {cls : Value} {p : Addr} : ExO cls p ≠ .dK [] := fun z => by
  have z' : HO.ext _ = HO.dK [] := z
  cases z'
theorem exo_dk {e C : Addr} {d : Option Addr} : exo e C d ≠ .dK [] := fun z => by
  have z' : HO.ext _ = HO.dK [] := z
  cases z'
theorem exd_dk {p : Addr} {fs : List (Str × V)} : exd p fs ≠ .dK [] := fun z => by
  have z' : HO.ext _ = HO.dK [] := z
  cases z'
mutual
theorem Dp.del (hp : G p = some (.dK [])) : ∀ (d : D) (v : V), Dp K G v d → Dp K (del G p) v d
  | .non, _, h => by cases h; exact .non
  | .bl _, _, h => by cases h; exact .bl _
  | .int _, _, h => by cases h; exact .int _
  | .str _, _, h => by cases h; exact .str _
  | .raw _, _, h => by cases h; exact .raw _
  | .tup ds, _, h => by
    cases h with
    | tup a l r => exact .tup (del_t hp a) l (Dps.del hp ds _ r)
  | .lst ds, _, h => by
    cases h with
    | lst a l r => exact .lst (del_at hp a (by intro z; cases z)) l (Dps.del hp ds _ r)
  | .scr _, _, h => by
    cases h with
    | scr a => exact .scr (del_l hp a)
  | .fn _, _, h => by
    cases h with
    | fn a => exact .fn a
  | .err _ _, _, h => by
    cases h with
    | err a b => exact .err a (del_at hp b exO_dk)
    | erf a b c => exact .erf a (del_at hp b exo_dk) (del_at hp c exd_dk)
theorem Dps.del (hp : G p = some (.dK [])) : ∀ (ds : List D) (vs : List V), Dps K G vs ds → Dps K (del G p) vs ds
  | [], _, h => by cases h; exact .nil
  | d :: ds, _, h => by
    cases h with
    | cons a r => exact .cons (Dp.del hp d _ a) (Dps.del hp ds _ r)
end
theorem del_sub : Same (del G p) G := fun b o e => by
  by_cases hb : b = p
  · subst hb
    rw [del_same] at e
    cases e
  · rw [del_ne hb] at e
    exact e
theorem Rl.del {H : Hp} {la : List Addr} {T : List Ob} (hp : G p = some (.dK [])) (r : Rl K G H la T) : Rl K (L2.del G p) H la T := by
  have dn : ∀ {a : Addr}, G a = none → L2.del G p a = none := fun {a} h => by
    by_cases hb : a = p
    · rw [hb]; exact del_same
    · rw [del_ne hb]; exact h
  refine ⟨del_sub.trans r.ext, r.nd, r.len, fun k a o h1 h2 => ?_, r.there, fun b ps e => r.nt b ps (del_sub _ _ e), fun q hq => ⟨dn (r.tbl q hq).1, (r.tbl q hq).2⟩⟩
  have z := r.tab k a o h1 h2
  cases o with
  | dead => exact True.intro
  | lst ds =>
    obtain ⟨g, vs, h, l, d⟩ := z
    exact ⟨dn g, vs, h, l, Dps.del hp _ _ d⟩
  | dic ks ds =>
    obtain ⟨g, vs, h, e, l, d⟩ := z
    exact ⟨dn g, vs, h, e, l, Dps.del hp _ _ d⟩
theorem tabS_writeD {H : Hp} {P a : Addr} {q : Str} {xs ys : List (Key × V)} (h : LamX.TabS H P q) (ha : H a = some (.dK xs)) : LamX.TabS (upd H a (.dK ys)) P q := by
  obtain ⟨ps, e, t, f⟩ := h
  have n1 : P ≠ a := fun z => by
    rw [z, ha] at e
    cases e
  refine ⟨ps, by rw [upd_ne n1]; exact e, t, fun pos cv hc => ?_⟩
  obtain ⟨c, e1, e2⟩ := f pos cv hc
  have n2 : c ≠ a := fun z => by
    rw [z, ha] at e2
    have := Option.some.inj e2
    unfold LamX.CodeO at this
    cases this
  exact ⟨c, e1, by rw [upd_ne n2]; exact e2⟩
/-- the dict that stood empty while its items were made, now ours -/
theorem Rl.dic {H : Hp} {la : List Addr} {T : List Ob} {ks : List Str} {vs : List V} {ds : List D} (hn : p ∉ la) (hp : G p = some (.dK [])) (r : Rl K G H la T) (e : ks.length = vs.length) (l : vs.length ≤ 1000) (d : Dps K G vs ds) :
    Rl K (L2.del G p) (upd H p (.dK (dkv ks vs))) (la ++ [p]) (T ++ [.dic ks ds]) := by
  have r1 := Rl.del hp r
  have hHp : H p = some (.dK []) := r.ext _ _ hp
  refine ⟨fun b o h => ?_, ?_, by simp [r.len], fun j b o hb ho => ?_, fun j b hb => ?_, r1.nt, fun q hq => ⟨(r1.tbl q hq).1, tabS_writeD (r1.tbl q hq).2 hHp⟩⟩
  · by_cases hb : b = p
    · subst hb
      rw [del_same] at h
      cases h
    · rw [upd_ne hb]
      exact r1.ext b o h
  · rw [List.nodup_append]
    exact ⟨r.nd, by simp, fun x hx y hy => by
      have e : y = p := by simpa using hy
      rw [e]
      exact fun z => hn (z ▸ hx)⟩
  · by_cases hj : j < la.length
    · rw [List.getElem?_append_left hj] at hb
      rw [List.getElem?_append_left (by rw [← r.len]; exact hj)] at ho
      have nb : b ≠ p := fun z => hn (z ▸ List.mem_of_getElem? hb)
      have z := r1.tab j b o hb ho
      cases o with
      | dead => exact True.intro
      | lst ds =>
        obtain ⟨g2, vs2, h2, l2, d2⟩ := z
        exact ⟨g2, vs2, by rw [upd_ne nb]; exact h2, l2, d2⟩
      | dic ks ds =>
        obtain ⟨g2, vs2, h2, e2, l2, d2⟩ := z
        exact ⟨g2, vs2, by rw [upd_ne nb]; exact h2, e2, l2, d2⟩
    · rw [List.getElem?_append_right (by omega)] at hb
      rw [List.getElem?_append_right (by rw [← r.len]; omega), ← r.len] at ho
      cases q : j - la.length with
      | zero =>
        rw [q] at hb ho
        have e1 : p = b := Option.some.inj hb
        have e2 : Ob.dic ks ds = o := Option.some.inj ho
        subst e1 e2
        exact ⟨del_same, vs, upd_same, e, l, Dps.del hp _ _ d⟩
      | succ m =>
        rw [q] at hb
        simp at hb
  · by_cases hj : j < la.length
    · rw [List.getElem?_append_left hj] at hb
      have nb : b ≠ p := fun z => hn (z ▸ List.mem_of_getElem? hb)
      obtain ⟨o, h, n⟩ := r.there j b hb
      exact ⟨o, by rw [upd_ne nb]; exact h, n⟩
    · rw [List.getElem?_append_right (by omega)] at hb
      cases q : j - la.length with
      | zero =>
        rw [q] at hb
        have e1 : p = b := Option.some.inj hb
        subst e1
        exact ⟨_, upd_same, by intro ps z; cases z⟩
      | succ m =>
        rw [q] at hb
        simp at hb
/-- the dict at k is written -/
theorem Rl.writeD {H : Hp} {la : List Addr} {T : List Ob} (r : Rl K G H la T) {k : Nat} {a : Addr} {ks ks' : List Str} {ds ds' : List D} {ws : List V} (ha : la[k]? = some a) (hk : T[k]? = some (.dic ks ds)) (e : ks'.length = ws.length) (l : ws.length ≤ 1000) (d : Dps K G ws ds') :
    Rl K G (upd H a (.dK (dkv ks' ws))) la (T.set k (.dic ks' ds')) := by
  obtain ⟨g, vs, h, _, _, _⟩ := r.tab k a _ ha hk
  refine ⟨fun b o e => ?_, r.nd, by simp [r.len], fun j b o hb ho => ?_, fun j b hb => ?_, r.nt, fun p hp => ⟨(r.tbl p hp).1, tabS_writeD (r.tbl p hp).2 h⟩⟩
  · have nb : b ≠ a := fun z => by
      rw [z, g] at e
      cases e
    rw [upd_ne nb]
    exact r.ext b o e
  · by_cases hj : j = k
    · subst hj
      have hl : j < T.length := (List.getElem?_eq_some_iff.mp hk).1
      rw [List.getElem?_set_self hl] at ho
      have e0 := Option.some.inj ho
      subst e0
      have e2 := Option.some.inj (hb.symm.trans ha)
      subst e2
      exact ⟨g, ws, upd_same, e, l, d⟩
    · rw [List.getElem?_set_ne (Ne.symm hj)] at ho
      have nb : b ≠ a := fun e => by
        subst e
        obtain ⟨h1, e1⟩ := List.getElem?_eq_some_iff.mp hb
        obtain ⟨h2, e2⟩ := List.getElem?_eq_some_iff.mp ha
        exact hj ((List.getElem_inj r.nd).mp (e1.trans e2.symm))
      have z := r.tab j b o hb ho
      cases o with
      | dead => exact True.intro
      | lst ds =>
        obtain ⟨g2, vs2, h2, l2, d2⟩ := z
        exact ⟨g2, vs2, by rw [upd_ne nb]; exact h2, l2, d2⟩
      | dic ks ds =>
        obtain ⟨g2, vs2, h2, e2, l2, d2⟩ := z
        exact ⟨g2, vs2, by rw [upd_ne nb]; exact h2, e2, l2, d2⟩
  · by_cases hb2 : b = a
    · subst hb2
      exact ⟨_, upd_same, by intro ps z; cases z⟩
    · obtain ⟨o, h, n⟩ := r.there j b hb
      exact ⟨o, by rw [upd_ne hb2]; exact h, n⟩
end

/-! ### items by text -/
def getA {α : Type} : List Str → List α → Str → Option α
  | k :: ks, x :: xs, w => if k = w then some x else getA ks xs w
  | _, _, _ => none
def putA {α : Type} : List Str → List α → Str → α → List α
  | k :: ks, x :: xs, w, y => (if k = w then y else x) :: putA ks xs w y
  | _, _, _, _ => []
theorem valV_dkv (w : Str) : ∀ (ks : List Str) (vs : List V), valV (dkv ks vs) (.inr w) = getA ks vs w
  | [], _ => by simp [dkv, getA, valV]
  | _ :: _, [] => by simp [dkv, getA, valV]
  | k :: ks, v :: vs => by
    have ih := valV_dkv w ks vs
    by_cases e : k = w
    · subst e
      rw [show dkv (k :: ks) (v :: vs) = ((.inr k : Key), v) :: dkv ks vs from rfl, valV_pos rfl]
      simp [getA]
    · rw [show dkv (k :: ks) (v :: vs) = ((.inr k : Key), v) :: dkv ks vs from rfl, valV_neg (fun z => e (Sum.inr.inj z)), ih]
      simp [getA, e]
theorem dkv_len : ∀ (ks : List Str) (vs : List V), (dkv ks vs).length ≤ vs.length := fun ks vs => by
  simp [dkv]
  omega
theorem getA_none {α : Type} {w : Str} : ∀ {ks : List Str} {xs : List α}, w ∉ ks → getA ks xs w = none
  | [], _, _ => by simp [getA]
  | _ :: _, [], _ => by simp [getA]
  | k :: ks, x :: xs, h => by
    have h1 : ¬ k = w := fun e => h (by simp [e])
    have h2 : w ∉ ks := fun e => h (by simp [e])
    simp [getA, h1, getA_none h2]
theorem dkv_snoc : ∀ (ks : List Str) (vs : List V) (w : Str) (y : V), ks.length = vs.length → dkv (ks ++ [w]) (vs ++ [y]) = dkv ks vs ++ [(.inr w, y)]
  | [], [], _, _, _ => rfl
  | k :: ks, v :: vs, w, y, h => by
    show (_, _) :: dkv (ks ++ [w]) (vs ++ [y]) = _
    rw [dkv_snoc ks vs w y (by simpa using h)]
    rfl
  | [], _ :: _, _, _, h => by simp at h
  | _ :: _, [], _, _, h => by simp at h
theorem put_new {ks : List Str} {vs : List V} {w : Str} {y : V} (h : ks.length = vs.length) (n : w ∉ ks) : putK (dkv ks vs) (.inr w) y = dkv (ks ++ [w]) (vs ++ [y]) := by
  rw [putK_new y (by rw [valV_dkv, getA_none n]), dkv_snoc _ _ _ _ h]
theorem map_put (w : Str) (y : V) : ∀ (ks : List Str) (vs : List V), ((dkv ks vs).map fun kv => if kv.1 = (.inr w : Key) then (kv.1, y) else kv) = dkv ks (putA ks vs w y)
  | [], _ => by simp [dkv]
  | _ :: _, [] => by simp [dkv, putA]
  | k :: ks, v :: vs => by
    show (if (.inr k : Key) = .inr w then ((.inr k : Key), y) else (.inr k, v)) :: (dkv ks vs).map _ = ((.inr k : Key), if k = w then y else v) :: dkv ks (putA ks vs w y)
    rw [map_put w y ks vs]
    by_cases e : k = w
    · rw [if_pos (by rw [e]), if_pos e]
    · rw [if_neg (fun z => e (Sum.inr.inj z)), if_neg e]
theorem getA_mem {α : Type} {w : Str} : ∀ {ks : List Str} {xs : List α}, ks.length = xs.length → w ∈ ks → (getA ks xs w).isSome = true
  | [], _, _, m => by simp at m
  | _ :: _, [], h, _ => by simp at h
  | k :: ks, x :: xs, h, m => by
    by_cases e : k = w
    · simp [getA, e]
    · have m2 : w ∈ ks := by
        rcases List.mem_cons.mp m with z | z
        · exact absurd z.symm e
        · exact z
      simp [getA, e, getA_mem (by simpa using h) m2]
theorem put_old {ks : List Str} {vs : List V} {w : Str} {y : V} (h : ks.length = vs.length) (n : w ∈ ks) : putK (dkv ks vs) (.inr w) y = dkv ks (putA ks vs w y) := by
  unfold putK
  rw [valV_any, valV_dkv, getA_mem h n]
  simp only [if_true]
  exact map_put w y ks vs
theorem merge_dkv : ∀ (ks : List Str) (vs : List V) (as_ : List Str) (us : List V), as_.length = us.length → ks.length = vs.length → (as_ ++ ks).Nodup → mergeK (dkv as_ us) (dkv ks vs) = dkv (as_ ++ ks) (us ++ vs)
  | [], [], as_, us, _, _, _ => by simp [mergeK, dkv]
  | k :: ks, v :: vs, as_, us, h, h2, nd => by
    have n : k ∉ as_ := fun m => by
      rw [List.nodup_append] at nd
      exact nd.2.2 k m k (by simp) rfl
    show mergeK (putK (dkv as_ us) (.inr k) v) (dkv ks vs) = _
    rw [put_new h n, merge_dkv ks vs (as_ ++ [k]) (us ++ [v]) (by simp [h]) (by simpa using h2) (by simpa using nd)]
    simp
  | [], _ :: _, _, _, _, h, _ => by simp at h
  | _ :: _, [], _, _, _, h, _ => by simp at h
section
variable {K : PySem.W.Frag} {G : Hp}
theorem get_dp {w : Str} : ∀ {ks : List Str} {vs : List V} {ds : List D}, Dps K G vs ds → (∀ d, getA ks ds w = some d → ∃ v, getA ks vs w = some v ∧ Dp K G v d) ∧ (getA ks ds w = none → getA ks vs w = none)
  | [], _, _, _ => by simp [getA]
  | _ :: _, _, _, .nil => by simp [getA]
  | k :: ks, _, _, .cons (v := v) (d := d) a r => by
    obtain ⟨h1, h2⟩ := get_dp (w := w) (ks := ks) r
    by_cases e : k = w
    · simp only [getA, if_pos e]
      exact ⟨fun d' z => ⟨_, rfl, by cases z; exact a⟩, fun z => by cases z⟩
    · simp only [getA, if_neg e]
      exact ⟨h1, h2⟩
theorem put_dp {w : Str} {y : V} {e : D} (he : Dp K G y e) : ∀ {ks : List Str} {vs : List V} {ds : List D}, Dps K G vs ds → Dps K G (putA ks vs w y) (putA ks ds w e)
  | [], _, _, _ => by simp [putA]; exact .nil
  | _ :: _, _, _, .nil => by simp [putA]; exact .nil
  | k :: ks, _, _, .cons a r => by
    have ih := put_dp (w := w) he (ks := ks) r
    by_cases q : k = w
    · simp only [putA, if_pos q]
      exact .cons he ih
    · simp only [putA, if_neg q]
      exact .cons a ih
theorem putA_len {α : Type} {w : Str} {y : α} : ∀ {ks : List Str} {xs : List α}, ks.length = xs.length → (putA ks xs w y).length = xs.length
  | [], [], _ => by simp [putA]
  | k :: ks, x :: xs, h => by simp [putA, putA_len (w := w) (y := y) (ks := ks) (xs := xs) (by simpa using h)]
  | [], _ :: _, h => by simp at h
  | _ :: _, [], h => by simp at h
theorem Dps.snoc {y : V} {e : D} (he : Dp K G y e) : ∀ {vs : List V} {ds : List D}, Dps K G vs ds → Dps K G (vs ++ [y]) (ds ++ [e])
  | _, _, .nil => .cons he .nil
  | _, _, .cons a r => .cons a (Dps.snoc he r)
end

/-! ### {'k': e, ..} -/
def dPs : List (Str × DE) → DA
  | [] => fun _ ρ Q => Q [] ρ
  | (_, fe) :: r => fun X ρ Q => fe X ρ fun d ρ1 => dPs r X ρ1 fun xs ρ2 => Q (.dat d :: xs) ρ2
def dDict (kfs : List (Str × DE)) : DL' := fun X ρ Q => dPs kfs X ρ fun xs ρ' => match dats xs with
  | some ds => ds.length = kfs.length ∧ ρ'.T.length = ρ.T.length ∧ lowS ρ'.T.length ρ'.s = true ∧ Q (.ob ρ'.T.length) ⟨ρ'.T ++ [.dic (kfs.map (·.1)) ds], ρ'.s⟩
  | none => False
/-- the items behind x[w] = d -/
def putO (ks : List Str) (ds : List D) (w : Str) (d : D) : Ob := if w ∈ ks then .dic ks (putA ks ds w d) else .dic (ks ++ [w]) (ds ++ [d])
def sSetD (i : Nat) (fj fv : DE) : DS := fun E ρ => fv E.xn ρ fun d ρ1 => match ρ1.s[i]? with
  | some (some (.ob k)) => fj E.xn ρ1 fun z ρ2 => match z, ρ2.T[k]? with
    | .str w, some (.dic ks ds) => ds.length ≤ 900 ∧ E.nx ⟨ρ2.T.set k (putO ks ds w d), ρ2.s⟩
    | _, _ => False
  | _ => False
def dGetD (i : Nat) (fe fd : DE) : DE := fun X ρ Q => match ρ.s[i]? with
  | some (some (.ob k)) => (∃ ks ds, ρ.T[k]? = some (.dic ks ds)) ∧ fe X ρ fun z ρ1 => fd X ρ1 fun y ρ2 => match z, ρ2.T[k]? with
    | .str w, some (.dic ks ds) => Q ((getA ks ds w).getD y) ρ2
    | _, _ => False
  | _ => False
section
variable {X : Cx} {W : WX}
theorem pairs_core : ∀ (kfs : List (Str × DE)) (σ : L2.St) (H : Hp) (Q : List (V × V) → Hp → Prop), (∃ ρ G la P XX, Re X.K G H la σ ρ ∧ dPs kfs XX ρ P ∧
    (∀ xs ρ' vs G' la' H', P xs ρ' → Aft X.K G la σ ρ' G' la' H' → SlsR X.K G' la' vs xs → Q ((kfs.zip vs).map fun p => (V.str p.1.1, p.2)) H') ∧ XO X.K G la W XX) → tPairs (kfs.map fun p => (tC (.str p.1), lE X.K W p.2)) σ H Q
  | [], σ, H, Q, ⟨ρ, G, la, P, XX, re, h, q, xo⟩ => q [] ρ [] G la H h (Aft.refl re) .nil
  | (k, fe) :: r, σ, H, Q, ⟨ρ, G, la, P, XX, re, h, q, xo⟩ =>
    (⟨ρ, G, la, _, XX, re, h, fun d ρ1 v G1 la1 H1 p1 a1 z1 => pairs_core r σ H1 _ ⟨ρ1, G1, la1, _, XX, a1.r, p1, fun xs ρ2 vs G2 la2 H2 p2 a2 z2 =>
      q (.dat d :: xs) ρ2 (v :: vs) G2 la2 H2 p2 (a1.trans a2) (.cons (show SlR X.K G2 la2 v (.dat d) from z1.up a2.g) z2), xo.up a1.g a1.p⟩, xo⟩ : lE X.K W fe σ H _)
theorem dl_dict {pos : Pos} {keys : List (Option Expr)} {values : List Expr} {kfs : List (Str × DE)} (hp : PPs X pos keys values (kfs.map fun p => (tC (.str p.1), lE X.K W p.2))) (hall : keys.all (·.isSome) = true := by rfl) (hl : keys.length = values.length := by rfl) (h0 : keys ≠ [] := by simp)
    (h15 : keys.length ≤ 15 := by decide) (nd : (kfs.map (·.1)).Nodup := by decide) (hk : kfs.length ≤ 15 := by decide) : PE X (.Dict keys values pos) (lL X.K W (dDict kfs)) :=
  pe_imp (pe_disp hp hall hl h0 h15) fun σ H Q ⟨ρ, G, la, P, XX, re, h, q, xo⟩ => by
  intro p hp
  have w0 : Grow G H (upd G p (.dK [])) (upd H p (.dK [])) := Grow.new re.tb.ext hp
  have rg := re.grow w0
  refine pairs_core kfs σ _ _ ⟨ρ, upd G p (.dK []), la, _, XX, rg, h, fun xs ρ2 vs G2 la2 H2 p2 a2 z2 => ?_, xo.up w0.g List.prefix_rfl⟩
  have p2' : (match (generalizing := false) dats xs with
    | some ds => ds.length = kfs.length ∧ ρ2.T.length = ρ.T.length ∧ lowS ρ2.T.length ρ2.s = true ∧ P (.ob ρ2.T.length) ⟨ρ2.T ++ [.dic (kfs.map (·.1)) ds], ρ2.s⟩
    | none => False) := p2
  split at p2'
  · rename_i ds hd
    obtain ⟨hn, hT, hlow, p3⟩ := p2'
    have gp : G2 p = some (.dK []) := a2.g _ _ upd_same
    have dd : Dps X.K G2 vs ds := dats_of z2 hd
    have lv : vs.length = ds.length := dd.len
    have lk : (kfs.map (·.1)).length = vs.length := by
      rw [List.length_map]
      omega
    have ela : la2 = la := by
      have l1 : la2.length = la.length := by rw [a2.r.tb.len, re.tb.len, hT]
      obtain ⟨t, rfl⟩ := a2.p
      have : t = [] := List.eq_nil_of_length_eq_zero (by rw [List.length_append] at l1; omega)
      rw [this, List.append_nil]
    have pn : p ∉ la2 := fun hm => by
      rw [ela] at hm
      obtain ⟨i, hi, e⟩ := List.getElem_of_mem hm
      obtain ⟨o, h, _⟩ := re.tb.there i p (by rw [List.getElem?_eq_getElem hi, e])
      rw [hp] at h
      cases h
    have ek : (kfs.zip vs).map (fun q => (V.str q.1.1, q.2)) = (dkv (kfs.map (·.1)) vs).map (fun kv => (kV kv.1, kv.2)) := by
      unfold dkv
      rw [List.map_map, List.zip_map_left, List.map_map]
      rfl
    refine ⟨a2.r.tb.ext _ _ gp, dkv (kfs.map (·.1)) vs, ek, Nat.le_trans (dkv_len _ _) (by omega), ?_⟩
    rw [show mergeK [] (dkv (kfs.map (·.1)) vs) = dkv (kfs.map (·.1)) vs from merge_dkv (kfs.map fun x : Str × DE => x.1) vs [] [] rfl lk (by simpa using nd)]
    refine q _ _ _ (L2.del G2 p) (la2 ++ [p]) _ p3 ⟨fun b o hb => ?_, a2.p.trans (List.prefix_append _ _), ⟨Rl.dic pn gp a2.r.tb lk (by omega) dd, a2.r.sl, fun j y hj => ?_⟩⟩ ⟨p, ?_, rfl⟩
    · have nb : b ≠ p := fun z => by
        subst z
        have := re.tb.ext _ _ hb
        rw [hp] at this
        cases this
      rw [del_ne nb]
      exact a2.g _ _ (w0.g _ _ hb)
    · obtain ⟨u, hu, ru⟩ := a2.r.at_ j y hj
      refine ⟨u, hu, ?_⟩
      cases y with
      | dat d => exact Dp.del gp d u ru
      | ob k =>
        obtain ⟨a, ha, e⟩ := ru
        exact ⟨a, pre_at (List.prefix_append _ _) ha, e⟩
      | clo f G0 la0 =>
        have hm := List.mem_of_getElem? hj
        have z := List.all_eq_true.mp hlow _ hm
        cases z
    · rw [← a2.r.tb.len, List.getElem?_append_right (Nat.le_refl _)]
      simp
  · exact p2'.elim
/-! ### x['k'] = e, x.get(e, d); x a name -/
theorem ds_setD (i : Nat) {x : Str} {e ej : Expr} {fj fv : DE} {p spos pos : Pos} (hu : X.A.units + 1 < cLine) (hv : PE X e (lE X.K W fv)) (hj : PE X ej (lE X.K W fj)) (hN : X.N[i]? = some x := by rfl) (hvis : Vis X.env.scope x := by first | exact Or.inl rfl | exact Or.inr (Or.inl rfl) | exact Or.inr (Or.inr rfl)) (hd : (x == ("__debug__" : Str)) = false := by decide)
    (hcd : (x == ("__classdict__" : Str)) = false := by decide) (hs : swapsWith e (some (.Subscript (.Name x p) ej spos)) pos.line X.env = pure false := by rfl) : PS X (.Assign [.Subscript (.Name x p) ej spos] e pos) (lS X.K W (sSetD i fj fv)) :=
  ps_imp (ps_dput hu (pe_var (i := i) hN hvis hd hcd) hj hv hs) fun D σ H ⟨ρ, G, la, E, r, h, b⟩ =>
  ⟨ρ, G, la, _, _, r, h, fun d ρ1 v G1 la1 H1 p1 a1 z1 => by
    have p1' : (match (generalizing := false) ρ1.s[i]? with
      | some (some (.ob k)) => fj E.xn ρ1 fun z ρ2 => match z, ρ2.T[k]? with
        | .str w, some (.dic ks ds) => ds.length ≤ 900 ∧ E.nx ⟨ρ2.T.set k (putO ks ds w d), ρ2.s⟩
        | _, _ => False
      | _ => False) := p1
    split at p1'
    · rename_i k hk
      obtain ⟨u, hu, a, hla, ev⟩ := a1.r.at_ _ _ hk
      subst ev
      refine ⟨_, hu, ρ1, G1, la1, _, _, a1.r, p1', fun z ρ2 w G2 la2 H2 p2 a2 z2 => ?_, b.xn.up a1.g a1.p⟩
      have p2' : (match (generalizing := false) z, ρ2.T[k]? with
        | .str w, some (.dic ks ds) => ds.length ≤ 900 ∧ E.nx ⟨ρ2.T.set k (putO ks ds w d), ρ2.s⟩
        | _, _ => False) := p2
      split at p2'
      · rename_i w ks ds hz
        cases z2
        have ha2 := pre_at a2.p hla
        obtain ⟨gn1, ws, hH1, lk, lw, dw⟩ := a2.r.tb.tab k a _ ha2 hz
        have lds := dw.len
        have zd := z1.up a2.g
        refine ⟨a, _, rfl, DPut.k (k := .inr w) hH1 (Nat.lt_of_le_of_lt (dkv_len _ _) (by rw [sizeLine_eq]; omega)), b.nx _ _ _ _ _ p2'.2 ⟨a1.g.trans a2.g, a1.p.trans a2.p, ⟨?_, a2.r.sl, a2.r.at_⟩⟩⟩
        unfold putO
        by_cases m : w ∈ ks
        · rw [if_pos m, put_old lk m]
          exact Rl.writeD a2.r.tb ha2 hz (by rw [putA_len lk]; exact lk) (by rw [putA_len lk]; exact lw) (put_dp zd dw)
        · rw [if_neg m, put_new lk m]
          exact Rl.writeD a2.r.tb ha2 hz (by simp [lk]) (by rw [List.length_append]; simp; omega) (Dps.snoc zd dw)
      · exact p2'.elim
    · exact p1'.elim, b.xn⟩
theorem de_getD (i : Nat) {x : Str} {e f : Expr} {fe fd : DE} {p apos cpos : Pos} (hu : X.A.units + 1 < cLine) (he : PE X e (lE X.K W fe)) (hf : PE X f (lE X.K W fd)) (hN : X.N[i]? = some x := by rfl) (hvis : Vis X.env.scope x := by first | exact Or.inl rfl | exact Or.inr (Or.inl rfl) | exact Or.inr (Or.inr rfl)) (hd : (x == ("__debug__" : Str)) = false := by decide)
    (hcd : (x == ("__classdict__" : Str)) = false := by decide) (m : M2 X (.Name x p) "get" apos e f cpos := by exact ⟨rfl, rfl, rfl, rfl⟩) : PE X (.Call (.Attribute (.Name x p) "get" apos) [e, f] [] cpos) (lE X.K W (dGetD i fe fd)) :=
  pe_imp (pe_dget2 hu (pe_var (i := i) hN hvis hd hcd) he hf m) fun σ H Q ⟨ρ, G, la, P, XX, r, h, q, xo⟩ => by
    unfold dGetD at h
    split at h
    · rename_i k hk
      obtain ⟨v, hv, a, ha, ev⟩ := r.at_ _ _ hk
      subst ev
      obtain ⟨⟨ks0, ds0, hk0⟩, h⟩ := h
      obtain ⟨_, vs0, hH0, _⟩ := r.tb.tab k a _ ha hk0
      refine ⟨_, hv, a, rfl, .inl ⟨_, .inl hH0⟩, ρ, G, la, _, XX, r, h, fun z ρ1 w1 G1 la1 H1 p1 a1 z1 => ⟨ρ1, G1, la1, _, XX, a1.r, p1, fun y ρ2 w2 G2 la2 H2 p2 a2 z2 => ?_, xo.up a1.g a1.p⟩, xo⟩
      have p2' : (match (generalizing := false) z, ρ2.T[k]? with
        | .str w, some (.dic ks ds) => P ((getA ks ds w).getD y) ρ2
        | _, _ => False) := p2
      split at p2'
      · rename_i w ks ds hz
        cases z1
        have ha2 := pre_at a2.p (pre_at a1.p ha)
        obtain ⟨gn1, ws, hH1, lk, lw, dw⟩ := a2.r.tb.tab k a _ ha2 hz
        obtain ⟨g1, g2⟩ := get_dp (w := w) (ks := ks) dw
        refine ⟨_, DGet.k (k := .inr w) hH1, ?_⟩
        rw [valV_dkv]
        cases q0 : getA ks ds w with
        | none =>
          rw [g2 q0]
          rw [q0] at p2'
          exact q _ _ _ _ _ _ p2' (a1.trans a2) z2
        | some d =>
          obtain ⟨v, hv, dv⟩ := g1 d q0
          rw [hv]
          rw [q0] at p2'
          exact q _ _ _ _ _ _ p2' (a1.trans a2) dv
      · exact p2'.elim
    · exact h.elim
end
end DL
set_option Elab.async false
set_option linter.all false
set_option maxRecDepth 100000
set_option maxHeartbeats 4000000
set_option autoImplicit false
/-! Slots that hold data or nothing. -/
namespace DL
open PySem PySem.Spec PyProof.Rows L2
theorem range_mem {lo hi : Int} {d : D} (h : d ∈ rangeD lo hi) : ∃ i : Int, d = .int i ∧ lo ≤ i ∧ i < hi := by
  obtain ⟨k, hk, rfl⟩ := List.mem_map.mp h
  rw [List.mem_range] at hk
  exact ⟨_, rfl, by omega, by omega⟩
/-- a slot that may hold data -/
def dsl (y : Option D) : Option Sl := y.map .dat
theorem low_nil (n : Nat) : lowS n [] = true := rfl
theorem low_dsl (n : Nat) (y : Option D) (r : List (Option Sl)) : lowS n (dsl y :: r) = lowS n r := by
  cases y <;> rfl
theorem low_dat (n : Nat) (d : D) (r : List (Option Sl)) : lowS n (some (.dat d) :: r) = lowS n r := rfl
theorem low_none (n : Nat) (r : List (Option Sl)) : lowS n (none :: r) = lowS n r := rfl
theorem low_ob {n k : Nat} (h : k < n) (r : List (Option Sl)) : lowS n (some (.ob k) :: r) = lowS n r := by
  show (decide (k < n) && lowS n r) = lowS n r
  simp [h]
theorem low_any {n : Nat} {x : Option Sl} (h : lowS n [x] = true) (r : List (Option Sl)) : lowS n (x :: r) = lowS n r := by
  cases x with
  | none => rfl
  | some x =>
    cases x with
    | dat d => rfl
    | clo _ _ _ => cases h
    | ob k =>
      have h2 : (decide (k < n) && lowS n []) = true := h
      rw [low_nil, Bool.and_true, decide_eq_true_eq] at h2
      exact low_ob h2 r
end DL
set_option Elab.async false
set_option linter.all false
set_option maxRecDepth 100000
set_option maxHeartbeats 4000000
set_option autoImplicit false
/-! The program's defs at data level: what a drill and a beginning are. -/
namespace DL
open PySem PySem.Spec PyProof.Rows L2
local macro_rules | `(tactic| walk_at "dl") => `(tactic| (try simp only [sSeq, sSet, sRet, sRetN, sIf, sNil, sDrop, sFor, sTo, sPar2, sPar3, sNever, sRaise, sSetIx, dVar, dC, dVarL, dDat, dVal, valK_dat, valK_ob, dBin, dUn, dNil, dCons, dats, dTup, dLst, dNew, dNewOf, dTest, dtAnd, dtOr, dtNot, dAnd, dOr, dNot, dIf, dChain, dCB, dSl, dNo, dSo, sApp, dIxO, dLenO, dMaxD, dGetP, dCall, dSeq, dRng1, dRng2, dZip, dEnum, gNm, gTp, gCs, gNl, dYes,
  startD, endsOf, retD, wipeS, gAdd, gSub, gMul, gMulA, gMulB, gDiv, gMod, gPow, gNeg, gLt, gLe, gGt, gGe, gEq, gNe, gIn, gIx, gSl, gIsi, tyD, isiD, gLen, gAbs, gInt, gMax2, gMin2, gTuple, gList, gIsN, isNon, gIsB, gNotB,
  List.getElem?_cons_zero, List.getElem?_cons_succ, List.getElem?_nil, List.set_cons_zero, List.set_cons_succ, List.map_cons, List.map_nil, List.cons_append, List.nil_append, List.length_cons, List.length_nil, List.replicate_succ, List.replicate_zero, Option.map_some, Nat.reduceSub, Nat.reduceAdd, Nat.reduceLeDiff,
  List.take_length, beq_self_eq_true, String.reduceBEq, Bool.or_true, Bool.true_or, Bool.or_false, Bool.false_or, Bool.and_true, Bool.and_false, Bool.true_and, Bool.false_and, Bool.or_self, Bool.and_self, decide_true, decide_false, dmem, List.any_cons, List.any_nil, okd_non, okd_bl, okd_int, okd_str, okds_nil, okds_cons, okd_60t, okd_59t, okd_58t, okd_60l, okd_59l, okd_58l, st_tk, st_tb, st_tf, st_kt, st_kb, st_kf, st_bt, st_bk, st_bf, st_ft, st_fk, st_fb, nat_num, Int.reduceBEq, Int.reduceBNe, Int.reduceEq, Int.reduceLT, Int.reduceLE, Int.reduceAdd, Int.reduceSub, Int.reduceMul, Int.reduceNeg, Int.reduceToNat, Int.reducePow, atI_0, atI_1, atI_2, set_last, get_last, take_last, deq_str, deq_int, deq_non, deq_bl, deq_tt, deq_ll, deqs_nn, deqs_cc, deqs_nc, deqs_cn, Nat.lt_irrefl, List.set_set, ixN_20, ixN_21, tupI, okds_ints, atI_map', List.length_map, cutL_map, eq_self, if_true, if_false, ite_true, ite_false, Bool.false_eq_true, decide_eq_true_eq, true_and, and_true, and_self, Bool.not_true, Bool.not_false, true_or, or_true, false_or, or_false, Option.some.injEq, reduceCtorEq]))
def isInt (d : D) (lo hi : Int) : Bool := match d with
  | .int i => decide (lo ≤ i) && decide (i ≤ hi)
  | _ => false
/-- slots: 0 value, 1 low, 2 high -/
def B_is_int : DS :=
  (sRet (dDat (dAnd (dCB gIsi (dCons (dDat (dVar 0)) (dCons (dDat (dC (.raw (.ty "int")))) dNil))) (dAnd (dNot (dCB gIsi (dCons (dDat (dVar 0)) (dCons (dDat (dC (.raw (.ty "bool")))) dNil)))) (dChain gLe gLe (dVar 1) (dVar 0) (dVar 2))))))
def S_is_int : DF := fun ss T Q _ => match ss with
  | [.dat d, .dat (.int lo), .dat (.int hi)] => okd 60 d = true ∧ Q (.dat (.bl (isInt d lo hi))) T
  | _ => False
theorem h_is_int : ∀ (ss : List Sl) (T : List Ob) (Q : Sl → List Ob → Prop) (QX : Xn → List Ob → Prop), ss.length = 3 → S_is_int ss T Q QX → B_is_int (endsOf T.length Q QX) (startD 3 3 ss T) := by
  intro ss T Q QX hl h
  unfold S_is_int at h
  split at h
  · rename_i d lo hi
    obtain ⟨ok, h⟩ := h
    unfold B_is_int
    cases d with
    | raw v => simp [okd] at ok
    | int i =>
      walk_at "dl"
      unfold isInt at h
      split
      · rename_i q
        simpa [q] using h
      · rename_i q
        simpa [q] using h
    | scr ns => simp [okd] at ok
    | fn _ => simp [okd] at ok
    | err _ _ => simp [okd] at ok
    | _ =>
      walk_at "dl"
      exact h
  · exact h.elim
/-- a run -/
def isRun (d : D) : Bool := match d with
  | .tup [.str w, a] => (w == "to" && isInt a 0 1000000000000) || (w == "bark" && isInt a 1 1000000000000)
  | .tup [.str w, a, b] => (w == "back" || w == "front") && isInt a 0 3 && isInt b 1 1000000000000
  | _ => false
/-- slots: 0 value -/
def B_is_a_run : DS :=
  (sSeq (sIf (dtOr (dtNot (dTest (dCB gIsi (dCons (dDat (dVar 0)) (dCons (dDat (dC (.raw (.ty "tuple")))) dNil))))) (dtOr (dTest (dBin gEq (dVar 0) (dTup dNil))) (dtNot (dTest (dCB gIsi (dCons (dDat (dBin gIx (dVar 0) (dC (.int 0)))) (dCons (dDat (dC (.raw (.ty "str")))) dNil))))))) (sRet (dDat (dC (.bl false)))) sNil)
  (sSeq (sIf (dTest (dBin gEq (dBin gIx (dVar 0) (dC (.int 0))) (dC (.str "to")))) (sRet (dDat (dAnd (dBin gEq (dCB gLen (dCons (dDat (dVar 0)) dNil)) (dC (.int 2))) (dVal (dCall 3 S_is_int (dCons (dDat (dBin gIx (dVar 0) (dC (.int 1)))) (dCons (dDat (dC (.int 0))) (dCons (dDat (dC (.int 1000000000000))) dNil)))))))) sNil)
  (sSeq (sIf (dTest (dBin gEq (dBin gIx (dVar 0) (dC (.int 0))) (dC (.str "bark")))) (sRet (dDat (dAnd (dBin gEq (dCB gLen (dCons (dDat (dVar 0)) dNil)) (dC (.int 2))) (dVal (dCall 3 S_is_int (dCons (dDat (dBin gIx (dVar 0) (dC (.int 1)))) (dCons (dDat (dC (.int 1))) (dCons (dDat (dC (.int 1000000000000))) dNil)))))))) sNil)
  (sSeq (sIf (dtOr (dTest (dBin (gIn true) (dBin gIx (dVar 0) (dC (.int 0))) (dTup (dCons (dDat (dC (.str "back"))) (dCons (dDat (dC (.str "front"))) dNil))))) (dTest (dBin gNe (dCB gLen (dCons (dDat (dVar 0)) dNil)) (dC (.int 3))))) (sRet (dDat (dC (.bl false)))) sNil)
  (sRet (dDat (dAnd (dVal (dCall 3 S_is_int (dCons (dDat (dBin gIx (dVar 0) (dC (.int 1)))) (dCons (dDat (dC (.int 0))) (dCons (dDat (dC (.int 3))) dNil))))) (dVal (dCall 3 S_is_int (dCons (dDat (dBin gIx (dVar 0) (dC (.int 2)))) (dCons (dDat (dC (.int 1))) (dCons (dDat (dC (.int 1000000000000))) dNil))))))))))))
def S_is_a_run : DF := fun ss T Q _ => match ss with
  | [.dat d] => okd 60 d = true ∧ Q (.dat (.bl (isRun d))) T
  | _ => False
theorem h_is_a_run : ∀ (ss : List Sl) (T : List Ob) (Q : Sl → List Ob → Prop) (QX : Xn → List Ob → Prop), ss.length = 1 → S_is_a_run ss T Q QX → B_is_a_run (endsOf T.length Q QX) (startD 1 1 ss T) := by
  intro ss T Q QX hl h
  unfold S_is_a_run at h
  split at h
  · rename_i d
    obtain ⟨ok, h⟩ := h
    unfold B_is_a_run
    cases d with
    | raw v => simp [okd] at ok
    | tup xs =>
      cases xs with
      | nil =>
        walk_at "dl"
        exact h
      | cons x r =>
        have okx := okd_item ok (d := x) (by simp)
        cases x with
        | raw v => simp [okd] at okx
        | str w =>
          have ok' := ok
          simp only [okd_60t, okds_cons, okd_str, Bool.true_and] at ok'
          by_cases w1 : w = "to"
          · subst w1
            cases r with
            | nil =>
              walk_at "dl"
              exact h
            | cons a r =>
              have oka := okd_item ok (d := a) (by simp)
              cases r with
              | nil =>
                simp only [okds_cons, okds_nil, Bool.and_true] at ok'
                walk_at "dl"
                simp only [S_is_int]
                walk_at "dl"
                simpa [isRun, oka, ok', st_tk] using h
              | cons b r =>
                simp only [okds_cons] at ok'
                walk_at "dl"
                have e : (((r.length + 1 + 1 + 1 : Nat) : Int) == 2) = false := by simp; omega
                simp only [ok', e]
                walk_at "dl"
                cases r <;> simpa [isRun, st_tb, st_tf] using h
          by_cases w2 : w = "bark"
          · subst w2
            cases r with
            | nil =>
              walk_at "dl"
              exact h
            | cons a r =>
              have oka := okd_item ok (d := a) (by simp)
              cases r with
              | nil =>
                simp only [okds_cons, okds_nil, Bool.and_true] at ok'
                walk_at "dl"
                simp only [S_is_int]
                walk_at "dl"
                simpa [isRun, oka, ok', st_kt] using h
              | cons b r =>
                simp only [okds_cons] at ok'
                walk_at "dl"
                have e : (((r.length + 1 + 1 + 1 : Nat) : Int) == 2) = false := by simp; omega
                simp only [ok', e]
                walk_at "dl"
                cases r <;> simpa [isRun, st_kb, st_kf] using h
          have v1 : (w == ("to" : Str)) = false := by simpa using w1
          have v2 : (w == ("bark" : Str)) = false := by simpa using w2
          by_cases w3 : w = "back" ∨ w = "front"
          · have v3 : ((("back" : Str) == w) || (("front" : Str) == w)) = true := by
              rcases w3 with rfl | rfl <;> simp
            have v3' : ((w == ("back" : Str)) || (w == ("front" : Str))) = true := by
              rcases w3 with rfl | rfl <;> simp
            cases r with
            | nil =>
              walk_at "dl"
              simp only [v1, v2, v3]
              walk_at "dl"
              exact h
            | cons a r =>
              have oka := okd_item ok (d := a) (by simp)
              cases r with
              | nil =>
                simp only [okds_cons, okds_nil, Bool.and_true] at ok'
                walk_at "dl"
                simp only [v1, v2, v3, ok']
                walk_at "dl"
                simpa [isRun, v1, v2] using h
              | cons b r =>
                have okb := okd_item ok (d := b) (by simp)
                cases r with
                | nil =>
                  simp only [okds_cons, okds_nil, Bool.and_true] at ok'
                  walk_at "dl"
                  simp only [v1, v2, v3, ok', S_is_int]
                  walk_at "dl"
                  refine ⟨oka, ?_⟩
                  simp only [isRun, v3', Bool.true_and] at h
                  cases q : isInt a 0 3 with
                  | true =>
                    rw [q] at h
                    simp only [Bool.true_and] at h
                    walk_at "dl"
                    refine ⟨okb, ?_⟩
                    walk_at "dl"
                    exact h
                  | false =>
                    rw [q] at h
                    walk_at "dl"
                    exact h
                | cons c r =>
                  simp only [okds_cons] at ok'
                  walk_at "dl"
                  have e : (((r.length + 1 + 1 + 1 + 1 : Nat) : Int) == 3) = false := by simp; omega
                  simp only [v1, v2, v3, ok', e]
                  walk_at "dl"
                  simpa [isRun] using h
          · have v3 : ((("back" : Str) == w) || (("front" : Str) == w)) = false := by
              simp only [not_or] at w3
              simp [Ne.symm w3.1, Ne.symm w3.2]
            have v4 : (w == ("back" : Str)) = false := by simp only [not_or] at w3; simpa using w3.1
            have v5 : (w == ("front" : Str)) = false := by simp only [not_or] at w3; simpa using w3.2
            cases r with
            | nil =>
              walk_at "dl"
              simp only [v1, v2, v3]
              walk_at "dl"
              exact h
            | cons a r =>
              simp only [okds_cons] at ok'
              walk_at "dl"
              simp only [v1, v2, v3, ok']
              walk_at "dl"
              rcases r with _ | ⟨b, _ | ⟨c, r⟩⟩ <;> simpa [isRun, v1, v2, v4, v5] using h
        | scr ns => simp [okd] at okx
        | fn _ => simp [okd] at okx
        | err _ _ => simp [okd] at okx
        | _ =>
          have ok' := ok
          simp only [okd_60t, okds_cons] at ok'
          try simp only [okd_non, okd_bl, okd_int, Bool.true_and] at ok'
          try simp only [okd_59t, okd_59l] at ok'
          walk_at "dl"
          exact ⟨ok', h⟩
    | scr ns => simp [okd] at ok
    | fn _ => simp [okd] at ok
    | err _ _ => simp [okd] at ok
    | _ =>
      walk_at "dl"
      exact h
  · exact h.elim
end DL
set_option Elab.async false
set_option linter.all false
set_option maxRecDepth 100000
set_option maxHeartbeats 4000000
set_option autoImplicit false
/-! The program's defs at data level: drills, beginnings. -/
namespace DL
open PySem PySem.Spec PyProof.Rows L2
local macro_rules | `(tactic| walk_at "dl") => `(tactic| (try simp only [sSeq, sSet, sRet, sRetN, sIf, sNil, sDrop, sFor, sTo, sPar2, sPar3, sNever, sRaise, sSetIx, dVar, dC, dVarL, dDat, dVal, valK_dat, valK_ob, dBin, dUn, dNil, dCons, dats, dTup, dLst, dNew, dNewOf, dTest, dtAnd, dtOr, dtNot, dAnd, dOr, dNot, dIf, dChain, dCB, dSl, dNo, dSo, sApp, dIxO, dLenO, dMaxD, dGetP, dCall, dSeq, dRng1, dRng2, dZip, dEnum, gNm, gTp, gCs, gNl, dYes,
  startD, endsOf, retD, wipeS, gAdd, gSub, gMul, gMulA, gMulB, gDiv, gMod, gPow, gNeg, gLt, gLe, gGt, gGe, gEq, gNe, gIn, gIx, gSl, gIsi, tyD, isiD, gLen, gAbs, gInt, gMax2, gMin2, gTuple, gList, gIsN, isNon, gIsB, gNotB,
  List.getElem?_cons_zero, List.getElem?_cons_succ, List.getElem?_nil, List.set_cons_zero, List.set_cons_succ, List.map_cons, List.map_nil, List.cons_append, List.nil_append, List.length_cons, List.length_nil, List.replicate_succ, List.replicate_zero, Option.map_some, Nat.reduceSub, Nat.reduceAdd, Nat.reduceLeDiff,
  List.take_length, beq_self_eq_true, String.reduceBEq, Bool.or_true, Bool.true_or, Bool.or_false, Bool.false_or, Bool.and_true, Bool.and_false, Bool.true_and, Bool.false_and, Bool.or_self, Bool.and_self, decide_true, decide_false, dmem, List.any_cons, List.any_nil, okd_non, okd_bl, okd_int, okd_str, okds_nil, okds_cons, okd_60t, okd_59t, okd_58t, okd_60l, okd_59l, okd_58l, st_tk, st_tb, st_tf, st_kt, st_kb, st_kf, st_bt, st_bk, st_bf, st_ft, st_fk, st_fb, nat_num, Int.reduceBEq, Int.reduceBNe, Int.reduceEq, Int.reduceLT, Int.reduceLE, Int.reduceAdd, Int.reduceSub, Int.reduceMul, Int.reduceNeg, Int.reduceToNat, Int.reducePow, atI_0, atI_1, atI_2, set_last, get_last, take_last, deq_str, deq_int, deq_non, deq_bl, deq_tt, deq_ll, deqs_nn, deqs_cc, deqs_nc, deqs_cn, Nat.lt_irrefl, List.set_set, ixN_20, ixN_21, tupI, okds_ints, atI_map', List.length_map, cutL_map, eq_self, if_true, if_false, ite_true, ite_false, Bool.false_eq_true, decide_eq_true_eq, true_and, and_true, and_self, Bool.not_true, Bool.not_false, true_or, or_true, false_or, or_false, Option.some.injEq, reduceCtorEq]))
/-- a drill -/
def fitsB (d : D) : Bool := match d with
  | .tup [g, .tup rs] => isInt g 1 9 && (decide (rs.length ≤ 8) && rs.all isRun)
  | _ => false
/-- slots: 0 value, 1 run -/
def B_fits : DS :=
  (sSeq (sIf (dtOr (dtNot (dTest (dCB gIsi (dCons (dDat (dVar 0)) (dCons (dDat (dC (.raw (.ty "tuple")))) dNil))))) (dtOr (dTest (dBin gNe (dCB gLen (dCons (dDat (dVar 0)) dNil)) (dC (.int 2)))) (dtNot (dTest (dVal (dCall 3 S_is_int (dCons (dDat (dBin gIx (dVar 0) (dC (.int 0)))) (dCons (dDat (dC (.int 1))) (dCons (dDat (dC (.int 9))) dNil))))))))) (sRet (dDat (dC (.bl false)))) sNil)
  (sSeq (sIf (dtOr (dtNot (dTest (dCB gIsi (dCons (dDat (dBin gIx (dVar 0) (dC (.int 1)))) (dCons (dDat (dC (.raw (.ty "tuple")))) dNil))))) (dTest (dBin gGt (dCB gLen (dCons (dDat (dBin gIx (dVar 0) (dC (.int 1)))) dNil)) (dC (.int 8))))) (sRet (dDat (dC (.bl false)))) sNil)
  (sRet (dDat (dBin gEq (dComp (dSeq (dBin gIx (dVar 0) (dC (.int 1)))) (gNm 1) (dtNot (dTest (dVal (dCall 1 S_is_a_run (dCons (dDat (dVar 1)) dNil))))) (dVar 1) [1]) (dLst dNil))))))
def S_fits : DF := fun ss T Q _ => match ss with
  | [.dat d] => okd 60 d = true ∧ Q (.dat (.bl (fitsB d))) T
  | _ => False
theorem filt_none {α : Type} (p : α → Bool) (l : List α) : l.filterMap (fun d => if !p d then some d else none) = [] ↔ l.all p = true := by
  induction l with
  | nil => simp
  | cons x r ih =>
    rw [List.filterMap_cons]
    cases q : p x <;> simp [q, ih]
theorem deqs_nil_iff (l : List D) : deqs l [] = l.isEmpty := by
  cases l with
  | nil => simp [deqs_nn]
  | cons x r => simp [deqs_cn]
theorem h_fits : ∀ (ss : List Sl) (T : List Ob) (Q : Sl → List Ob → Prop) (QX : Xn → List Ob → Prop), ss.length = 1 → S_fits ss T Q QX → B_fits (endsOf T.length Q QX) (startD 2 1 ss T) := by
  intro ss T Q QX hl h
  unfold S_fits at h
  split at h
  · rename_i d
    obtain ⟨ok, h⟩ := h
    unfold B_fits
    cases d with
    | raw v => simp [okd] at ok
    | fn _ => simp [okd] at ok
    | err _ _ => simp [okd] at ok
    | scr ns => simp [okd] at ok
    | tup xs =>
      rcases xs with _ | ⟨g, _ | ⟨x, _ | ⟨y, r⟩⟩⟩
      · walk_at "dl"
        exact h
      · walk_at "dl"
        exact h
      · have okg := okd_item ok (d := g) (by simp)
        have okx := okd_item ok (d := x) (by simp)
        walk_at "dl"
        simp only [S_is_int]
        walk_at "dl"
        refine ⟨okg, ?_⟩
        cases qg : isInt g 1 9 with
        | false =>
          walk_at "dl"
          cases x <;> simpa [fitsB, qg] using h
        | true =>
          walk_at "dl"
          cases x with
          | raw v => simp [okd] at okx
          | fn _ => simp [okd] at okx
          | err _ _ => simp [okd] at okx
          | scr ns => simp [okd] at okx
          | tup rs =>
            walk_at "dl"
            by_cases q8 : (8 : Int) < rs.length
            · rw [if_pos q8]
              have e : ¬ (rs.length ≤ 8) := by omega
              simpa [fitsB, e] using h
            · rw [if_neg q8]
              have e : rs.length ≤ 8 := by omega
              refine dComp_pure (fun d => if !isRun d then some d else none) rs T [some (.dat (.tup [g, .tup rs])), none] [some (.dat (.tup [g, .tup rs])), none] ?_ rfl rfl rfl (by rw [sizeLine_eq]; omega) ?_ ?_
              · intro P hP
                walk_at "dl"
                exact hP
              · intro d hd acc R hR
                have okd' := okd_item (n := 59) (ds := rs) okx hd
                walk_at "dl"
                simp only [S_is_a_run]
                walk_at "dl"
                refine ⟨okd', ?_⟩
                cases q : isRun d with
                | true =>
                  walk_at "dl"
                  have := hR [some (.dat (.tup [g, .tup rs])), some (.dat d)] rfl
                  simpa [q] using this
                | false =>
                  walk_at "dl"
                  have := hR [some (.dat (.tup [g, .tup rs])), some (.dat d)] rfl
                  simpa [q] using this
              · walk_at "dl"
                rw [deqs_nil_iff]
                have e2 : (List.filterMap (fun d => if !isRun d then some d else none) rs).isEmpty = rs.all isRun := by
                  rw [Bool.eq_iff_iff, List.isEmpty_iff]
                  exact filt_none isRun rs
                rw [e2]
                refine ⟨?_, ?_⟩
                · rw [okds_iff]
                  intro d hd
                  obtain ⟨x, hx, ex⟩ := List.mem_filterMap.mp hd
                  have okx' : okds 59 rs = true := okx
                  have := (okds_iff 59 rs).mp okx' x hx
                  split at ex
                  · cases ex
                    exact this
                  · cases ex
                · simpa [fitsB, qg, e] using h
          | _ =>
            walk_at "dl"
            exact h
      · walk_at "dl"
        have e : (((r.length + 1 + 1 + 1 : Nat) : Int) == 2) = false := by simp; omega
        simp only [e]
        walk_at "dl"
        cases x <;> exact h
    | _ =>
      walk_at "dl"
      exact h
  · exact h.elim
end DL
set_option Elab.async false
set_option linter.all false
set_option maxRecDepth 100000
set_option maxHeartbeats 4000000
set_option autoImplicit false
/-! The program's defs at data level: beginnings. -/
namespace DL
open PySem PySem.Spec PyProof.Rows L2
local macro_rules | `(tactic| walk_at "dl") => `(tactic| (try simp only [sSeq, sSet, sRet, sRetN, sIf, sNil, sDrop, sFor, sTo, sPar2, sPar3, sNever, sRaise, sSetIx, dVar, dC, dVarL, dDat, dVal, valK_dat, valK_ob, dBin, dUn, dNil, dCons, dats, dTup, dLst, dNew, dNewOf, dTest, dtAnd, dtOr, dtNot, dAnd, dOr, dNot, dIf, dChain, dCB, dSl, dNo, dSo, sApp, dIxO, dLenO, dMaxD, dGetP, dCall, dSeq, dRng1, dRng2, dZip, dEnum, gNm, gTp, gCs, gNl, dYes,
  startD, endsOf, retD, wipeS, gAdd, gSub, gMul, gMulA, gMulB, gDiv, gMod, gPow, gNeg, gLt, gLe, gGt, gGe, gEq, gNe, gIn, gIx, gSl, gIsi, tyD, isiD, gLen, gAbs, gInt, gMax2, gMin2, gTuple, gList, gIsN, isNon, gIsB, gNotB,
  List.getElem?_cons_zero, List.getElem?_cons_succ, List.getElem?_nil, List.set_cons_zero, List.set_cons_succ, List.map_cons, List.map_nil, List.cons_append, List.nil_append, List.length_cons, List.length_nil, List.replicate_succ, List.replicate_zero, Option.map_some, Nat.reduceSub, Nat.reduceAdd, Nat.reduceLeDiff,
  List.take_length, beq_self_eq_true, String.reduceBEq, Bool.or_true, Bool.true_or, Bool.or_false, Bool.false_or, Bool.and_true, Bool.and_false, Bool.true_and, Bool.false_and, Bool.or_self, Bool.and_self, decide_true, decide_false, dmem, List.any_cons, List.any_nil, okd_non, okd_bl, okd_int, okd_str, okds_nil, okds_cons, okd_60t, okd_59t, okd_58t, okd_60l, okd_59l, okd_58l, st_tk, st_tb, st_tf, st_kt, st_kb, st_kf, st_bt, st_bk, st_bf, st_ft, st_fk, st_fb, nat_num, Int.reduceBEq, Int.reduceBNe, Int.reduceEq, Int.reduceLT, Int.reduceLE, Int.reduceAdd, Int.reduceSub, Int.reduceMul, Int.reduceNeg, Int.reduceToNat, Int.reducePow, atI_0, atI_1, atI_2, set_last, get_last, take_last, deq_str, deq_int, deq_non, deq_bl, deq_tt, deq_ll, deqs_nn, deqs_cc, deqs_nc, deqs_cn, Nat.lt_irrefl, List.set_set, ixN_20, ixN_21, tupI, okds_ints, atI_map', List.length_map, cutL_map, eq_self, if_true, if_false, ite_true, ite_false, Bool.false_eq_true, decide_eq_true_eq, true_and, and_true, and_self, Bool.not_true, Bool.not_false, true_or, or_true, false_or, or_false, Option.some.injEq, reduceCtorEq]))
def spaced (g : Int) : List Int → Bool
  | x :: y :: r => decide (x + g ≤ y) && spaced g (y :: r)
  | _ => true
def inGreat (x : Int) : Bool := decide (0 ≤ x) && decide (x ≤ 1000000000000000000000000000000)
/-- a beginning -/
def beginsB (g : Int) (d : D) : Bool := match d with
  | .tup ds => (decide (1 ≤ ds.length) && decide (ds.length ≤ 40)) && match intsOf ds with
    | some xs => xs.all inGreat && spaced g xs
    | none => false
  | _ => false
theorem great_ints : ∀ ds : List D, ds.all (fun d => isInt d 0 1000000000000000000000000000000) = true → ∃ xs : List Int, ds = xs.map .int ∧ xs.all inGreat = true
  | [], _ => ⟨[], rfl, rfl⟩
  | d :: ds, h => by
    simp only [List.all_cons, Bool.and_eq_true] at h
    obtain ⟨xs, e, a⟩ := great_ints ds h.2
    cases d with
    | int i => exact ⟨i :: xs, by rw [e]; rfl, by rw [List.all_cons, a]; have h1 := h.1; unfold isInt at h1; simpa [inGreat] using h1⟩
    | _ => simp [isInt] at h
theorem great_not : ∀ {ds : List D} {xs : List Int}, ds.all (fun d => isInt d 0 1000000000000000000000000000000) = false → intsOf ds = some xs → xs.all inGreat = false
  | [], _, h, _ => by simp at h
  | d :: ds, xs, h, e => by
    cases d with
    | int i =>
      have e' : (intsOf ds).map (i :: ·) = some xs := e
      obtain ⟨ys, e1, rfl⟩ := Option.map_eq_some_iff.mp e'
      simp only [List.all_cons, Bool.and_eq_false_iff] at h ⊢
      rcases h with h | h
      · left
        simpa [isInt, inGreat] using h
      · exact .inr (great_not h e1)
    | _ => cases e
def pairLt (g : Int) (d : D) : Option D := match d with
  | .tup [.int a, .int b] => if b - a < g then some (.int 1) else none
  | _ => none
theorem spaced_zip (g : Int) : ∀ xs : List Int, ((zipD (xs.map .int) ((xs.drop 1).map .int)).filterMap (pairLt g)).isEmpty = spaced g xs
  | [] => rfl
  | [x] => rfl
  | x :: y :: r => by
    have ih := spaced_zip g (y :: r)
    show ((.tup [.int x, .int y] :: zipD ((y :: r).map .int) (((y :: r).drop 1).map .int)).filterMap (pairLt g)).isEmpty = (decide (x + g ≤ y) && spaced g (y :: r))
    rw [List.filterMap_cons, ← ih]
    simp only [pairLt]
    by_cases q : y - x < g
    · rw [if_pos q, show decide (x + g ≤ y) = false by simp; omega]
      rfl
    · rw [if_neg q, show decide (x + g ≤ y) = true by simp; omega]
      rfl
theorem zip_mem : ∀ (xs ys : List Int) (d : D), d ∈ zipD (xs.map .int) (ys.map .int) → ∃ a b, d = .tup [.int a, .int b]
  | [], _, d, h => by simp [zipD] at h
  | _ :: _, [], d, h => by simp [zipD] at h
  | x :: xs, y :: ys, d, h => by
    rcases List.mem_cons.mp h with rfl | h
    · exact ⟨x, y, rfl⟩
    · exact zip_mem xs ys d h
/-- slots: 0 gap, 1 value, 2 place, 3 one, 4 other -/
def B_begins : DS :=
  (sSeq (sIf (dtOr (dtNot (dTest (dCB gIsi (dCons (dDat (dVar 1)) (dCons (dDat (dC (.raw (.ty "tuple")))) dNil))))) (dtNot (dTest (dChain gLe gLe (dC (.int 1)) (dCB gLen (dCons (dDat (dVar 1)) dNil)) (dC (.int 40)))))) (sRet (dDat (dC (.bl false)))) sNil)
  (sSeq (sIf (dTest (dBin gNe (dComp (dSeq (dVar 1)) (gNm 2) (dtNot (dTest (dVal (dCall 3 S_is_int (dCons (dDat (dVar 2)) (dCons (dDat (dC (.int 0))) (dCons (dDat (dC (.int 1000000000000000000000000000000))) dNil))))))) (dVar 2) [2]) (dLst dNil))) (sRet (dDat (dC (.bl false)))) sNil)
  (sRet (dDat (dBin gEq (dComp (dZip (dCons (dDat (dVar 1)) (dCons (dDat (dSl (dVar 1) (dSo (dC (.int 1))) dNo)) dNil))) (gTp 2 (gCs (gNm 3) (gCs (gNm 4) gNl))) (dTest (dBin gLt (dBin gSub (dVar 4) (dVar 3)) (dVar 0))) (dC (.int 1)) [3, 4]) (dLst dNil))))))
def S_begins : DF := fun ss T Q _ => match ss with
  | [.dat (.int g), .dat d] => okd 60 d = true ∧ Q (.dat (.bl (beginsB g d))) T
  | _ => False
theorem h_begins : ∀ (ss : List Sl) (T : List Ob) (Q : Sl → List Ob → Prop) (QX : Xn → List Ob → Prop), ss.length = 2 → S_begins ss T Q QX → B_begins (endsOf T.length Q QX) (startD 5 2 ss T) := by
  intro ss T Q QX hl h
  unfold S_begins at h
  split at h
  · rename_i g d
    obtain ⟨ok, h⟩ := h
    unfold B_begins
    cases d with
    | raw v => simp [okd] at ok
    | fn _ => simp [okd] at ok
    | err _ _ => simp [okd] at ok
    | scr ns => simp [okd] at ok
    | tup ds =>
      walk_at "dl"
      by_cases q1 : (1 : Int) ≤ ds.length
      rotate_left
      · rw [if_neg q1]
        have e : ds.length = 0 := by omega
        simpa [beginsB, e] using h
      rw [if_pos q1]
      by_cases q2 : (ds.length : Int) ≤ 40
      rotate_left
      · rw [if_pos (by simpa using q2)]
        have e : ¬ (ds.length ≤ 40) := by omega
        simpa [beginsB, e] using h
      rw [if_neg (by simpa using q2)]
      have e1 : decide (1 ≤ ds.length) = true := by simp; omega
      have e2 : decide (ds.length ≤ 40) = true := by simp; omega
      refine dComp_pure (fun d => if !isInt d 0 1000000000000000000000000000000 then some d else none) ds T [some (.dat (.int g)), some (.dat (.tup ds)), none, none, none] [some (.dat (.int g)), some (.dat (.tup ds)), none, none, none] ?_ rfl rfl rfl (by rw [sizeLine_eq]; omega) ?_ ?_
      · intro P hP
        walk_at "dl"
        exact hP
      · intro d hd acc R hR
        have okd' := okd_item (n := 59) (ds := ds) ok hd
        walk_at "dl"
        simp only [S_is_int]
        walk_at "dl"
        refine ⟨okd', ?_⟩
        have := hR [some (.dat (.int g)), some (.dat (.tup ds)), some (.dat d), none, none] rfl
        cases q : isInt d 0 1000000000000000000000000000000 with
        | true =>
          walk_at "dl"
          simpa [q] using this
        | false =>
          walk_at "dl"
          simpa [q] using this
      · walk_at "dl"
        rw [deqs_nil_iff]
        have e3 : (List.filterMap (fun d => if !isInt d 0 1000000000000000000000000000000 then some d else none) ds).isEmpty = ds.all (fun d => isInt d 0 1000000000000000000000000000000) := by
          rw [Bool.eq_iff_iff, List.isEmpty_iff]
          exact filt_none (fun d => isInt d 0 1000000000000000000000000000000) ds
        rw [e3]
        refine ⟨?_, ?_⟩
        · rw [okds_iff]
          intro d hd
          obtain ⟨x, hx, ex⟩ := List.mem_filterMap.mp hd
          have okx' : okds 59 ds = true := ok
          have := (okds_iff 59 ds).mp okx' x hx
          split at ex
          · cases ex
            exact this
          · cases ex
        · cases q : ds.all (fun d => isInt d 0 1000000000000000000000000000000) with
          | false =>
            walk_at "dl"
            cases qi : intsOf ds with
            | none => simpa [beginsB, qi] using h
            | some xs => simpa [beginsB, qi, great_not q qi] using h
          | true =>
            walk_at "dl"
            obtain ⟨xs, rfl, ha⟩ := great_ints ds q
            have hlen : xs.length ≤ 40 := by simpa using e2
            refine dComp_pure (pairLt g) (zipD (xs.map .int) ((xs.drop 1).map .int)) T [some (.dat (.int g)), some (.dat (.tup (xs.map .int))), none, none, none] [some (.dat (.int g)), some (.dat (.tup (xs.map .int))), none, none, none] ?_ rfl rfl rfl ?_ ?_ ?_
            · intro P hP
              walk_at "dl"
              rw [cut_from _ (by omega)]
              exact hP
            · rw [zipD_len, List.length_map, sizeLine_eq]
              omega
            · intro d hd acc R hR
              obtain ⟨a, b, rfl⟩ := zip_mem _ _ _ hd
              walk_at "dl"
              have := hR [some (.dat (.int g)), some (.dat (.tup (xs.map .int))), none, some (.dat (.int a)), some (.dat (.int b))] rfl
              by_cases q : b - a < g
              · rw [if_pos q]
                simpa [pairLt, q] using this
              · rw [if_neg q]
                simpa [pairLt, q] using this
            · walk_at "dl"
              rw [deqs_nil_iff, spaced_zip]
              refine ⟨?_, ?_⟩
              · rw [okds_iff]
                intro d hd
                obtain ⟨x, hx, ex⟩ := List.mem_filterMap.mp hd
                obtain ⟨a, b, rfl⟩ := zip_mem _ _ _ hx
                unfold pairLt at ex
                simp only at ex
                split at ex
                · cases ex
                  rfl
                · cases ex
              · have e1' : decide (1 ≤ xs.length) = true := by simpa using e1
                have e2' : decide (xs.length ≤ 40) = true := by simpa using e2
                simpa only [beginsB, e1', e2', intsOf_map, ha, List.length_map, Bool.true_and] using h
    | _ =>
      walk_at "dl"
      exact h
  · exact h.elim
/-- slots: 0 value -/
def B_need_drill : DS :=
  (sIf (dtNot (dTest (dVal (dCall 1 S_fits (dCons (dDat (dVar 0)) dNil))))) (sRaise "InvalidDrill") sNil)
def S_need_drill : DF := fun ss T Q QX => match ss with
  | [.dat d] => okd 60 d = true ∧ ((fitsB d = true ∧ Q (.dat .non) T) ∨ (fitsB d = false ∧ QX ⟨"InvalidDrill", none⟩ T))
  | _ => False
theorem h_need_drill : ∀ (ss : List Sl) (T : List Ob) (Q : Sl → List Ob → Prop) (QX : Xn → List Ob → Prop), ss.length = 1 → S_need_drill ss T Q QX → B_need_drill (endsOf T.length Q QX) (startD 1 1 ss T) := by
  intro ss T Q QX hl h
  unfold S_need_drill at h
  split at h
  · rename_i d
    obtain ⟨ok, h⟩ := h
    unfold B_need_drill
    walk_at "dl"
    simp only [S_fits]
    refine ⟨ok, ?_⟩
    rcases h with ⟨f, h⟩ | ⟨f, h⟩
    all_goals
      rw [f]
      walk_at "dl"
    · exact h
    · exact h
  · exact h.elim
/-- slots: 0 gap, 1 value -/
def B_need_beginning : DS :=
  (sIf (dtNot (dTest (dVal (dCall 2 S_begins (dCons (dDat (dVar 0)) (dCons (dDat (dVar 1)) dNil)))))) (sRaise "InvalidBeginning") sNil)
def S_need_beginning : DF := fun ss T Q QX => match ss with
  | [.dat (.int g), .dat d] => okd 60 d = true ∧ ((beginsB g d = true ∧ Q (.dat .non) T) ∨ (beginsB g d = false ∧ QX ⟨"InvalidBeginning", none⟩ T))
  | _ => False
theorem h_need_beginning : ∀ (ss : List Sl) (T : List Ob) (Q : Sl → List Ob → Prop) (QX : Xn → List Ob → Prop), ss.length = 2 → S_need_beginning ss T Q QX → B_need_beginning (endsOf T.length Q QX) (startD 2 2 ss T) := by
  intro ss T Q QX hl h
  unfold S_need_beginning at h
  split at h
  · rename_i g d
    obtain ⟨ok, h⟩ := h
    unfold B_need_beginning
    walk_at "dl"
    simp only [S_begins]
    refine ⟨ok, ?_⟩
    rcases h with ⟨f, h⟩ | ⟨f, h⟩
    all_goals
      rw [f]
      walk_at "dl"
    · exact h
    · exact h
  · exact h.elim
end DL
set_option Elab.async false
set_option linter.all false
set_option maxRecDepth 100000
set_option maxHeartbeats 4000000
set_option autoImplicit false
/-! The program's defs at data level: running. -/
namespace DL
open PySem PySem.Spec PyProof.Rows L2
local macro_rules | `(tactic| walk_at "dl") => `(tactic| (try simp only [sSeq, sSet, sRet, sRetN, sIf, sNil, sDrop, sFor, sTo, sPar2, sPar3, sNever, sRaise, sSetIx, dVar, dC, dVarL, dDat, dVal, valK_dat, valK_ob, dBin, dUn, dNil, dCons, dats, dTup, dLst, dNew, dNewOf, dTest, dtAnd, dtOr, dtNot, dAnd, dOr, dNot, dIf, dChain, dCB, dSl, dNo, dSo, sApp, dIxO, dLenO, dMaxD, dGetP, dCall, dSeq, dRng1, dRng2, dZip, dEnum, gNm, gTp, gCs, gNl, dYes,
  startD, endsOf, retD, wipeS, gAdd, gSub, gMul, gMulA, gMulB, gDiv, gMod, gPow, gNeg, gLt, gLe, gGt, gGe, gEq, gNe, gIn, gIx, gSl, gIsi, tyD, isiD, gLen, gAbs, gInt, gMax2, gMin2, gTuple, gList, gIsN, isNon, gIsB, gNotB,
  List.getElem?_cons_zero, List.getElem?_cons_succ, List.getElem?_nil, List.set_cons_zero, List.set_cons_succ, List.map_cons, List.map_nil, List.cons_append, List.nil_append, List.length_cons, List.length_nil, List.replicate_succ, List.replicate_zero, Option.map_some, Nat.reduceSub, Nat.reduceAdd, Nat.reduceLeDiff,
  List.take_length, beq_self_eq_true, String.reduceBEq, Bool.or_true, Bool.true_or, Bool.or_false, Bool.false_or, Bool.and_true, Bool.and_false, Bool.true_and, Bool.false_and, Bool.or_self, Bool.and_self, decide_true, decide_false, dmem, List.any_cons, List.any_nil, okd_non, okd_bl, okd_int, okd_str, okds_nil, okds_cons, okd_60t, okd_59t, okd_58t, okd_60l, okd_59l, okd_58l, st_tk, st_tb, st_tf, st_kt, st_kb, st_kf, st_bt, st_bk, st_bf, st_ft, st_fk, st_fb, nat_num, Int.reduceBEq, Int.reduceBNe, Int.reduceEq, Int.reduceLT, Int.reduceLE, Int.reduceAdd, Int.reduceSub, Int.reduceMul, Int.reduceNeg, Int.reduceToNat, Int.reducePow, atI_0, atI_1, atI_2, set_last, get_last, take_last, deq_str, deq_int, deq_non, deq_bl, deq_tt, deq_ll, deqs_nn, deqs_cc, deqs_nc, deqs_cn, Nat.lt_irrefl, List.set_set, ixN_20, ixN_21, tupI, okds_ints, atI_map', List.length_map, cutL_map, eq_self, if_true, if_false, ite_true, ite_false, Bool.false_eq_true, decide_eq_true_eq, true_and, and_true, and_self, Bool.not_true, Bool.not_false, true_or, or_true, false_or, or_false, Option.some.injEq, reduceCtorEq]))
theorem rangeD_cons {lo hi : Int} (h : lo < hi) : rangeD lo hi = .int lo :: rangeD (lo + 1) hi := by
  unfold rangeD
  rw [show (hi - lo).toNat = (hi - (lo + 1)).toNat + 1 by omega, List.range_succ_eq_map, List.map_cons, List.map_map]
  congr 1
  · simp
  · apply List.map_congr_left
    intro k _
    simp only [Function.comp]
    congr 1
    push_cast
    omega
theorem rangeD_nil {lo hi : Int} (h : hi ≤ lo) : rangeD lo hi = [] := by
  unfold rangeD
  rw [show (hi - lo).toNat = 0 by omega]
  rfl
theorem ints_at (A B : List Int) (x : Int) : ((A ++ x :: B).map D.int)[A.length]? = some (.int x) := by simp
theorem ints_set (A B : List Int) (x y : Int) : ((A ++ x :: B).map D.int).set A.length (.int y) = (A ++ y :: B).map D.int := by simp
theorem atI_ints (A B : List Int) (x i : Int) (h : i = A.length) : atI (A ++ x :: B) i = some x := by
  rw [h, atI_nat]
  simp
theorem atI_intsP (A B : List Int) (p x i : Int) (h : i = A.length + 1) : atI (A ++ p :: x :: B) i = some x := by
  rw [show A ++ p :: x :: B = (A ++ [p]) ++ x :: B by simp]
  exact atI_ints _ _ _ _ (by rw [h]; simp)
/-- each at least g behind the one before -/
def clo (g : Int) : Int → List Int → List Int
  | _, [] => []
  | p, x :: r => (if p + g > x then p + g else x) :: clo g (if p + g > x then p + g else x) r
theorem clo_len (g : Int) : ∀ (r : List Int) (p : Int), (clo g p r).length = r.length
  | [], _ => rfl
  | x :: r, p => congrArg (· + 1) (clo_len g r _)
def pushedL (g : Int) (xs : List Int) (i : Nat) (s : Int) : List Int := xs.take i ++ match xs.drop i with
  | [] => []
  | x :: r => (x + s) :: clo g (x + s) r
theorem pushedL_at (g s x : Int) (A r : List Int) : pushedL g (A ++ x :: r) A.length s = A ++ (x + s) :: clo g (x + s) r := by simp [pushedL]
theorem pushedL_len (g s : Int) (xs : List Int) (i : Nat) : (pushedL g xs i s).length = xs.length := by
  unfold pushedL
  rw [List.length_append]
  cases h : xs.drop i with
  | nil =>
    have := congrArg List.length h
    simp at this ⊢
    omega
  | cons x r =>
    have := congrArg List.length h
    simp [clo_len] at this ⊢
    omega
theorem split_at {xs : List Int} {i : Nat} (h : i < xs.length) : ∃ A x r, xs = A ++ x :: r ∧ A.length = i := by
  refine ⟨xs.take i, xs[i], xs.drop (i + 1), ?_, by simp; omega⟩
  rw [← List.drop_eq_getElem_cons h, List.take_append_drop]
/-- slots: 0 gap, 1 places, 2 sheep, 3 steps, 4 found, 5 at -/
def B_pushed : DS :=
  (sSeq (sSet 4 (dNewOf (dCons (dDat (dVar 1)) dNil)))
  (sSeq (sSetIx 4 (dVar 2) (dBin gAdd (dIxO 4 (dVar 2)) (dVar 3)))
  (sSeq (sFor (dRng2 (dCons (dDat (dBin gAdd (dVar 2) (dC (.int 1)))) (dCons (dDat (dLenO 4)) dNil))) (gNm 5) (sSetIx 4 (dVar 5) (dCB gMax2 (dCons (dDat (dIxO 4 (dVar 5))) (dCons (dDat (dBin gAdd (dIxO 4 (dBin gSub (dVar 5) (dC (.int 1)))) (dVar 0))) dNil)))))
  (sRet (dDat (dCB gTuple (dCons (dDat (dVar 4)) dNil)))))))
def S_pushed : DF := fun ss T Q _ => ∃ (g : Int) (xs : List Int) (i s : Int), ss = [.dat (.int g), .dat (tupI xs), .dat (.int i), .dat (.int s)] ∧ 0 ≤ i ∧ i < xs.length ∧ xs.length ≤ 1000 ∧ Q (.dat (tupI (pushedL g xs i.toNat s))) T
theorem h_pushed : ∀ (ss : List Sl) (T : List Ob) (Q : Sl → List Ob → Prop) (QX : Xn → List Ob → Prop), ss.length = 4 → S_pushed ss T Q QX → B_pushed (endsOf T.length Q QX) (startD 6 4 ss T) := by
  intro ss T Q QX hl h
  obtain ⟨g, xs, i, s, rfl, h0, h1, hz, h⟩ := h
  obtain ⟨A, x, r, rfl, hA⟩ := split_at (i := i.toNat) (xs := xs) (by omega)
  have hi : i = A.length := by omega
  subst hi
  rw [Int.toNat_natCast, pushedL_at] at h
  unfold B_pushed
  simp only [tupI]
  walk_at "dl"
  rw [atI_ints A r x _ rfl]
  walk_at "dl"
  rw [ixN_pos (by omega) (by simp; omega)]
  walk_at "dl"
  rw [Int.toNat_natCast, ints_set]
  refine ⟨by simp at hz ⊢; omega, ?_⟩
  refine loop_inv (fun ds ρ => ∃ P p rest v, ρ = ⟨T ++ [.lst ((P ++ p :: rest).map .int)], [some (.dat (.int g)), some (.dat (.tup ((A ++ x :: r).map .int))), some (.dat (.int A.length)), some (.dat (.int s)), some (.ob T.length), v]⟩ ∧
    ds = rangeD (P.length + 1) (P.length + 1 + rest.length) ∧ P ++ p :: clo g p rest = A ++ (x + s) :: clo g (x + s) r) ?_ ?_ _ _ ?_
  · rintro d ds ρ ⟨P, p, rest, v, rfl, e, f⟩ N hN
    cases rest with
    | nil =>
      rw [rangeD_nil (by simp)] at e
      cases e
    | cons y rest =>
      rw [rangeD_cons (by simp; omega)] at e
      cases e
      walk_at "dl"
      rw [atI_intsP P rest p y _ rfl]
      walk_at "dl"
      rw [show ((P.length : Int) + 1 - 1) = P.length by omega, atI_ints P (y :: rest) p _ rfl]
      walk_at "dl"
      rw [ixN_pos (by omega) (by simp; omega)]
      walk_at "dl"
      apply hN
      refine ⟨P ++ [p], (if p + g > y then p + g else y), rest, some (.dat (.int (P.length + 1))), ?_, ?_, ?_⟩
      · have e1 : ((P.length : Int) + 1).toNat = (P ++ [p]).length := by simp
        rw [e1, show P ++ p :: y :: rest = (P ++ [p]) ++ y :: rest by simp, ints_set]
      · congr 1
        · simp
        · simp
          omega
      · rw [← f]
        simp [clo]
  · rintro ρ ⟨P, p, rest, v, rfl, e, f⟩
    have hr : rest = [] := by
      cases rest with
      | nil => rfl
      | cons y rest =>
        rw [rangeD_cons (by simp; omega)] at e
        cases e
    subst hr
    walk_at "dl"
    rw [show (P ++ [p]) = A ++ (x + s) :: clo g (x + s) r by simpa [clo] using f]
    exact h
  · refine ⟨A, x + s, r, none, rfl, ?_, rfl⟩
    congr 1
    simp
    omega
end DL
set_option Elab.async false
set_option linter.all false
set_option maxRecDepth 100000
set_option maxHeartbeats 4000000
set_option autoImplicit false
/-! The program's defs at data level: courses. -/
namespace DL
open PySem PySem.Spec PyProof.Rows L2
local macro_rules | `(tactic| walk_at "dl") => `(tactic| (try simp only [sSeq, sSet, sRet, sRetN, sIf, sNil, sDrop, sFor, sTo, sPar2, sPar3, sNever, sRaise, sSetIx, dVar, dC, dVarL, dDat, dVal, valK_dat, valK_ob, dBin, dUn, dNil, dCons, dats, dTup, dLst, dNew, dNewOf, dTest, dtAnd, dtOr, dtNot, dAnd, dOr, dNot, dIf, dChain, dCB, dSl, dNo, dSo, sApp, dIxO, dLenO, dMaxD, dGetP, dCall, dSeq, dRng1, dRng2, dZip, dEnum, gNm, gTp, gCs, gNl, dYes,
  startD, endsOf, retD, wipeS, gAdd, gSub, gMul, gMulA, gMulB, gDiv, gMod, gPow, gNeg, gLt, gLe, gGt, gGe, gEq, gNe, gIn, gIx, gSl, gIsi, tyD, isiD, gLen, gAbs, gInt, gMax2, gMin2, gTuple, gList, gIsN, isNon, gIsB, gNotB,
  List.getElem?_cons_zero, List.getElem?_cons_succ, List.getElem?_nil, List.set_cons_zero, List.set_cons_succ, List.map_cons, List.map_nil, List.cons_append, List.nil_append, List.length_cons, List.length_nil, List.replicate_succ, List.replicate_zero, Option.map_some, Nat.reduceSub, Nat.reduceAdd, Nat.reduceLeDiff,
  List.take_length, beq_self_eq_true, String.reduceBEq, Bool.or_true, Bool.true_or, Bool.or_false, Bool.false_or, Bool.and_true, Bool.and_false, Bool.true_and, Bool.false_and, Bool.or_self, Bool.and_self, decide_true, decide_false, dmem, List.any_cons, List.any_nil, okd_non, okd_bl, okd_int, okd_str, okds_nil, okds_cons, okd_60t, okd_59t, okd_58t, okd_60l, okd_59l, okd_58l, st_tk, st_tb, st_tf, st_kt, st_kb, st_kf, st_bt, st_bk, st_bf, st_ft, st_fk, st_fb, nat_num, Int.reduceBEq, Int.reduceBNe, Int.reduceEq, Int.reduceLT, Int.reduceLE, Int.reduceAdd, Int.reduceSub, Int.reduceMul, Int.reduceNeg, Int.reduceToNat, Int.reducePow, atI_0, atI_1, atI_2, set_last, get_last, take_last, deq_str, deq_int, deq_non, deq_bl, deq_tt, deq_ll, deqs_nn, deqs_cc, deqs_nc, deqs_cn, Nat.lt_irrefl, List.set_set, ixN_20, ixN_21, tupI, okds_ints, atI_map', List.length_map, cutL_map, eq_self, if_true, if_false, ite_true, ite_false, Bool.false_eq_true, decide_eq_true_eq, true_and, and_true, and_self, Bool.not_true, Bool.not_false, true_or, or_true, false_or, or_false, Option.some.injEq, reduceCtorEq]))
/-- a run -/
inductive Rn | to (p : Int) | bark (s : Int) | back (n s : Int) | front (n s : Int)
def Rn.d : Rn → D
  | .to p => .tup [.str "to", .int p]
  | .bark s => .tup [.str "bark", .int s]
  | .back n s => .tup [.str "back", .int n, .int s]
  | .front n s => .tup [.str "front", .int n, .int s]
def Rn.ok : Rn → Prop
  | .to p => 0 ≤ p ∧ p ≤ 1000000000000
  | .bark s => 1 ≤ s ∧ s ≤ 1000000000000
  | .back n s => (0 ≤ n ∧ n ≤ 3) ∧ 1 ≤ s ∧ s ≤ 1000000000000
  | .front n s => (0 ≤ n ∧ n ≤ 3) ∧ 1 ≤ s ∧ s ≤ 1000000000000
theorem isInt_int {i lo hi : Int} (h : lo ≤ i) (h2 : i ≤ hi) : isInt (.int i) lo hi = true := by simp [isInt, h, h2]
theorem Rn.run {r : Rn} (h : r.ok) : isRun r.d = true := by
  cases r with
  | to p => simp [Rn.d, DL.isRun, isInt_int h.1 h.2]
  | bark p => simp [Rn.d, DL.isRun, isInt_int h.1 h.2]
  | back n s => simp [Rn.d, DL.isRun, isInt_int h.1.1 h.1.2, isInt_int h.2.1 h.2.2]
  | front n s => simp [Rn.d, DL.isRun, isInt_int h.1.1 h.1.2, isInt_int h.2.1 h.2.2]
theorem Rn.okd (r : Rn) (n : Nat) : okd (n + 1) r.d = true := by
  cases r <;> simp [Rn.d, DL.okd, okds]
def drD (g : Int) (rs : List Rn) : D := .tup [.int g, .tup (rs.map Rn.d)]
structure DrOk (g : Int) (rs : List Rn) : Prop where
  g1 : 1 ≤ g
  g9 : g ≤ 9
  l8 : rs.length ≤ 8
  ok : ∀ r ∈ rs, r.ok
theorem okd_drD (g : Int) (rs : List Rn) (n : Nat) : okd (n + 3) (drD g rs) = true := by
  simp only [drD, okd, okds, Bool.and_true, Bool.true_and]
  rw [okds_iff]
  intro d hd
  obtain ⟨r, _, rfl⟩ := List.mem_map.mp hd
  exact r.okd n
theorem DrOk.fits {g : Int} {rs : List Rn} (h : DrOk g rs) : fitsB (drD g rs) = true := by
  simp only [drD, fitsB, isInt_int h.g1 h.g9, List.length_map, Bool.true_and, Bool.and_eq_true, decide_eq_true_eq]
  refine ⟨h.l8, ?_⟩
  rw [List.all_eq_true]
  intro d hd
  obtain ⟨r, hr, rfl⟩ := List.mem_map.mp hd
  exact Rn.run (h.ok r hr)
structure BgOk (g : Int) (xs : List Int) : Prop where
  l1 : 1 ≤ xs.length
  l40 : xs.length ≤ 40
  great : ∀ x ∈ xs, 0 ≤ x ∧ x ≤ 1000000000000000000000000000000
  sp : spaced g xs = true
theorem BgOk.begins {g : Int} {xs : List Int} (h : BgOk g xs) : beginsB g (tupI xs) = true := by
  simp only [tupI, beginsB, intsOf_map, List.length_map, Bool.and_eq_true, decide_eq_true_eq]
  refine ⟨⟨h.l1, h.l40⟩, ?_, h.sp⟩
  rw [List.all_eq_true]
  intro x hx
  have := h.great x hx
  simp [inGreat, this]
/-- what the program does with a run -/
def ranL (g : Int) (xs : List Int) : Rn → List Int
  | .to p => pushedL g xs 0 (if p - xs.headD 0 > 0 then p - xs.headD 0 else 0)
  | .bark s => xs.map (· + s)
  | .back n s => if n < xs.length then pushedL g xs n.toNat s else xs
  | .front n s => if 0 ≤ (xs.length : Int) - 1 - n then pushedL g xs ((xs.length : Int) - 1 - n).toNat s else xs
theorem ranL_len (g : Int) (xs : List Int) (r : Rn) : (ranL g xs r).length = xs.length := by
  cases r with
  | to p => simp [ranL, pushedL_len]
  | bark s => simp [ranL]
  | back n s => simp only [ranL]; split <;> simp [pushedL_len]
  | front n s => simp only [ranL]; split <;> simp [pushedL_len]
theorem gMax2_ii (i j : Int) (P : D → Prop) : gMax2 [.int i, .int j] P = P (.int (if j > i then j else i)) := rfl
theorem filterMap_some {α β : Type} (f : α → β) (l : List α) : l.filterMap (fun x => some (f x)) = l.map f := by simp
/-- slots: 0 gap, 1 places, 2 run, 3 sheep, 4 place -/
def B_ran : DS :=
  (sSeq (sIf (dTest (dBin gEq (dBin gIx (dVar 2) (dC (.int 0))) (dC (.str "to")))) (sRet (dDat (dVal (dCall 4 S_pushed (dCons (dDat (dVar 0)) (dCons (dDat (dVar 1)) (dCons (dDat (dC (.int 0))) (dCons (dDat (dCB gMax2 (dCons (dDat (dC (.int 0))) (dCons (dDat (dBin gSub (dBin gIx (dVar 2) (dC (.int 1))) (dBin gIx (dVar 1) (dC (.int 0))))) dNil)))) dNil)))))))) sNil)
  (sSeq (sIf (dTest (dBin gEq (dBin gIx (dVar 2) (dC (.int 0))) (dC (.str "bark")))) (sRet (dDat (dCB gTuple (dCons (dDat (dComp (dSeq (dVar 1)) (gNm 4) dYes (dBin gAdd (dVar 4) (dBin gIx (dVar 2) (dC (.int 1)))) [4])) dNil)))) sNil)
  (sSeq (sSet 3 (dDat (dIf (dTest (dBin gEq (dBin gIx (dVar 2) (dC (.int 0))) (dC (.str "back")))) (dBin gIx (dVar 2) (dC (.int 1))) (dBin gSub (dBin gSub (dCB gLen (dCons (dDat (dVar 1)) dNil)) (dC (.int 1))) (dBin gIx (dVar 2) (dC (.int 1)))))))
  (sSeq (sIf (dtNot (dTest (dChain gLe gLt (dC (.int 0)) (dVar 3) (dCB gLen (dCons (dDat (dVar 1)) dNil))))) (sRet (dDat (dVar 1))) sNil)
  (sRet (dDat (dVal (dCall 4 S_pushed (dCons (dDat (dVar 0)) (dCons (dDat (dVar 1)) (dCons (dDat (dVar 3)) (dCons (dDat (dBin gIx (dVar 2) (dC (.int 2)))) dNil))))))))))))
def S_ran : DF := fun ss T Q _ => ∃ (g : Int) (xs : List Int) (r : Rn), ss = [.dat (.int g), .dat (tupI xs), .dat r.d] ∧ 1 ≤ xs.length ∧ xs.length ≤ 1000 ∧ r.ok ∧ Q (.dat (tupI (ranL g xs r))) T
theorem h_ran : ∀ (ss : List Sl) (T : List Ob) (Q : Sl → List Ob → Prop) (QX : Xn → List Ob → Prop), ss.length = 3 → S_ran ss T Q QX → B_ran (endsOf T.length Q QX) (startD 5 3 ss T) := by
  intro ss T Q QX hl h
  obtain ⟨g, xs, r, rfl, h1, hz, ok, h⟩ := h
  unfold B_ran
  cases r with
  | to p =>
    simp only [Rn.d]
    walk_at "dl"
    obtain ⟨x, r, rfl⟩ : ∃ x r, xs = x :: r := by
      cases xs with
      | nil => simp at h1
      | cons x r => exact ⟨x, r, rfl⟩
    walk_at "dl"
    exact ⟨_, _, _, _, rfl, by omega, by simp, hz, by walk_at "dl"; exact h⟩
  | bark s =>
    simp only [Rn.d]
    walk_at "dl"
    refine dComp_pure (fun d => match d with | .int i => some (.int (i + s)) | _ => none) (xs.map .int) T [some (.dat (.int g)), some (.dat (tupI xs)), some (.dat (.tup [.str "bark", .int s])), none, none] [some (.dat (.int g)), some (.dat (tupI xs)), some (.dat (.tup [.str "bark", .int s])), none, none] ?_ rfl rfl rfl (by rw [List.length_map, sizeLine_eq]; omega) ?_ ?_
    · intro P hP
      walk_at "dl"
      exact hP
    · intro d hd acc R hR
      obtain ⟨x, _, rfl⟩ := List.mem_map.mp hd
      walk_at "dl"
      exact hR _ rfl
    · walk_at "dl"
      rw [List.filterMap_map, show ((fun d => match d with | D.int i => some (D.int (i + s)) | _ => none) ∘ D.int) = fun x => some (D.int (x + s)) from rfl, filterMap_some]
      have e : xs.map (fun x => D.int (x + s)) = (xs.map (· + s)).map D.int := by simp
      rw [e]
      exact h
  | back n s =>
    obtain ⟨⟨n0, n3⟩, s1, s2⟩ := ok
    simp only [Rn.d]
    walk_at "dl"
    rw [if_pos n0]
    simp only [ranL] at h
    by_cases q : n < xs.length
    · rw [if_pos q] at h
      rw [if_neg (by simpa using q)]
      exact ⟨_, _, _, _, rfl, n0, q, hz, by walk_at "dl"; exact h⟩
    · rw [if_neg q] at h
      rw [if_pos (by simpa using q)]
      exact h
  | front n s =>
    obtain ⟨⟨n0, n3⟩, s1, s2⟩ := ok
    simp only [Rn.d]
    walk_at "dl"
    simp only [ranL] at h
    by_cases q : 0 ≤ (xs.length : Int) - 1 - n
    · rw [if_pos q] at h
      rw [if_pos q, if_neg (by simp; omega)]
      exact ⟨_, _, _, _, rfl, q, by omega, hz, by walk_at "dl"; exact h⟩
    · rw [if_neg q] at h
      rw [if_neg q]
      exact h
/-- a course -/
def courseL (g : Int) : List Int → List Rn → List (List Int)
  | _, [] => []
  | xs, r :: rs => ranL g xs r :: courseL g (ranL g xs r) rs
theorem courseL_len (g : Int) : ∀ (rs : List Rn) (xs : List Int), (courseL g xs rs).length = rs.length
  | [], _ => rfl
  | r :: rs, xs => congrArg (· + 1) (courseL_len g rs _)
/-- slots: 0 drill, 1 beginning, 2 found, 3 run -/
def B_course_of : DS :=
  (sSeq (sSet 2 (dNew dNil))
  (sSeq (sFor (dSeq (dBin gIx (dVar 0) (dC (.int 1)))) (gNm 3) (sSeq (sSet 1 (dDat (dVal (dCall 3 S_ran (dCons (dDat (dBin gIx (dVar 0) (dC (.int 0)))) (dCons (dDat (dVar 1)) (dCons (dDat (dVar 3)) dNil)))))))
  (sApp 2 (dVar 1))))
  (sRet (dDat (dVar 2)))))
def S_course_of : DF := fun ss T Q _ => ∃ (g : Int) (xs : List Int) (rs : List Rn), ss = [.dat (drD g rs), .dat (tupI xs)] ∧ 1 ≤ xs.length ∧ xs.length ≤ 1000 ∧ rs.length ≤ 1000 ∧ (∀ r ∈ rs, r.ok) ∧ Q (.dat (.lst ((courseL g xs rs).map tupI))) T
theorem h_course_of : ∀ (ss : List Sl) (T : List Ob) (Q : Sl → List Ob → Prop) (QX : Xn → List Ob → Prop), ss.length = 2 → S_course_of ss T Q QX → B_course_of (endsOf T.length Q QX) (startD 4 2 ss T) := by
  intro ss T Q QX hl h
  obtain ⟨g, xs, rs, rfl, h1, hz, hr, ok, h⟩ := h
  unfold B_course_of
  simp only [drD]
  walk_at "dl"
  refine loop_inv (fun ds ρ => ∃ (done : List (List Int)) (ys : List Int) (rest : List Rn) (v : Option Sl), ρ = ⟨T ++ [.lst (done.map tupI)], [some (.dat (.tup [.int g, .tup (rs.map Rn.d)])), some (.dat (tupI ys)), some (.ob T.length), v]⟩ ∧ ds = rest.map Rn.d ∧ ys.length = xs.length ∧ (∀ r ∈ rest, r.ok) ∧ done ++ courseL g ys rest = courseL g xs rs) ?_ ?_ _ _ ?_
  · rintro d ds ρ ⟨done, ys, rest, v, rfl, e, hy, ho, hc⟩ N hN
    cases rest with
    | nil => cases e
    | cons r rest =>
      cases e
      walk_at "dl"
      refine ⟨g, ys, r, rfl, by omega, by omega, ho r (by simp), ?_⟩
      walk_at "dl"
      have hlen := congrArg List.length hc
      simp only [List.length_append, courseL_len, List.length_cons] at hlen
      refine ⟨by rw [sizeLine_eq]; omega, ?_⟩
      apply hN
      refine ⟨done ++ [ranL g ys r], ranL g ys r, rest, some (.dat r.d), by simp [tupI], rfl, by rw [ranL_len, hy], fun r hr => ho r (by simp [hr]), ?_⟩
      rw [← hc]
      simp [courseL]
  · rintro ρ ⟨done, ys, rest, v, rfl, e, hy, ho, hc⟩
    have hr : rest = [] := by
      cases rest with
      | nil => rfl
      | cons y rest => cases e
    subst hr
    walk_at "dl"
    rw [show done = courseL g xs rs by simpa [courseL] using hc]
    exact h
  · exact ⟨[], xs, rs, none, rfl, rfl, rfl, ok, rfl⟩
/-- slots: 0 drill, 1 beginning -/
def B_course : DS :=
  (sSeq (sDrop (dCall 1 S_need_drill (dCons (dDat (dVar 0)) dNil)))
  (sSeq (sDrop (dCall 2 S_need_beginning (dCons (dDat (dBin gIx (dVar 0) (dC (.int 0)))) (dCons (dDat (dVar 1)) dNil))))
  (sRet (dDat (dVal (dCall 2 S_course_of (dCons (dDat (dVar 0)) (dCons (dDat (dVar 1)) dNil))))))))
def S_course : DF := fun ss T Q _ => ∃ (g : Int) (xs : List Int) (rs : List Rn), ss = [.dat (drD g rs), .dat (tupI xs)] ∧ DrOk g rs ∧ BgOk g xs ∧ Q (.dat (.lst ((courseL g xs rs).map tupI))) T
theorem h_course : ∀ (ss : List Sl) (T : List Ob) (Q : Sl → List Ob → Prop) (QX : Xn → List Ob → Prop), ss.length = 2 → S_course ss T Q QX → B_course (endsOf T.length Q QX) (startD 2 2 ss T) := by
  intro ss T Q QX hl h
  obtain ⟨g, xs, rs, rfl, hd, hb, h⟩ := h
  unfold B_course
  simp only [drD]
  walk_at "dl"
  simp only [S_need_drill]
  refine ⟨okd_drD g rs 57, .inl ⟨hd.fits, ?_⟩⟩
  walk_at "dl"
  simp only [S_need_beginning]
  refine ⟨okd_tupI 59 xs, .inl ⟨hb.begins, ?_⟩⟩
  walk_at "dl"
  refine ⟨g, xs, rs, rfl, hb.l1, Nat.le_trans hb.l40 (by decide), Nat.le_trans hd.l8 (by decide), hd.ok, ?_⟩
  walk_at "dl"
  exact h
theorem course_last (g : Int) : ∀ (rs : List Rn) (xs : List Int), ∃ l, xs :: courseL g xs rs = l ++ [rs.foldl (ranL g) xs]
  | [], xs => ⟨[], rfl⟩
  | r :: rs, xs => by
    obtain ⟨l, e⟩ := course_last g rs (ranL g xs r)
    exact ⟨xs :: l, by simp only [courseL, List.foldl_cons, List.cons_append]; rw [e]⟩
/-- slots: 0 drill, 1 beginning -/
def B_ends : DS :=
  (sSeq (sDrop (dCall 1 S_need_drill (dCons (dDat (dVar 0)) dNil)))
  (sSeq (sDrop (dCall 2 S_need_beginning (dCons (dDat (dBin gIx (dVar 0) (dC (.int 0)))) (dCons (dDat (dVar 1)) dNil))))
  (sRet (dDat (dBin gIx (dBin gAdd (dLst (dCons (dDat (dVar 1)) dNil)) (dVal (dCall 2 S_course_of (dCons (dDat (dVar 0)) (dCons (dDat (dVar 1)) dNil))))) (dUn gNeg (dC (.int 1))))))))
def S_ends : DF := fun ss T Q _ => ∃ (g : Int) (xs : List Int) (rs : List Rn), ss = [.dat (drD g rs), .dat (tupI xs)] ∧ DrOk g rs ∧ BgOk g xs ∧ Q (.dat (tupI (rs.foldl (ranL g) xs))) T
theorem h_ends : ∀ (ss : List Sl) (T : List Ob) (Q : Sl → List Ob → Prop) (QX : Xn → List Ob → Prop), ss.length = 2 → S_ends ss T Q QX → B_ends (endsOf T.length Q QX) (startD 2 2 ss T) := by
  intro ss T Q QX hl h
  obtain ⟨g, xs, rs, rfl, hd, hb, h⟩ := h
  unfold B_ends
  simp only [drD]
  walk_at "dl"
  simp only [S_need_drill]
  refine ⟨okd_drD g rs 57, .inl ⟨hd.fits, ?_⟩⟩
  walk_at "dl"
  simp only [S_need_beginning]
  refine ⟨okd_tupI 59 xs, .inl ⟨hb.begins, ?_⟩⟩
  walk_at "dl"
  refine ⟨g, xs, rs, rfl, hb.l1, Nat.le_trans hb.l40 (by decide), Nat.le_trans hd.l8 (by decide), hd.ok, ?_⟩
  walk_at "dl"
  have hl8 := hd.l8
  refine ⟨by rw [courseL_len, sizeLine_eq]; omega, ?_⟩
  obtain ⟨l, e⟩ := course_last g rs xs
  rw [show D.tup (xs.map .int) :: (courseL g xs rs).map tupI = l.map tupI ++ [tupI (rs.foldl (ranL g) xs)] by rw [dat_tI, ← List.map_cons, e]; simp, atI_last]
  exact h
end DL
set_option Elab.async false
set_option linter.all false
set_option maxRecDepth 100000
set_option maxHeartbeats 4000000
set_option autoImplicit false
/-! The law's defs at data level: drawing. -/
namespace DL
open PySem PySem.Spec PyProof.Rows L2
local macro_rules | `(tactic| walk_at "dl") => `(tactic| (try simp only [sSeq, sSet, sRet, sRetN, sIf, sNil, sDrop, sFor, sTo, sPar2, sPar3, sNever, sRaise, sSetIx, dVar, dC, dVarL, dDat, dVal, valK_dat, valK_ob, dBin, dUn, dNil, dCons, dats, dTup, dLst, dNew, dNewOf, dTest, dtAnd, dtOr, dtNot, dAnd, dOr, dNot, dIf, dChain, dCB, dSl, dNo, dSo, sApp, dIxO, dLenO, dMaxD, dGetP, dCall, dSeq, dRng1, dRng2, dZip, dEnum, gNm, gTp, gCs, gNl, dYes,
  startD, endsOf, retD, wipeS, gAdd, gSub, gMul, gMulA, gMulB, gDiv, gMod, gPow, gNeg, gLt, gLe, gGt, gGe, gEq, gNe, gIn, gIx, gSl, gIsi, tyD, isiD, gLen, gAbs, gInt, gMax2, gMin2, gTuple, gList, gIsN, isNon, gIsB, gNotB,
  List.getElem?_cons_zero, List.getElem?_cons_succ, List.getElem?_nil, List.set_cons_zero, List.set_cons_succ, List.map_cons, List.map_nil, List.cons_append, List.nil_append, List.length_cons, List.length_nil, List.replicate_succ, List.replicate_zero, Option.map_some, Nat.reduceSub, Nat.reduceAdd, Nat.reduceLeDiff,
  List.take_length, beq_self_eq_true, String.reduceBEq, Bool.or_true, Bool.true_or, Bool.or_false, Bool.false_or, Bool.and_true, Bool.and_false, Bool.true_and, Bool.false_and, Bool.or_self, Bool.and_self, decide_true, decide_false, dmem, List.any_cons, List.any_nil, okd_non, okd_bl, okd_int, okd_str, okds_nil, okds_cons, okd_60t, okd_59t, okd_58t, okd_60l, okd_59l, okd_58l, st_tk, st_tb, st_tf, st_kt, st_kb, st_kf, st_bt, st_bk, st_bf, st_ft, st_fk, st_fb, nat_num, Int.reduceBEq, Int.reduceBNe, Int.reduceEq, Int.reduceLT, Int.reduceLE, Int.reduceAdd, Int.reduceSub, Int.reduceMul, Int.reduceNeg, Int.reduceToNat, Int.reducePow, atI_0, atI_1, atI_2, set_last, get_last, take_last, deq_str, deq_int, deq_non, deq_bl, deq_tt, deq_ll, deqs_nn, deqs_cc, deqs_nc, deqs_cn, Nat.lt_irrefl, List.set_set, ixN_20, ixN_21, tupI, okds_ints, atI_map', List.length_map, cutL_map, eq_self, if_true, if_false, ite_true, ite_false, Bool.false_eq_true, decide_eq_true_eq, true_and, and_true, and_self, Bool.not_true, Bool.not_false, true_or, or_true, false_or, or_false, Option.some.injEq, reduceCtorEq]))
theorem log_lt {n k : Nat} (hk : 0 < k) (h : n < 2 ^ k) : n.log2 < k := by
  by_cases z : n = 0
  · subst z
    simpa using hk
  · exact (Nat.log2_lt z).mpr h
theorem cmulW {i j : Int} (hi : i.natAbs < 2 ^ 250) (hj : j.natAbs < 2 ^ 250) : CMulW i j := by
  have h1 := log_lt (by decide) hi
  have h2 := log_lt (by decide) hj
  unfold CMulW
  omega
theorem cdivW {i j : Int} (h : 0 < j) (hj : j.natAbs < 2 ^ 250) : CDivW i j := ⟨h, Nat.lt_trans (log_lt (by decide) hj) (by decide)⟩
def CartV (a b : Int) : Ob := .lst [.int a, .int b]
structure CartOk (a b : Int) : Prop where
  a0 : 0 ≤ a
  aM : a < 10 ^ 240
  b0 : 0 ≤ b
  bM : b < 4294967296
def Cart (T : List Ob) (k : Nat) : Prop := ∃ a b, T[k]? = some (CartV a b) ∧ CartOk a b
def CartTo (T T' : List Ob) (k : Nat) : Prop := ∃ a b, T' = T.set k (CartV a b) ∧ CartOk a b
theorem Cart.lt {T : List Ob} {k : Nat} (h : Cart T k) : k < T.length := by
  obtain ⟨a, b, e, _⟩ := h
  exact (List.getElem?_eq_some_iff.mp e).1
theorem CartTo.cart {T T' : List Ob} {k : Nat} (c : Cart T k) (h : CartTo T T' k) : Cart T' k := by
  obtain ⟨a, b, rfl, ok⟩ := h
  exact ⟨a, b, by rw [List.getElem?_set_self c.lt], ok⟩
theorem CartTo.trans {T T' T2 : List Ob} {k : Nat} (h : CartTo T T' k) (h2 : CartTo T' T2 k) : CartTo T T2 k := by
  obtain ⟨a, b, rfl, ok⟩ := h
  obtain ⟨a2, b2, rfl, ok2⟩ := h2
  exact ⟨a2, b2, by rw [List.set_set], ok2⟩
theorem CartTo.len {T T' : List Ob} {k : Nat} (h : CartTo T T' k) : T'.length = T.length := by
  obtain ⟨a, b, rfl, ok⟩ := h
  simp
theorem Cart.refl {T : List Ob} {k : Nat} (c : Cart T k) : CartTo T T k := by
  obtain ⟨a, b, e, ok⟩ := c
  refine ⟨a, b, ?_, ok⟩
  obtain ⟨h, e'⟩ := List.getElem?_eq_some_iff.mp e
  rw [← e', List.set_getElem_self]
theorem Cart.app {T : List Ob} {k : Nat} (c : Cart T k) (S : List Ob) : Cart (T ++ S) k := by
  obtain ⟨a, b, e, ok⟩ := c
  exact ⟨a, b, by rw [List.getElem?_append_left (List.getElem?_eq_some_iff.mp e).1, e], ok⟩
theorem CartTo.unapp {T T' S : List Ob} {k : Nat} (c : Cart T k) (h : CartTo (T ++ S) T' k) : ∃ T2, T' = T2 ++ S ∧ CartTo T T2 k := by
  obtain ⟨a, b, rfl, ok⟩ := h
  exact ⟨T.set k (CartV a b), by rw [List.set_append_left _ _ c.lt], a, b, rfl, ok⟩
/-- slots: 0 _law_script, 1 _law_k, 2 _law_cell -/
def B_l_cart_of : DS :=
  (sSeq (sSet 2 (dDat (dBin gAdd (dBin gMulB (dC (.int 32003)) (dVar 1)) (dC (.int 79)))))
  (sSeq (sIf (dTest (dBin gLt (dVar 1) (dCB gLen (dCons (dDat (dVar 0)) dNil)))) (sSet 2 (dDat (dBin gMod (dCB gAbs (dCons (dDat (dCB gInt (dCons (dDat (dBin gIx (dVar 0) (dVar 1))) dNil))) dNil)) (dBin gMulB (dBin gMulB (dBin gMulB (dBin gPow (dC (.int 10)) (dC (.int 60))) (dBin gPow (dC (.int 10)) (dC (.int 60)))) (dBin gPow (dC (.int 10)) (dC (.int 60)))) (dBin gPow (dC (.int 10)) (dC (.int 60))))))) (sIf (dTest (dBin gGt (dCB gLen (dCons (dDat (dVar 0)) dNil)) (dC (.int 0)))) (sSet 2 (dDat (dBin gAdd (dVar 2) (dBin gMod (dCB gAbs (dCons (dDat (dCB gInt (dCons (dDat (dBin gIx (dVar 0) (dC (.int 0)))) dNil))) dNil)) (dC (.int 1000357)))))) sNil))
  (sRet (dNew (dCons (dDat (dIf (dTest (dBin gGe (dVar 2) (dBin gPow (dC (.int 10)) (dC (.int 18))))) (dVar 2) (dC (.int 0)))) (dCons (dDat (dBin gAdd (dBin gMod (dCB gInt (dCons (dDat (dBin gAdd (dBin gAdd (dBin gMulB (dBin gMod (dVar 2) (dC (.int 2147482697))) (dC (.int 41))) (dBin gMulB (dC (.int 127)) (dVar 1))) (dC (.int 73)))) dNil)) (dC (.int 2147482697))) (dC (.int 1)))) dNil))))))
def S_l_cart_of : DF := fun ss T Q _ => ∃ (ns : List Int) (k : Int), ss = [.dat (.scr ns), .dat (.int k)] ∧ 0 ≤ k ∧ k ≤ 1000 ∧ ns.length ≤ 1000 ∧ ∀ a b, CartOk a b → Q (.ob T.length) (T ++ [CartV a b])
theorem cart_b (c k : Int) : 0 ≤ (c % 2147482697 * 41 + 127 * k + 73) % 2147482697 + 1 ∧ (c % 2147482697 * 41 + 127 * k + 73) % 2147482697 + 1 < 4294967296 := by omega
theorem h_l_cart_of : ∀ (ss : List Sl) (T : List Ob) (Q : Sl → List Ob → Prop) (QX : Xn → List Ob → Prop), ss.length = 2 → S_l_cart_of ss T Q QX → B_l_cart_of (endsOf T.length Q QX) (startD 3 2 ss T) := by
  intro ss T Q QX hl h
  obtain ⟨ns, k, rfl, k0, k1, hn, h⟩ := h
  unfold B_l_cart_of
  walk_at "dl"
  refine ⟨cmulW (by decide) (by omega), ?_⟩
  have fin : ∀ c : Int, 0 ≤ c → c < 10 ^ 240 → (CPow 10 18 ∧ (if (1000000000000000000 : Int) ≤ c then CMulW (c % 2147482697) 41 ∧ CMulW 127 k ∧ Q (.ob T.length) (T ++ [CartV c ((c % 2147482697 * 41 + 127 * k + 73) % 2147482697 + 1)]) else CMulW (c % 2147482697) 41 ∧ CMulW 127 k ∧ Q (.ob T.length) (T ++ [CartV 0 ((c % 2147482697 * 41 + 127 * k + 73) % 2147482697 + 1)]))) := by
    intro c c0 c1
    refine ⟨by unfold CPow; decide, ?_⟩
    have e1 : CMulW (c % 2147482697) 41 := cmulW (by omega) (by decide)
    have e2 : CMulW 127 k := cmulW (by decide) (by omega)
    split
    · exact ⟨e1, e2, h _ _ ⟨c0, c1, (cart_b c k).1, (cart_b c k).2⟩⟩
    · exact ⟨e1, e2, h _ _ ⟨by decide, by decide, (cart_b c k).1, (cart_b c k).2⟩⟩
  have p60 : CPow 10 60 := by unfold CPow; decide
  simp only [CartV] at fin
  by_cases q : k < ns.length
  · rw [if_pos q, atI_some k0 q]
    walk_at "dl"
    generalize ns[k.toNat] = n
    refine ⟨p60, p60, by unfold CMulW; decide +kernel, p60, by unfold CMulW; decide +kernel, p60, by unfold CMulW; decide +kernel, ?_⟩
    exact fin _ (Int.emod_nonneg _ (by decide)) (by simp only [Int.reducePow]; exact Int.emod_lt_of_pos _ (by decide))
  · rw [if_neg q]
    by_cases q0 : (0 : Int) < ns.length
    · rw [if_pos q0, atI_some (by omega) q0]
      walk_at "dl"
      refine fin _ (by split <;> omega) ?_
      simp only [Int.reducePow]
      split <;> omega
    · rw [if_neg q0]
      refine fin _ (by omega) ?_
      simp only [Int.reducePow]
      omega
/-- slots: 0 _law_cart, 1 _law_many, 2 _law_found, 3 _law_wide -/
def B_l_take : DS :=
  (sSeq (sIf (dTest (dBin gGt (dIxO 0 (dC (.int 0))) (dC (.int 0)))) (sSeq (sSet 2 (dDat (dBin gMod (dCB gInt (dCons (dDat (dIxO 0 (dC (.int 0)))) dNil)) (dVar 1))))
  (sSeq (sSetIx 0 (dC (.int 0)) (dBin gDiv (dIxO 0 (dC (.int 0))) (dVar 1)))
  (sRet (dDat (dVar 2))))) sNil)
  (sSeq (sTo (dTup (dCons (dDat (dC (.int 0))) (dCons (dDat (dC (.int 1))) dNil))) (gTp 2 (gCs (gNm 2) (gCs (gNm 3) gNl))))
  (sSeq (sWhile (dtOr (dTest (dBin gLt (dVar 3) (dVar 1))) (dTest (dBin gEq (dVar 3) (dC (.int 1))))) (sSeq (sSetIx 0 (dC (.int 1)) (dBin gMod (dCB gInt (dCons (dDat (dBin gAdd (dBin gMulB (dIxO 0 (dC (.int 1))) (dC (.int 16741))) (dC (.int 137)))) dNil)) (dC (.int 2147482697))))
  (sSeq (sSet 2 (dDat (dBin gAdd (dBin gMulB (dVar 2) (dC (.int 8192))) (dBin gMod (dCB gInt (dCons (dDat (dBin gDiv (dIxO 0 (dC (.int 1))) (dC (.int 65729)))) dNil)) (dC (.int 8192))))))
  (sSet 3 (dDat (dBin gMulB (dVar 3) (dC (.int 8192))))))))
  (sRet (dDat (dBin gMod (dCB gInt (dCons (dDat (dVar 2)) dNil)) (dVar 1)))))))
def S_l_take : DF := fun ss T Q _ => ∃ (k : Nat) (n : Int), ss = [.ob k, .dat (.int n)] ∧ Cart T k ∧ 0 < n ∧ n ≤ 10 ^ 60 ∧ ∀ r T', 0 ≤ r → r < n → CartTo T T' k → Q (.dat (.int r)) T'
theorem h_l_take : ∀ (ss : List Sl) (T : List Ob) (Q : Sl → List Ob → Prop) (QX : Xn → List Ob → Prop), ss.length = 2 → S_l_take ss T Q QX → B_l_take (endsOf T.length Q QX) (startD 4 2 ss T) := by
  intro ss T Q QX hl h
  obtain ⟨k, n, rfl, c, n0, n1, h⟩ := h
  simp only [Int.reducePow] at n1
  have hk := c.lt
  obtain ⟨a, b, e, ok⟩ := c
  unfold B_l_take
  walk_at "dl"
  have eT : T.take T.length = T := List.take_length
  have el : ∀ x : Ob, (T.set k x)[k]? = some x := fun x => List.getElem?_set_self hk
  have et : ∀ x : Ob, (T.set k x).take T.length = T.set k x := fun x => by rw [List.take_of_length_le (by simp)]
  simp only [e, CartV]
  walk_at "dl"
  by_cases q : 0 < a
  · rw [if_pos q]
    refine ⟨n0, cdivW n0 (by omega), ?_⟩
    rw [et]
    refine h _ _ (Int.emod_nonneg _ (by omega)) (Int.emod_lt_of_pos _ n0) ⟨a / n, b, rfl, ?_⟩
    refine ⟨Int.ediv_nonneg ok.a0 (by omega), ?_, ok.b0, ok.bM⟩
    exact Int.lt_of_le_of_lt (Int.ediv_le_self _ ok.a0) ok.aM
  · rw [if_neg q]
    refine ⟨fun m ρ => ∃ a b f w, ρ = ⟨T.set k (CartV a b), [some (.ob k), some (.dat (.int n)), some (.dat (.int f)), some (.dat (.int w))]⟩ ∧ CartOk a b ∧ 0 ≤ f ∧ f < w ∧ m = (n + 2 - w).toNat, ⟨_, a, b, 0, 1, ?_, ok, by omega, by omega, rfl⟩, ?_⟩
    · congr 1
      obtain ⟨h1, h2⟩ := List.getElem?_eq_some_iff.mp e
      rw [← h2, List.set_getElem_self]
    · rintro m ρ ⟨a, b, f, w, rfl, ok, f0, fw, rfl⟩
      walk_at "dl"
      simp only [el, CartV]
      walk_at "dl"
      have c1 : CMulW b 16741 := cmulW (by have := ok.b0; have := ok.bM; omega) (by decide)
      have d1 : CDivW ((b * 16741 + 137) % 2147482697) 65729 := cdivW (by decide) (by decide)
      have go : (w < n ∨ w = 1) → CMulW b 16741 ∧ CMulW f 8192 ∧ CDivW ((b * 16741 + 137) % 2147482697) 65729 ∧ CMulW w 8192 ∧ ∃ m', m' < (n + 2 - w).toNat ∧ ∃ a_1 b_1 f_1 w_1, (⟨T.set k (.lst [.int a, .int ((b * 16741 + 137) % 2147482697)]), [some (.ob k), some (.dat (.int n)), some (.dat (.int (f * 8192 + (b * 16741 + 137) % 2147482697 / 65729 % 8192))), some (.dat (.int (w * 8192)))]⟩ : Env) = ⟨T.set k (.lst [.int a_1, .int b_1]), [some (.ob k), some (.dat (.int n)), some (.dat (.int f_1)), some (.dat (.int w_1))]⟩ ∧ CartOk a_1 b_1 ∧ 0 ≤ f_1 ∧ f_1 < w_1 ∧ m' = (n + 2 - w_1).toNat := by
        intro hw
        refine ⟨c1, cmulW (by omega) (by decide), d1, cmulW (by omega) (by decide), _, ?_, _, _, _, _, rfl, ⟨ok.a0, ok.aM, by omega, by omega⟩, by omega, by omega, rfl⟩
        omega
      have done : 0 < n ∧ Q (.dat (.int (f % n))) (T.set k (.lst [.int a, .int b])) := ⟨n0, h _ _ (Int.emod_nonneg _ (by omega)) (Int.emod_lt_of_pos _ n0) ⟨a, b, rfl, ok⟩⟩
      by_cases q1 : w < n
      · rw [if_pos q1]
        have := go (.inl q1)
        exact this
      · rw [if_neg q1]
        by_cases q2 : w = 1
        · rw [if_pos (by simpa using q2)]
          exact go (.inr q2)
        · rw [if_neg (by simpa using q2), et]
          exact done
end DL
set_option Elab.async false
set_option linter.all false
set_option maxRecDepth 100000
set_option maxHeartbeats 4000000
set_option autoImplicit false
/-! The law's defs at data level: drills and rooms drawn. -/
namespace DL
open PySem PySem.Spec PyProof.Rows L2
local macro_rules | `(tactic| walk_at "dl") => `(tactic| (try simp only [sSeq, sSet, sRet, sRetN, sIf, sNil, sDrop, sFor, sTo, sPar2, sPar3, sNever, sRaise, sSetIx, dVar, dC, dVarL, dDat, dVal, valK_dat, valK_ob, dBin, dUn, dNil, dCons, dats, dTup, dLst, dNew, dNewOf, dTest, dtAnd, dtOr, dtNot, dAnd, dOr, dNot, dIf, dChain, dCB, dSl, dNo, dSo, sApp, dIxO, dLenO, dMaxD, dGetP, dCall, dSeq, dRng1, dRng2, dZip, dEnum, gNm, gTp, gCs, gNl, dYes,
  startD, endsOf, retD, wipeS, gAdd, gSub, gMul, gMulA, gMulB, gDiv, gMod, gPow, gNeg, gLt, gLe, gGt, gGe, gEq, gNe, gIn, gIx, gSl, gIsi, tyD, isiD, gLen, gAbs, gInt, gMax2, gMin2, gTuple, gList, gIsN, isNon, gIsB, gNotB,
  List.getElem?_cons_zero, List.getElem?_cons_succ, List.getElem?_nil, List.set_cons_zero, List.set_cons_succ, List.map_cons, List.map_nil, List.cons_append, List.nil_append, List.length_cons, List.length_nil, List.replicate_succ, List.replicate_zero, Option.map_some, Nat.reduceSub, Nat.reduceAdd, Nat.reduceLeDiff,
  List.take_length, beq_self_eq_true, String.reduceBEq, Bool.or_true, Bool.true_or, Bool.or_false, Bool.false_or, Bool.and_true, Bool.and_false, Bool.true_and, Bool.false_and, Bool.or_self, Bool.and_self, decide_true, decide_false, dmem, List.any_cons, List.any_nil, okd_non, okd_bl, okd_int, okd_str, okds_nil, okds_cons, okd_60t, okd_59t, okd_58t, okd_60l, okd_59l, okd_58l, st_tk, st_tb, st_tf, st_kt, st_kb, st_kf, st_bt, st_bk, st_bf, st_ft, st_fk, st_fb, nat_num, Int.reduceBEq, Int.reduceBNe, Int.reduceEq, Int.reduceLT, Int.reduceLE, Int.reduceAdd, Int.reduceSub, Int.reduceMul, Int.reduceNeg, Int.reduceToNat, Int.reducePow, atI_0, atI_1, atI_2, set_last, get_last, take_last, deq_str, deq_int, deq_non, deq_bl, deq_tt, deq_ll, deqs_nn, deqs_cc, deqs_nc, deqs_cn, Nat.lt_irrefl, List.set_set, ixN_20, ixN_21, tupI, okds_ints, atI_map', List.length_map, cutL_map, eq_self, if_true, if_false, ite_true, ite_false, Bool.false_eq_true, decide_eq_true_eq, true_and, and_true, and_self, Bool.not_true, Bool.not_false, true_or, or_true, false_or, or_false, Option.some.injEq, reduceCtorEq]))
/-- slots: 0 _law_cart, 1 _law_things -/
def B_l_any : DS :=
  (sRet (dDat (dBin gIx (dVar 1) (dVal (dCall 2 S_l_take (dCons (dVarL 0) (dCons (dDat (dCB gLen (dCons (dDat (dVar 1)) dNil))) dNil)))))))
def S_l_any : DF := fun ss T Q _ => ∃ (k : Nat) (d : D) (ds : List D), ss = [.ob k, .dat d] ∧ (d = .lst ds ∨ d = .tup ds) ∧ Cart T k ∧ 0 < ds.length ∧ ds.length ≤ 1000 ∧ ∀ x T', x ∈ ds → CartTo T T' k → Q (.dat x) T'
theorem h_l_any : ∀ (ss : List Sl) (T : List Ob) (Q : Sl → List Ob → Prop) (QX : Xn → List Ob → Prop), ss.length = 2 → S_l_any ss T Q QX → B_l_any (endsOf T.length Q QX) (startD 2 2 ss T) := by
  intro ss T Q QX hl h
  obtain ⟨k, d, ds, rfl, hd, c, l0, l1, h⟩ := h
  unfold B_l_any
  rcases hd with rfl | rfl
  all_goals
    walk_at "dl"
    refine ⟨k, ds.length, rfl, c, by omega, by simp only [Int.reducePow]; omega, fun r T' r0 r1 ct => ?_⟩
    walk_at "dl"
    rw [atI_some r0 r1, take_len ct.len]
    exact h _ _ (List.getElem_mem _) ct
/-- slots: 0 _law_cart, 1 _law_wide, 2 _law_word, 3 _law_most -/
def B_l_deed : DS :=
  (sSeq (sPar2 2 3 (dDat (dVal (dCall 2 S_l_any (dCons (dVarL 0) (dCons (dDat (dLst (dCons (dDat (dC (.str "to"))) (dCons (dDat (dC (.str "back"))) (dCons (dDat (dC (.str "back"))) (dCons (dDat (dC (.str "front"))) (dCons (dDat (dC (.str "front"))) (dCons (dDat (dC (.str "bark"))) dNil)))))))) dNil))))) (dDat (dVal (dCall 2 S_l_any (dCons (dVarL 0) (dCons (dDat (dLst (dCons (dDat (dC (.int 3))) (dCons (dDat (dC (.int 3))) (dCons (dDat (dVar 1)) dNil))))) dNil))))))
  (sSeq (sIf (dTest (dBin gEq (dVar 2) (dC (.str "to")))) (sRet (dDat (dTup (dCons (dDat (dVar 2)) (dCons (dDat (dVal (dCall 2 S_l_take (dCons (dVarL 0) (dCons (dDat (dBin gAdd (dVar 3) (dC (.int 1)))) dNil))))) dNil))))) sNil)
  (sSeq (sIf (dTest (dBin gEq (dVar 2) (dC (.str "bark")))) (sRet (dDat (dTup (dCons (dDat (dVar 2)) (dCons (dDat (dBin gAdd (dC (.int 1)) (dVal (dCall 2 S_l_take (dCons (dVarL 0) (dCons (dDat (dVar 3)) dNil)))))) dNil))))) sNil)
  (sRet (dDat (dTup (dCons (dDat (dVar 2)) (dCons (dDat (dVal (dCall 2 S_l_any (dCons (dVarL 0) (dCons (dDat (dLst (dCons (dDat (dC (.int 0))) (dCons (dDat (dC (.int 0))) (dCons (dDat (dC (.int 1))) (dCons (dDat (dC (.int 1))) (dCons (dDat (dC (.int 2))) (dCons (dDat (dC (.int 3))) dNil)))))))) dNil))))) (dCons (dDat (dBin gAdd (dC (.int 1)) (dVal (dCall 2 S_l_take (dCons (dVarL 0) (dCons (dDat (dVar 3)) dNil)))))) dNil)))))))))
def S_l_deed : DF := fun ss T Q _ => ∃ (k : Nat) (w : Int), ss = [.ob k, .dat (.int w)] ∧ Cart T k ∧ 1 ≤ w ∧ w ≤ 1000000000000 ∧ ∀ (r : Rn) T', r.ok → CartTo T T' k → Q (.dat r.d) T'
theorem h_l_deed : ∀ (ss : List Sl) (T : List Ob) (Q : Sl → List Ob → Prop) (QX : Xn → List Ob → Prop), ss.length = 2 → S_l_deed ss T Q QX → B_l_deed (endsOf T.length Q QX) (startD 4 2 ss T) := by
  intro ss T Q QX hl h
  obtain ⟨k, w, rfl, c, w0, w1, h⟩ := h
  unfold B_l_deed
  walk_at "dl"
  refine ⟨k, _, _, rfl, .inl rfl, c, by decide, by decide, fun x T1 hx c1 => ?_⟩
  have k1 := c1.cart c
  walk_at "dl"
  refine ⟨k, _, _, rfl, .inl rfl, k1, by simp, by simp, fun y T2 hy c2 => ?_⟩
  have k2 := c2.cart k1
  obtain ⟨m, rfl, m1, m2⟩ : ∃ m : Int, y = .int m ∧ 1 ≤ m ∧ m ≤ 1000000000000 := by
    simp only [List.mem_cons, List.not_mem_nil, or_false] at hy
    rcases hy with rfl | rfl | rfl
    · exact ⟨3, rfl, by decide, by decide⟩
    · exact ⟨3, rfl, by decide, by decide⟩
    · exact ⟨w, rfl, w0, w1⟩
  have c12 := c1.trans c2
  simp only [List.mem_cons, List.not_mem_nil, or_false] at hx
  rcases hx with rfl | rfl | rfl | rfl | rfl | rfl
  all_goals walk_at "dl"
  · refine ⟨k, _, rfl, k2, by omega, by simp only [Int.reducePow]; omega, fun s T4 s0 s1 c4 => ?_⟩
    walk_at "dl"
    rw [take_len (c12.trans c4).len]
    exact h (.to s) T4 ⟨s0, by omega⟩ (c12.trans c4)
  · refine ⟨k, _, _, rfl, .inl rfl, k2, by decide, by decide, fun z T3 hz c3 => ?_⟩
    obtain ⟨n, rfl, n1, n3⟩ : ∃ n : Int, z = .int n ∧ 0 ≤ n ∧ n ≤ 3 := by
      simp only [List.mem_cons, List.not_mem_nil, or_false] at hz
      rcases hz with rfl | rfl | rfl | rfl | rfl | rfl
      all_goals exact ⟨_, rfl, by decide, by decide⟩
    walk_at "dl"
    refine ⟨k, m, rfl, c3.cart k2, by omega, by simp only [Int.reducePow]; omega, fun s T4 s0 s1 c4 => ?_⟩
    walk_at "dl"
    rw [take_len ((c12.trans c3).trans c4).len]
    exact h (.back n (1 + s)) T4 ⟨⟨n1, n3⟩, by omega, by omega⟩ ((c12.trans c3).trans c4)
  · refine ⟨k, _, _, rfl, .inl rfl, k2, by decide, by decide, fun z T3 hz c3 => ?_⟩
    obtain ⟨n, rfl, n1, n3⟩ : ∃ n : Int, z = .int n ∧ 0 ≤ n ∧ n ≤ 3 := by
      simp only [List.mem_cons, List.not_mem_nil, or_false] at hz
      rcases hz with rfl | rfl | rfl | rfl | rfl | rfl
      all_goals exact ⟨_, rfl, by decide, by decide⟩
    walk_at "dl"
    refine ⟨k, m, rfl, c3.cart k2, by omega, by simp only [Int.reducePow]; omega, fun s T4 s0 s1 c4 => ?_⟩
    walk_at "dl"
    rw [take_len ((c12.trans c3).trans c4).len]
    exact h (.back n (1 + s)) T4 ⟨⟨n1, n3⟩, by omega, by omega⟩ ((c12.trans c3).trans c4)
  · refine ⟨k, _, _, rfl, .inl rfl, k2, by decide, by decide, fun z T3 hz c3 => ?_⟩
    obtain ⟨n, rfl, n1, n3⟩ : ∃ n : Int, z = .int n ∧ 0 ≤ n ∧ n ≤ 3 := by
      simp only [List.mem_cons, List.not_mem_nil, or_false] at hz
      rcases hz with rfl | rfl | rfl | rfl | rfl | rfl
      all_goals exact ⟨_, rfl, by decide, by decide⟩
    walk_at "dl"
    refine ⟨k, m, rfl, c3.cart k2, by omega, by simp only [Int.reducePow]; omega, fun s T4 s0 s1 c4 => ?_⟩
    walk_at "dl"
    rw [take_len ((c12.trans c3).trans c4).len]
    exact h (.front n (1 + s)) T4 ⟨⟨n1, n3⟩, by omega, by omega⟩ ((c12.trans c3).trans c4)
  · refine ⟨k, _, _, rfl, .inl rfl, k2, by decide, by decide, fun z T3 hz c3 => ?_⟩
    obtain ⟨n, rfl, n1, n3⟩ : ∃ n : Int, z = .int n ∧ 0 ≤ n ∧ n ≤ 3 := by
      simp only [List.mem_cons, List.not_mem_nil, or_false] at hz
      rcases hz with rfl | rfl | rfl | rfl | rfl | rfl
      all_goals exact ⟨_, rfl, by decide, by decide⟩
    walk_at "dl"
    refine ⟨k, m, rfl, c3.cart k2, by omega, by simp only [Int.reducePow]; omega, fun s T4 s0 s1 c4 => ?_⟩
    walk_at "dl"
    rw [take_len ((c12.trans c3).trans c4).len]
    exact h (.front n (1 + s)) T4 ⟨⟨n1, n3⟩, by omega, by omega⟩ ((c12.trans c3).trans c4)
  · refine ⟨k, _, rfl, k2, by omega, by simp only [Int.reducePow]; omega, fun s T4 s0 s1 c4 => ?_⟩
    walk_at "dl"
    rw [take_len (c12.trans c4).len]
    exact h (.bark (1 + s)) T4 ⟨by omega, by omega⟩ (c12.trans c4)
/-- slots: 0 _law_cart, 1 _law_most, 2 _law_wide, 3 _law_turn -/
def B_l_deeds : DS :=
  (sRet (dDat (dCB gTuple (dCons (dDat (dComp (dRng1 (dCons (dDat (dVal (dCall 2 S_l_take (dCons (dVarL 0) (dCons (dDat (dBin gAdd (dVar 1) (dC (.int 1)))) dNil))))) dNil)) (gNm 3) dYes (dVal (dCall 2 S_l_deed (dCons (dVarL 0) (dCons (dDat (dVar 2)) dNil)))) [3])) dNil))))
def S_l_deeds : DF := fun ss T Q _ => ∃ (k : Nat) (m w : Int), ss = [.ob k, .dat (.int m), .dat (.int w)] ∧ Cart T k ∧ 0 ≤ m ∧ m ≤ 1000 ∧ 1 ≤ w ∧ w ≤ 1000000000000 ∧ ∀ (rs : List Rn) T', (rs.length : Int) ≤ m → (∀ r ∈ rs, r.ok) → CartTo T T' k → Q (.dat (.tup (rs.map Rn.d))) T'
theorem h_l_deeds : ∀ (ss : List Sl) (T : List Ob) (Q : Sl → List Ob → Prop) (QX : Xn → List Ob → Prop), ss.length = 3 → S_l_deeds ss T Q QX → B_l_deeds (endsOf T.length Q QX) (startD 4 3 ss T) := by
  intro ss T Q QX hl h
  obtain ⟨k, m, w, rfl, c, m0, m1, w0, w1, h⟩ := h
  unfold B_l_deeds
  walk_at "dl"
  rw [dComp_eq]
  walk_at "dl"
  refine ⟨k, _, rfl, c, by omega, by simp only [Int.reducePow]; omega, fun r T1 r0 r1 c1 => ?_⟩
  walk_at "dl"
  have k1 := c1.cart c
  have hk := k1.lt
  refine ⟨by omega, ?_⟩
  have hrl : (rangeD 0 r).length = r.toNat := by rw [rangeD_len]; simp
  refine compK_any (fun ds acc T' => CartTo T T' k ∧ ∃ rs : List Rn, acc = rs.map Rn.d ∧ (∀ r ∈ rs, r.ok) ∧ ds.length + rs.length = r.toNat) [some (.ob k), some (.dat (.int m)), some (.dat (.int w)), none] rfl rfl ?_ ?_ ⟨c1, [], rfl, by simp, by simp [hrl]⟩ ?_ ?_
  · simp [lowS, hk]
  · rw [hrl, sizeLine_eq]
    omega
  · rintro d ds acc T' hl hz ⟨c2, rs, rfl, ok, e⟩ R hR
    walk_at "dl"
    have k2 := c2.cart c
    refine ⟨k, w, rfl, k2.app _, w0, w1, fun x T'' xok c3 => ?_⟩
    obtain ⟨T3, rfl, c4⟩ := c3.unapp k2
    walk_at "dl"
    refine hR (some x.d) T3 _ (c4.len.trans hl) ⟨c2.trans c4, rs ++ [x], by simp, ?_, ?_⟩ rfl
    · intro r hr
      rcases List.mem_append.mp hr with hr | hr
      · exact ok r hr
      · rw [List.mem_singleton.mp hr]
        exact xok
    · simp at e ⊢
      omega
  · rintro acc T' hl ⟨c2, rs, rfl, ok, e⟩
    walk_at "dl"
    rw [take_len c2.len]
    refine h rs T' ?_ ok c2
    simp at e
    omega
/-- slots: 0 _law_cart, 1 _law_most -/
def B_l_work : DS :=
  (sRet (dDat (dTup (dCons (dDat (dBin gAdd (dC (.int 1)) (dVal (dCall 2 S_l_take (dCons (dVarL 0) (dCons (dDat (dC (.int 4))) dNil)))))) (dCons (dDat (dVal (dCall 3 S_l_deeds (dCons (dVarL 0) (dCons (dDat (dVar 1)) (dCons (dDat (dVal (dCall 2 S_l_any (dCons (dVarL 0) (dCons (dDat (dLst (dCons (dDat (dC (.int 6))) (dCons (dDat (dC (.int 12))) (dCons (dDat (dBin gPow (dC (.int 10)) (dC (.int 12)))) dNil))))) dNil))))) dNil)))))) dNil)))))
def S_l_work : DF := fun ss T Q _ => ∃ (k : Nat) (m : Int), ss = [.ob k, .dat (.int m)] ∧ Cart T k ∧ 0 ≤ m ∧ m ≤ 1000 ∧ ∀ (g : Int) (rs : List Rn) T', 1 ≤ g → g ≤ 4 → (rs.length : Int) ≤ m → (∀ r ∈ rs, r.ok) → CartTo T T' k → Q (.dat (drD g rs)) T'
theorem h_l_work : ∀ (ss : List Sl) (T : List Ob) (Q : Sl → List Ob → Prop) (QX : Xn → List Ob → Prop), ss.length = 2 → S_l_work ss T Q QX → B_l_work (endsOf T.length Q QX) (startD 2 2 ss T) := by
  intro ss T Q QX hl h
  obtain ⟨k, m, rfl, c, m0, m1, h⟩ := h
  unfold B_l_work
  walk_at "dl"
  refine ⟨k, _, rfl, c, by omega, by simp only [Int.reducePow]; omega, fun r T1 r0 r1 c1 => ?_⟩
  walk_at "dl"
  have k1 := c1.cart c
  refine ⟨by unfold CPow; decide, k, _, _, rfl, .inl rfl, k1, by simp, by simp, fun x T2 hx c2 => ?_⟩
  have k2 := c2.cart k1
  obtain ⟨w, rfl, w0, w1⟩ : ∃ n : Int, x = .int n ∧ 1 ≤ n ∧ n ≤ 1000000000000 := by
    simp only [List.mem_cons, List.not_mem_nil, or_false] at hx
    rcases hx with rfl | rfl | rfl
    all_goals exact ⟨_, rfl, by decide, by decide⟩
  walk_at "dl"
  refine ⟨k, m, w, rfl, k2, m0, m1, w0, w1, fun rs T3 hr ok c3 => ?_⟩
  walk_at "dl"
  rw [take_len ((c1.trans c2).trans c3).len]
  exact h (1 + r) rs T3 (by omega) (by omega) hr ok ((c1.trans c2).trans c3)
/-- the places of rooms -/
def atL (g : Int) : Nat → List Int → List Int
  | _, [] => []
  | i, x :: r => (x + (i : Int) * g) :: atL g (i + 1) r
theorem atL_len (g : Int) : ∀ (xs : List Int) (i : Nat), (atL g i xs).length = xs.length
  | [], _ => rfl
  | _ :: r, i => congrArg (· + 1) (atL_len g r (i + 1))
def atD (g : Int) (d : D) : Option D := match d with
  | .tup [.int i, .int x] => some (.int (x + i * g))
  | _ => none
theorem atD_enum (g : Int) : ∀ (xs : List Int) (i : Nat), (enumD i (xs.map .int)).filterMap (atD g) = (atL g i xs).map .int
  | [], _ => rfl
  | x :: r, i => by
    show (D.tup [.int i, .int x] :: enumD (i + 1) (r.map .int)).filterMap (atD g) = _
    rw [List.filterMap_cons, atD_enum g r (i + 1)]
    rfl
theorem enum_mem : ∀ (xs : List Int) (n : Nat) (d : D), d ∈ enumD n (xs.map .int) → ∃ (i : Nat) (x : Int), d = .tup [.int i, .int x] ∧ i < n + xs.length
  | [], _, d, h => by simp [enumD] at h
  | x :: xs, n, d, h => by
    rcases List.mem_cons.mp h with rfl | h
    · exact ⟨n, x, rfl, by simp⟩
    · obtain ⟨i, y, e, l⟩ := enum_mem xs (n + 1) d h
      exact ⟨i, y, e, by simp at l ⊢; omega⟩
/-- slots: 0 _law_gap, 1 _law_rooms_here, 2 _law_at_here, 3 _law_room -/
def B_l_at : DS :=
  (sRet (dDat (dCB gTuple (dCons (dDat (dComp (dEnum (dCons (dDat (dVar 1)) dNil)) (gTp 2 (gCs (gNm 2) (gCs (gNm 3) gNl))) dYes (dBin gAdd (dVar 3) (dBin gMulB (dVar 2) (dVar 0))) [2, 3])) dNil))))
def S_l_at : DF := fun ss T Q _ => ∃ (g : Int) (xs : List Int), ss = [.dat (.int g), .dat (tupI xs)] ∧ g.natAbs < 2 ^ 200 ∧ xs.length ≤ 1000 ∧ Q (.dat (tupI (atL g 0 xs))) T
theorem h_l_at : ∀ (ss : List Sl) (T : List Ob) (Q : Sl → List Ob → Prop) (QX : Xn → List Ob → Prop), ss.length = 2 → S_l_at ss T Q QX → B_l_at (endsOf T.length Q QX) (startD 4 2 ss T) := by
  intro ss T Q QX hl h
  obtain ⟨g, xs, rfl, hg, hx, h⟩ := h
  unfold B_l_at
  walk_at "dl"
  rw [dComp_eq]
  walk_at "dl"
  refine compK_pure (atD g) [some (.dat (.int g)), some (.dat (tupI xs)), none, none] rfl rfl rfl (by rw [enumD_len, List.length_map, sizeLine_eq]; omega) ?_ ?_
  · intro d hd acc R hR
    obtain ⟨i, x, rfl, hi⟩ := enum_mem _ _ _ hd
    walk_at "dl"
    exact ⟨cmulW (by omega) (by omega), hR _ rfl⟩
  · walk_at "dl"
    rw [atD_enum]
    exact h
end DL
set_option Elab.async false
set_option linter.all false
set_option maxRecDepth 100000
set_option maxHeartbeats 4000000
set_option autoImplicit false
/-! The word of an error that a lambda ends with. -/
namespace DL
open PySem PySem.Spec PyProof.Rows L2 TL
local macro_rules | `(tactic| walk_at "dl") => `(tactic| (try simp only [sSeq, sSet, sRet, sRetN, sIf, sNil, sDrop, sFor, sTo, sPar2, sPar3, sNever, sRaise, sSetIx, dVar, dC, dVarL, dDat, dVal, valK_dat, valK_ob, dBin, dUn, dNil, dCons, dats, dTup, dLst, dNew, dNewOf, dTest, dtAnd, dtOr, dtNot, dAnd, dOr, dNot, dIf, dChain, dCB, dSl, dNo, dSo, sApp, dIxO, dLenO, dMaxD, dGetP, dCall, dSeq, dRng1, dRng2, dZip, dEnum, gNm, gTp, gCs, gNl, dYes,
  startD, endsOf, retD, wipeS, gAdd, gSub, gMul, gMulA, gMulB, gDiv, gMod, gPow, gNeg, gLt, gLe, gGt, gGe, gEq, gNe, gIn, gIx, gSl, gIsi, tyD, isiD, gLen, gAbs, gInt, gMax2, gMin2, gTuple, gList, gIsN, isNon, gIsB, gNotB,
  List.getElem?_cons_zero, List.getElem?_cons_succ, List.getElem?_nil, List.set_cons_zero, List.set_cons_succ, List.map_cons, List.map_nil, List.cons_append, List.nil_append, List.length_cons, List.length_nil, List.replicate_succ, List.replicate_zero, Option.map_some, Nat.reduceSub, Nat.reduceAdd, Nat.reduceLeDiff,
  List.take_length, beq_self_eq_true, String.reduceBEq, Bool.or_true, Bool.true_or, Bool.or_false, Bool.false_or, Bool.and_true, Bool.and_false, Bool.true_and, Bool.false_and, Bool.or_self, Bool.and_self, decide_true, decide_false, dmem, List.any_cons, List.any_nil, okd_non, okd_bl, okd_int, okd_str, okds_nil, okds_cons, okd_60t, okd_59t, okd_58t, okd_60l, okd_59l, okd_58l, st_tk, st_tb, st_tf, st_kt, st_kb, st_kf, st_bt, st_bk, st_bf, st_ft, st_fk, st_fb, nat_num, Int.reduceBEq, Int.reduceBNe, Int.reduceEq, Int.reduceLT, Int.reduceLE, Int.reduceAdd, Int.reduceSub, Int.reduceMul, Int.reduceNeg, Int.reduceToNat, Int.reducePow, atI_0, atI_1, atI_2, set_last, get_last, take_last, deq_str, deq_int, deq_non, deq_bl, deq_tt, deq_ll, deqs_nn, deqs_cc, deqs_nc, deqs_cn, Nat.lt_irrefl, List.set_set, ixN_20, ixN_21, tupI, okds_ints, atI_map', List.length_map, cutL_map, eq_self, if_true, if_false, ite_true, ite_false, Bool.false_eq_true, decide_eq_true_eq, true_and, and_true, and_self, Bool.not_true, Bool.not_false, true_or, or_true, false_or, or_false, Option.some.injEq, reduceCtorEq]))
def words : List (Str × Str) := [("InvalidDrill", "drill"), ("InvalidBeginning", "beginning"), ("InvalidMany", "many"), ("InvalidSheep", "sheep"), ("InvalidPlace", "place"), ("InvalidRun", "run"), ("InvalidIndex", "index"), ("Unlike", "unlike"), ("NothingToUndo", "undo")]
theorem tl_text (w : String) : (Str.ofString w).length = w.length := by
  rw [len_tl, tl_ofString, List.length_map]
  rfl
theorem num_len {n : Int} (n0 : 0 ≤ n) (n1 : n ≤ 1000000) : (Str.ofString (toString n)).length ≤ 7 := by
  obtain ⟨m, rfl⟩ : ∃ m : Nat, n = m := ⟨n.toNat, by omega⟩
  rw [len_tl, tl_num]
  exact numL_len (by decide) (by omega)
theorem word_fits {n : Int} (n0 : 0 ≤ n) (n1 : n ≤ 1000000) : n.natAbs.log2 < 1920 ∧ 4 + Str.length (toString n) ≤ sizeLine := by
  refine ⟨?_, ?_⟩
  · exact log_lt (by decide) (Nat.lt_of_le_of_lt (show n.natAbs ≤ 2 ^ 20 by omega) (Nat.pow_lt_pow_right (by decide) (by decide)))
  · have := num_len n0 n1
    rw [sizeLine_eq]
    show 4 + (Str.ofString (toString n)).length ≤ _
    omega
/-- slots: 0 _law_call, 1 _law_found, 2 e -/
def B_l_word (R : List Str) (f : Addr) (G0 : Hp) (la0 : List Addr) (c : CallF) : DS :=
  (sSeq (sSet 1 (dDat (dC (.str ""))))
  (sSeq (sTryF R (sDrop (dAct 3 f G0 la0 c)) [("InvalidDrill", fun _ => (sSet 1 (dDat (dC (.str "drill"))))), ("InvalidBeginning", fun _ => (sSet 1 (dDat (dC (.str "beginning"))))), ("InvalidMany", fun _ => (sSet 1 (dDat (dC (.str "many"))))), ("InvalidSheep", fun _ => (sSet 1 (dDat (dC (.str "sheep"))))), ("InvalidPlace", fun _ => (sSet 1 (dDat (dC (.str "place"))))), ("InvalidRun", fun _ => (sSet 1 (dDat (dC (.str "run"))))), ("InvalidIndex", fun _ => (sSet 1 (dDat (dC (.str "index"))))), ("Unlike", fun _ => (sSet 1 (dDat (dC (.str "unlike"))))), ("NothingToUndo", fun _ => (sSet 1 (dDat (dC (.str "undo"))))), ("TooMany", sFld 2 1 "full" "limit"), ("InvalidText", sFld 2 1 "text" "line"), ("DogError", fun _ => (sSet 1 (dDat (dC (.str "base")))))])
  (sRet (dDat (dVar 1)))))
/-- w is the word of the error x -/
def IsWord (R : List Str) (x : Xn) (w : Str) : Prop := R.contains x.n = true ∧ ((x.n, w) ∈ words ∨ ∃ n : Int, 0 ≤ n ∧ n ≤ 1000000 ∧
  ((x = ⟨"InvalidText", some ("line", .int n)⟩ ∧ w = ("text" : Str) ++ (toString n : Str)) ∨ (x = ⟨"TooMany", some ("limit", .int n)⟩ ∧ w = ("full" : Str) ++ (toString n : Str))))
def S_l_word (R : List Str) : WF := fun c T Q => ∀ (Q' : Sl → List Ob → Prop) (QX' : Xn → List Ob → Prop), (∀ r T', Q (.dat (.str "")) (T'.take T.length) → Q' r T') → (∀ x w T', IsWord R x w → Q (.dat (.str w)) (T'.take T.length) → QX' x T') → c T Q' QX'
theorem h_l_word (R : List Str) (f : Addr) (G0 : Hp) (la0 : List Addr) (c : CallF) (T : List Ob) (Q : Sl → List Ob → Prop) (h : S_l_word R c T Q) : B_l_word R f G0 la0 c (endsOf T.length Q (fun _ _ => False)) (startD 3 1 [.clo f G0 la0] T) := by
  unfold B_l_word
  walk_at "dl"
  simp only [sTryF, sDrop, dAct]
  walk_at "dl"
  refine h _ _ ?_ ?_
  · intro r T' q
    exact q
  · intro x w T' hw q
    obtain ⟨n, f⟩ := x
    obtain ⟨hR, hm⟩ := hw
    rcases hm with hm | ⟨m, m0, m1, ⟨e, rfl⟩ | ⟨e, rfl⟩⟩
    · simp only [words, List.mem_cons, Prod.mk.injEq, List.not_mem_nil, or_false] at hm
      rcases hm with ⟨rfl, rfl⟩ | ⟨rfl, rfl⟩ | ⟨rfl, rfl⟩ | ⟨rfl, rfl⟩ | ⟨rfl, rfl⟩ | ⟨rfl, rfl⟩ | ⟨rfl, rfl⟩ | ⟨rfl, rfl⟩ | ⟨rfl, rfl⟩
      all_goals
        simp only [hndlF, hR, true_and]
        repeat rw [if_neg (by decide)]
        rw [if_pos (by decide)]
        walk_at "dl"
        exact q
    all_goals
      cases e
      obtain ⟨l1, l2⟩ := word_fits m0 m1
      simp only [hndlF, hR, true_and]
      repeat rw [if_neg (by decide)]
      rw [if_pos (by decide)]
      refine ⟨rfl, by decide, m, rfl, l1, l2, ?_⟩
      walk_at "dl"
      exact q
end DL
set_option Elab.async false
set_option linter.all false
set_option maxRecDepth 100000
set_option maxHeartbeats 4000000
set_option autoImplicit false
/-! Law k12: numbers in texts. -/
namespace DL
open PySem PySem.Spec PyProof.Rows L2 TL
local macro_rules | `(tactic| walk_at "dl") => `(tactic| (try simp only [sSeq, sSet, sRet, sRetN, sIf, sNil, sDrop, sFor, sTo, sPar2, sPar3, sNever, sRaise, sSetIx, dVar, dC, dVarL, dDat, dVal, valK_dat, valK_ob, dBin, dUn, dNil, dCons, dats, dTup, dLst, dNew, dNewOf, dTest, dtAnd, dtOr, dtNot, dAnd, dOr, dNot, dIf, dChain, dCB, dSl, dNo, dSo, sApp, dIxO, dLenO, dMaxD, dGetP, dCall, dSeq, dRng1, dRng2, dZip, dEnum, gNm, gTp, gCs, gNl, dYes,
  startD, endsOf, retD, wipeS, gAdd, gSub, gMul, gMulA, gMulB, gDiv, gMod, gPow, gNeg, gLt, gLe, gGt, gGe, gEq, gNe, gIn, gIx, gSl, gIsi, tyD, isiD, gLen, gAbs, gInt, gMax2, gMin2, gTuple, gList, gIsN, isNon, gIsB, gNotB,
  List.getElem?_cons_zero, List.getElem?_cons_succ, List.getElem?_nil, List.set_cons_zero, List.set_cons_succ, List.map_cons, List.map_nil, List.cons_append, List.nil_append, List.length_cons, List.length_nil, List.replicate_succ, List.replicate_zero, Option.map_some, Nat.reduceSub, Nat.reduceAdd, Nat.reduceLeDiff,
  List.take_length, beq_self_eq_true, String.reduceBEq, Bool.or_true, Bool.true_or, Bool.or_false, Bool.false_or, Bool.and_true, Bool.and_false, Bool.true_and, Bool.false_and, Bool.or_self, Bool.and_self, decide_true, decide_false, dmem, List.any_cons, List.any_nil, okd_non, okd_bl, okd_int, okd_str, okds_nil, okds_cons, okd_60t, okd_59t, okd_58t, okd_60l, okd_59l, okd_58l, st_tk, st_tb, st_tf, st_kt, st_kb, st_kf, st_bt, st_bk, st_bf, st_ft, st_fk, st_fb, nat_num, Int.reduceBEq, Int.reduceBNe, Int.reduceEq, Int.reduceLT, Int.reduceLE, Int.reduceAdd, Int.reduceSub, Int.reduceMul, Int.reduceNeg, Int.reduceToNat, Int.reducePow, atI_0, atI_1, atI_2, set_last, get_last, take_last, deq_str, deq_int, deq_non, deq_bl, deq_tt, deq_ll, deqs_nn, deqs_cc, deqs_nc, deqs_cn, Nat.lt_irrefl, List.set_set, ixN_20, ixN_21, tupI, okds_ints, atI_map', List.length_map, cutL_map, eq_self, if_true, if_false, ite_true, ite_false, Bool.false_eq_true, decide_eq_true_eq, true_and, and_true, and_self, Bool.not_true, Bool.not_false, true_or, or_true, false_or, or_false, Option.some.injEq, reduceCtorEq]))
def dig (c : Nat) : Bool := decide (48 ≤ c) && decide (c ≤ 57)
theorem dig_in (c : Nat) : (c ∈ (Str.ofString "0123456789").cps.toList) ↔ dig c = true := by
  have e : (Str.ofString "0123456789").cps.toList = [48, 49, 50, 51, 52, 53, 54, 55, 56, 57] := by decide
  rw [e]
  simp [dig]
  omega
theorem all_dig {l : List Nat} : NumText.AllDigits l ↔ l.all dig = true := by
  simp [NumText.AllDigits, dig]
/-- the number that a word writes -/
def numW (w : Str) : Option Nat := if w.length = 0 ∨ 13 < w.length ∨ (tl w).all dig = false then none else if numL (NumText.digitsVal (tl w)) = tl w then some (NumText.digitsVal (tl w)) else none
def optI : Option Nat → D
  | some n => .int n
  | none => .non
theorem empty_eq (w : Str) : (w == Str.ofString "") = decide (w.length = 0) := by
  rw [Bool.eq_iff_iff]
  simp only [beq_iff_eq, decide_eq_true_eq]
  constructor
  · rintro rfl
    rfl
  · intro h
    apply ext_tl
    have : tl w = [] := List.eq_nil_of_length_eq_zero (by rw [← len_tl]; exact h)
    rw [this]
    rfl
theorem not_digs (w : Str) : (signsD w).filterMap (fun d => match d with
    | .str x => if (tl x).all dig = true then none else some d
    | _ => none) = ((tl w).filter fun c => !dig c).map fun c => D.str ⟨#[c]⟩ := by
  unfold signsD
  show _ = (w.cps.toList.filter _).map _
  generalize w.cps.toList = l
  induction l with
  | nil => rfl
  | cons c l ih =>
    have e2 : (tl (⟨#[c]⟩ : Str)).all dig = dig c := by simp [tl]
    rw [List.map_cons, List.filterMap_cons, List.filter_cons]
    simp only [e2]
    rw [ih]
    cases dig c <;> simp
theorem okds_strs (n : Nat) : ∀ l : List Nat, okds n (l.map fun c => D.str ⟨#[c]⟩) = true
  | [] => okds_nil n
  | c :: l => by rw [List.map_cons, okds_cons, okd_str, okds_strs n l]; rfl
theorem fold_lt : ∀ (l : List Nat) (a : Nat), l.all dig = true → l.foldl (fun acc c => acc * 10 + (c - 48)) a < (a + 1) * 10 ^ l.length
  | [], a, _ => by simp
  | c :: l, a, h => by
    rw [List.all_cons, Bool.and_eq_true] at h
    have ih := fold_lt l (a * 10 + (c - 48)) h.2
    have hc : c - 48 ≤ 9 := by
      have := h.1
      simp [dig] at this
      omega
    rw [List.foldl_cons, List.length_cons, Nat.pow_succ]
    have e : (a * 10 + (c - 48) + 1) * 10 ^ l.length ≤ (a + 1) * (10 ^ l.length * 10) := by
      have : a * 10 + (c - 48) + 1 ≤ (a + 1) * 10 := by omega
      calc (a * 10 + (c - 48) + 1) * 10 ^ l.length ≤ ((a + 1) * 10) * 10 ^ l.length := Nat.mul_le_mul_right _ this
        _ = (a + 1) * (10 ^ l.length * 10) := by rw [Nat.mul_assoc, Nat.mul_comm 10]
    omega
theorem val_lt (l : List Nat) (h : l.all dig = true) : NumText.digitsVal l < 10 ^ l.length := by
  have := fold_lt l 0 h
  simpa [NumText.digitsVal] using this
/-- slots: 0 word, 1 sign -/
def B_number_in : DS :=
  (sSeq (sIf (dtOr (dTest (dBin gEq (dVar 0) (dC (.str "")))) (dtOr (dTest (dBin gGt (dCB gLen (dCons (dDat (dVar 0)) dNil)) (dC (.int 13)))) (dTest (dBin gNe (dComp (dSgn (dVar 0)) (gNm 1) (dTest (dBin (gInS true) (dVar 1) (dC (.str "0123456789")))) (dVar 1) [1]) (dLst dNil))))) (sRet (dDat (dC .non))) sNil)
  (sRet (dDat (dIf (dTest (dBin gEq (dCB gStr (dCons (dDat (dCB gIntS (dCons (dDat (dVar 0)) dNil))) dNil)) (dVar 0))) (dCB gIntS (dCons (dDat (dVar 0)) dNil)) (dC .non)))))
def S_number_in : DF := fun ss T Q _ => ∃ w : Str, ss = [.dat (.str w)] ∧ w.length ≤ 100000 ∧ Q (.dat (optI (numW w))) T
theorem h_number_in : ∀ (ss : List Sl) (T : List Ob) (Q : Sl → List Ob → Prop) (QX : Xn → List Ob → Prop), ss.length = 1 → S_number_in ss T Q QX → B_number_in (endsOf T.length Q QX) (startD 2 1 ss T) := by
  intro ss T Q QX hl h
  obtain ⟨w, rfl, hw, h⟩ := h
  unfold B_number_in
  walk_at "dl"
  by_cases e0 : w.length = 0
  · rw [empty_eq, if_pos (by simpa using e0)]
    rw [numW, if_pos (.inl e0)] at h
    exact h
  rw [empty_eq, if_neg (by simpa using e0)]
  refine ⟨by rw [sizeLine_eq]; omega, ?_⟩
  by_cases e1 : 13 < w.length
  · rw [if_pos (by omega)]
    rw [numW, if_pos (.inr (.inl e1))] at h
    exact h
  rw [if_neg (by omega), dComp_eq]
  simp only [dSgn]
  walk_at "dl"
  refine ⟨by rw [sizeLine_eq]; omega, ?_⟩
  have ls : (tl w).length = w.length := (len_tl w).symm
  refine compK_pure (fun d => match d with
    | .str x => if (tl x).all dig = true then none else some d
    | _ => none) [some (.dat (.str w)), none] rfl rfl rfl (by rw [show (signsD w).length = (tl w).length by simp [signsD], ls, sizeLine_eq]; omega) ?_ ?_
  · intro d hd acc R hR
    obtain ⟨c, hc, rfl⟩ := List.mem_map.mp hd
    walk_at "dl"
    simp only [gInS]
    refine ⟨c, rfl, ?_⟩
    walk_at "dl"
    have e2 : (tl (⟨#[c]⟩ : Str)).all dig = dig c := by simp [tl]
    simp only [e2] at hR
    cases q : dig c with
    | true =>
      rw [decide_eq_true ((dig_in c).mpr q)]
      walk_at "dl"
      rw [q] at hR
      exact hR _ rfl
    | false =>
      rw [decide_eq_false (fun z => by rw [(dig_in c).mp z] at q; cases q)]
      walk_at "dl"
      rw [q] at hR
      exact hR _ rfl
  rw [not_digs]
  walk_at "dl"
  refine ⟨okds_strs _ _, ?_⟩
  rw [deqs_nil_iff]
  cases q : (tl w).all dig with
  | false =>
    have e2 : (((tl w).filter fun c => !dig c).map fun c => D.str ⟨#[c]⟩).isEmpty = false := by
      rw [Bool.eq_false_iff]
      intro z
      rw [List.isEmpty_iff, List.map_eq_nil_iff, List.filter_eq_nil_iff] at z
      rw [List.all_eq_false] at q
      obtain ⟨c, hc, hq⟩ := q
      exact z c hc (by simpa using hq)
    rw [e2]
    walk_at "dl"
    rw [numW, if_pos (.inr (.inr q))] at h
    exact h
  | true =>
    have e2 : (((tl w).filter fun c => !dig c).map fun c => D.str ⟨#[c]⟩).isEmpty = true := by
      rw [List.isEmpty_iff, List.map_eq_nil_iff, List.filter_eq_nil_iff]
      intro c hc
      rw [List.all_eq_true] at q
      simp [q c hc]
    rw [e2]
    walk_at "dl"
    rw [numW, if_neg (by rintro (z | z | z); exact e0 z; exact e1 z; rw [q] at z; cases z)] at h
    simp only [gIntS]
    have it := intText_digits (x := w) (all_dig.mpr q) (by intro z; have z' : tl w = [] := z; rw [z'] at ls; exact e0 (by simpa using ls.symm)) (by omega)
    refine ⟨_, it, by omega, ?_⟩
    generalize hv : NumText.digitsVal (tl w) = v at h it
    have vb : v < 10 ^ 13 := by
      rw [← hv]
      exact Nat.lt_of_lt_of_le (val_lt (tl w) q) (Nat.pow_le_pow_right (by decide) (by omega))
    simp only [gStr]
    refine ⟨log_lt (by decide) (Nat.lt_trans (show ((v : Int)).natAbs < 2 ^ 60 by omega) (Nat.pow_lt_pow_right (by decide) (by decide))), ?_⟩
    walk_at "dl"
    have es : ((toString ((v : Nat) : Int) : Str) == w) = decide (numL v = tl w) := by
      rw [Bool.eq_iff_iff]
      simp only [beq_iff_eq, decide_eq_true_eq]
      exact ⟨fun z => by rw [← z]; exact (tl_num v).symm, fun z => ext_tl ((tl_num v).trans z)⟩
    rw [es]
    by_cases e3 : numL v = tl w
    · rw [decide_eq_true e3]
      walk_at "dl"
      rw [if_pos e3] at h
      exact ⟨_, it, by omega, h⟩
    · rw [decide_eq_false e3]
      walk_at "dl"
      rw [if_neg e3] at h
      exact h
end DL
set_option Elab.async false
set_option linter.all false
set_option maxRecDepth 100000
set_option maxHeartbeats 4000000
set_option autoImplicit false
/-! Law k12: the law's numbers in texts. -/
namespace DL
open PySem PySem.Spec PyProof.Rows L2 TL
local macro_rules | `(tactic| walk_at "dl") => `(tactic| (try simp only [sSeq, sSet, sRet, sRetN, sIf, sNil, sDrop, sFor, sTo, sPar2, sPar3, sNever, sRaise, sSetIx, dVar, dC, dVarL, dDat, dVal, valK_dat, valK_ob, dBin, dUn, dNil, dCons, dats, dTup, dLst, dNew, dNewOf, dTest, dtAnd, dtOr, dtNot, dAnd, dOr, dNot, dIf, dChain, dCB, dSl, dNo, dSo, sApp, dIxO, dLenO, dMaxD, dGetP, dCall, dSeq, dRng1, dRng2, dZip, dEnum, gNm, gTp, gCs, gNl, dYes,
  startD, endsOf, retD, wipeS, gAdd, gSub, gMul, gMulA, gMulB, gDiv, gMod, gPow, gNeg, gLt, gLe, gGt, gGe, gEq, gNe, gIn, gIx, gSl, gIsi, tyD, isiD, gLen, gAbs, gInt, gMax2, gMin2, gTuple, gList, gIsN, isNon, gIsB, gNotB,
  List.getElem?_cons_zero, List.getElem?_cons_succ, List.getElem?_nil, List.set_cons_zero, List.set_cons_succ, List.map_cons, List.map_nil, List.cons_append, List.nil_append, List.length_cons, List.length_nil, List.replicate_succ, List.replicate_zero, Option.map_some, Nat.reduceSub, Nat.reduceAdd, Nat.reduceLeDiff,
  List.take_length, beq_self_eq_true, String.reduceBEq, Bool.or_true, Bool.true_or, Bool.or_false, Bool.false_or, Bool.and_true, Bool.and_false, Bool.true_and, Bool.false_and, Bool.or_self, Bool.and_self, decide_true, decide_false, dmem, List.any_cons, List.any_nil, okd_non, okd_bl, okd_int, okd_str, okds_nil, okds_cons, okd_60t, okd_59t, okd_58t, okd_60l, okd_59l, okd_58l, st_tk, st_tb, st_tf, st_kt, st_kb, st_kf, st_bt, st_bk, st_bf, st_ft, st_fk, st_fb, nat_num, Int.reduceBEq, Int.reduceBNe, Int.reduceEq, Int.reduceLT, Int.reduceLE, Int.reduceAdd, Int.reduceSub, Int.reduceMul, Int.reduceNeg, Int.reduceToNat, Int.reducePow, atI_0, atI_1, atI_2, set_last, get_last, take_last, deq_str, deq_int, deq_non, deq_bl, deq_tt, deq_ll, deqs_nn, deqs_cc, deqs_nc, deqs_cn, Nat.lt_irrefl, List.set_set, ixN_20, ixN_21, tupI, okds_ints, atI_map', List.length_map, cutL_map, eq_self, if_true, if_false, ite_true, ite_false, Bool.false_eq_true, decide_eq_true_eq, true_and, and_true, and_self, Bool.not_true, Bool.not_false, true_or, or_true, false_or, or_false, Option.some.injEq, reduceCtorEq]))
theorem dig_has (c : Nat) : (Str.ofString "0123456789").cps.contains c = dig c := by
  rw [Bool.eq_iff_iff]
  rw [← dig_in]
  simp
theorem takeW_all {p : Nat → Bool} : ∀ {l : List Nat}, l.all p = true → l.takeWhile p = l
  | [], _ => rfl
  | c :: l, h => by
    rw [List.all_cons, Bool.and_eq_true] at h
    rw [List.takeWhile_cons, h.1]
    simp [takeW_all h.2]
theorem takeW_lt {p : Nat → Bool} : ∀ {l : List Nat}, l.all p = false → (l.takeWhile p).length < l.length
  | [], h => by simp at h
  | c :: l, h => by
    rw [List.takeWhile_cons]
    cases q : p c with
    | true =>
      rw [List.all_cons, q, Bool.true_and] at h
      have := takeW_lt h
      simp
      exact this
    | false => simp
theorem drop_takeW {p : Nat → Bool} : ∀ {l : List Nat}, l.all p = false → (l.drop (l.takeWhile p).length).all p = false
  | [], h => by simp at h
  | c :: l, h => by
    rw [List.takeWhile_cons]
    cases q : p c with
    | true =>
      rw [List.all_cons, q, Bool.true_and] at h
      simpa using drop_takeW h
    | false => simp [q]
theorem strip_dig (w : Str) : (Txt.stripChars w (Str.ofString "0123456789") == Str.ofString "") = (tl w).all dig := by
  have eg : (Str.ofString "0123456789").cps.contains = dig := by
    funext c
    exact dig_has c
  rw [empty_eq, Txt.stripChars, PySem.W.stripBy_eq, eg]
  have e : tl (W.stripped dig true true w) = ((tl w).drop ((tl w).takeWhile dig).length).take (w.length - (((tl w).drop ((tl w).takeWhile dig).length).reverse.takeWhile dig).length - ((tl w).takeWhile dig).length) := by
    unfold W.stripped
    simp only [if_true]
    exact tl_strSub _ _ _
  have lw : w.length = (tl w).length := len_tl w
  rw [len_tl, e]
  cases q : (tl w).all dig with
  | true =>
    rw [takeW_all q]
    simp
  | false =>
    have h1 := takeW_lt q
    have h2 := drop_takeW q
    have h3 : (((tl w).drop ((tl w).takeWhile dig).length).reverse).all dig = false := by
      rw [List.all_reverse]
      exact h2
    have h4 := takeW_lt h3
    rw [List.length_reverse, List.length_drop] at h4
    rw [decide_eq_false_iff_not, List.length_take, List.length_drop]
    omega
/-! ### a number's signs -/
theorem numL_head : ∀ (n v : Nat), v ≤ n → 0 < v → ∃ c r, numL v = c :: r ∧ c ≠ 48
  | 0, v, h, p => by omega
  | n + 1, v, h, p => by
    by_cases q : v < 10
    · exact ⟨48 + v, [], numL_lt q, by omega⟩
    · obtain ⟨c, r, e, hc⟩ := numL_head n (v / 10) (by omega) (by omega)
      exact ⟨c, r ++ [48 + v % 10], by rw [numL_step (by omega), e]; rfl, hc⟩
theorem val_snoc (l : List Nat) (c : Nat) : NumText.digitsVal (l ++ [c]) = NumText.digitsVal l * 10 + (c - 48) := by
  simp [NumText.digitsVal]
theorem val_num : ∀ (n : Nat) (l : List Nat), l.length ≤ n → l.all dig = true → (∃ c r, l = c :: r ∧ c ≠ 48) → numL (NumText.digitsVal l) = l ∧ 0 < NumText.digitsVal l
  | 0, l, h, _, ⟨c, r, e, _⟩ => by rw [e] at h; simp at h
  | n + 1, l, h, a, ⟨c, r, e, hc⟩ => by
    rcases List.eq_nil_or_concat l with z | ⟨l', d, z⟩
    · rw [z] at e; cases e
    · have z' : l = l' ++ [d] := by rw [z]; simp
      rw [z'] at a h
      rw [List.all_append, Bool.and_eq_true] at a
      have hd : 48 ≤ d ∧ d ≤ 57 := by
        have := a.2
        simpa [dig] using this
      rw [z', val_snoc]
      cases l' with
      | nil =>
        have ed : d = c := by
          rw [z'] at e
          simp at e
          exact e.1
        have e0 : NumText.digitsVal ([] : List Nat) = 0 := rfl
        rw [e0, Nat.zero_mul, Nat.zero_add, numL_lt (by omega)]
        refine ⟨?_, by omega⟩
        simp
        omega
      | cons c' r' =>
        have ec : c' = c := by
          rw [z'] at e
          simp at e
          exact e.1
        obtain ⟨i1, i2⟩ := val_num n (c' :: r') (by simp at h ⊢; omega) a.1 ⟨c', r', rfl, by rw [ec]; exact hc⟩
        refine ⟨?_, by omega⟩
        rw [numL_step (by omega)]
        rw [show (NumText.digitsVal (c' :: r') * 10 + (d - 48)) / 10 = NumText.digitsVal (c' :: r') by omega, i1, show 48 + (NumText.digitsVal (c' :: r') * 10 + (d - 48)) % 10 = d by omega]
def numIn (w : Str) (lo hi : Int) : Option Nat := (numW w).bind fun n => if lo ≤ (n : Int) ∧ (n : Int) ≤ hi then some n else none
/-- slots: 0 _law_word_here, 1 _law_least, 2 _law_most -/
def B_l_number : DS :=
  (sSeq (sIf (dtOr (dtNot (dTest (dChain gLe gLe (dC (.int 1)) (dCB gLen (dCons (dDat (dVar 0)) dNil)) (dC (.int 13))))) (dtOr (dTest (dBin gNe (dM1 gStrip (dVar 0) (dC (.str "0123456789"))) (dC (.str "")))) (dtAnd (dTest (dBin gEq (dBin gIx (dVar 0) (dC (.int 0))) (dC (.str "0")))) (dTest (dBin gNe (dVar 0) (dC (.str "0"))))))) (sRet (dDat (dC .non))) sNil)
  (sRet (dDat (dIf (dTest (dChain gLe gLe (dVar 1) (dCB gIntS (dCons (dDat (dVar 0)) dNil)) (dVar 2))) (dCB gIntS (dCons (dDat (dVar 0)) dNil)) (dC .non)))))
def S_l_number : DF := fun ss T Q _ => ∃ (w : Str) (lo hi : Int), ss = [.dat (.str w), .dat (.int lo), .dat (.int hi)] ∧ w.length ≤ 100000 ∧ Q (.dat (optI (numIn w lo hi))) T
theorem h_l_number : ∀ (ss : List Sl) (T : List Ob) (Q : Sl → List Ob → Prop) (QX : Xn → List Ob → Prop), ss.length = 3 → S_l_number ss T Q QX → B_l_number (endsOf T.length Q QX) (startD 3 3 ss T) := by
  intro ss T Q QX hl h
  obtain ⟨w, lo, hi, rfl, hw, h⟩ := h
  unfold B_l_number
  walk_at "dl"
  refine ⟨by rw [sizeLine_eq]; omega, ?_⟩
  have ls : (tl w).length = w.length := (len_tl w).symm
  have bad : numW w = none → Q (.dat .non) T := fun e => by
    rw [numIn, e] at h
    exact h
  by_cases l1 : w.length = 0
  · rw [if_neg (by omega)]
    exact bad (by rw [numW, if_pos (.inl l1)])
  rw [if_pos (by omega)]
  by_cases l13 : 13 < w.length
  · rw [decide_eq_false (by omega)]
    walk_at "dl"
    exact bad (by rw [numW, if_pos (.inr (.inl l13))])
  rw [decide_eq_true (by omega)]
  walk_at "dl"
  simp only [dM1, gStrip]
  walk_at "dl"
  refine ⟨⟨w, rfl⟩, by rw [sizeLine_eq]; omega, ?_⟩
  walk_at "dl"
  rw [strip_dig]
  cases q : (tl w).all dig with
  | false =>
    walk_at "dl"
    exact bad (by rw [numW, if_pos (.inr (.inr q))])
  | true =>
    walk_at "dl"
    obtain ⟨c, r, ew⟩ : ∃ c r, tl w = c :: r := by
      cases e : tl w with
      | nil => rw [e] at ls; exact absurd ls.symm (by simpa using l1)
      | cons c r => exact ⟨c, r, rfl⟩
    have it := intText_digits (x := w) (all_dig.mpr q) (by intro z; have z' : tl w = [] := z; rw [z'] at ew; cases ew) (by omega)
    have ex : numW w = if numL (NumText.digitsVal (tl w)) = tl w then some (NumText.digitsVal (tl w)) else none := by
      rw [numW, if_neg (by rintro (z | z | z); exact l1 z; exact l13 z; rw [q] at z; cases z)]
    refine ⟨by rw [sizeLine_eq]; omega, ?_⟩
    rw [show atI w.cps.toList 0 = some c by rw [show w.cps.toList = c :: r from ew]; simp only [atI_0]]
    walk_at "dl"
    by_cases hc : c = 48
    · subst hc
      rw [show ((⟨#[48]⟩ : Str) == Str.ofString "0") = true from by decide]
      walk_at "dl"
      by_cases hw0 : w = Str.ofString "0"
      · rw [show (w == Str.ofString "0") = true from by simpa using hw0]
        walk_at "dl"
        have gd : numL (NumText.digitsVal (tl w)) = tl w := by
          rw [hw0]
          exact numL_lt (show (0 : Nat) < 10 by decide)
        simp only [gIntS]
        refine ⟨_, it, by omega, ?_⟩
        rw [numIn, ex, if_pos gd, Option.bind_some] at h
        walk_at "dl"
        by_cases a1 : lo ≤ ((NumText.digitsVal (tl w) : Nat) : Int)
        · rw [if_pos a1]
          by_cases a2 : ((NumText.digitsVal (tl w) : Nat) : Int) ≤ hi
          · rw [if_pos ⟨a1, a2⟩] at h
            rw [if_pos a2]
            exact ⟨_, it, by omega, h⟩
          · rw [if_neg (fun z => a2 z.2)] at h
            rw [if_neg a2]
            exact h
        · rw [if_neg a1]
          rw [if_neg (fun z => a1 z.1)] at h
          exact h
      · rw [show (w == Str.ofString "0") = false from by simpa using hw0]
        walk_at "dl"
        refine bad ?_
        rw [ex, if_neg ?_]
        intro z
        by_cases v0 : NumText.digitsVal (tl w) = 0
        · rw [v0, numL_lt (by decide)] at z
          exact hw0 (ext_tl (by rw [← z]; rfl))
        · obtain ⟨c', r', e1, e2⟩ := numL_head _ _ (Nat.le_refl _) (Nat.pos_of_ne_zero v0)
          rw [z, ew] at e1
          cases e1
          exact e2 rfl
    · rw [show ((⟨#[c]⟩ : Str) == Str.ofString "0") = false from by
        rw [Bool.eq_false_iff]
        intro z
        have z1 := congrArg tl (eq_of_beq z)
        have z2 : [c] = [48] := z1
        exact hc (by simpa using z2)]
      walk_at "dl"
      have gd := (val_num _ (tl w) (Nat.le_refl _) q ⟨c, r, ew, hc⟩).1
      simp only [gIntS]
      refine ⟨_, it, by omega, ?_⟩
      rw [numIn, ex, if_pos gd, Option.bind_some] at h
      walk_at "dl"
      by_cases a1 : lo ≤ ((NumText.digitsVal (tl w) : Nat) : Int)
      · rw [if_pos a1]
        by_cases a2 : ((NumText.digitsVal (tl w) : Nat) : Int) ≤ hi
        · rw [if_pos ⟨a1, a2⟩] at h
          rw [if_pos a2]
          exact ⟨_, it, by omega, h⟩
        · rw [if_neg (fun z => a2 z.2)] at h
          rw [if_neg a2]
          exact h
      · rw [if_neg a1]
        rw [if_neg (fun z => a1 z.1)] at h
        exact h
end DL
set_option Elab.async false
set_option linter.all false
set_option maxRecDepth 100000
set_option maxHeartbeats 4000000
set_option autoImplicit false
/-! Law k12: lines of texts. -/
namespace DL
open PySem PySem.Spec PyProof.Rows L2 TL
local macro_rules | `(tactic| walk_at "dl") => `(tactic| (try simp only [sSeq, sSet, sRet, sRetN, sIf, sNil, sDrop, sFor, sTo, sPar2, sPar3, sNever, sRaise, sSetIx, dVar, dC, dVarL, dDat, dVal, valK_dat, valK_ob, dBin, dUn, dNil, dCons, dats, dTup, dLst, dNew, dNewOf, dTest, dtAnd, dtOr, dtNot, dAnd, dOr, dNot, dIf, dChain, dCB, dSl, dNo, dSo, sApp, dIxO, dLenO, dMaxD, dGetP, dCall, dSeq, dRng1, dRng2, dZip, dEnum, gNm, gTp, gCs, gNl, dYes,
  startD, endsOf, retD, wipeS, gAdd, gSub, gMul, gMulA, gMulB, gDiv, gMod, gPow, gNeg, gLt, gLe, gGt, gGe, gEq, gNe, gIn, gIx, gSl, gIsi, tyD, isiD, gLen, gAbs, gInt, gMax2, gMin2, gTuple, gList, gIsN, isNon, gIsB, gNotB,
  List.getElem?_cons_zero, List.getElem?_cons_succ, List.getElem?_nil, List.set_cons_zero, List.set_cons_succ, List.map_cons, List.map_nil, List.cons_append, List.nil_append, List.length_cons, List.length_nil, List.replicate_succ, List.replicate_zero, Option.map_some, Nat.reduceSub, Nat.reduceAdd, Nat.reduceLeDiff,
  List.take_length, beq_self_eq_true, String.reduceBEq, Bool.or_true, Bool.true_or, Bool.or_false, Bool.false_or, Bool.and_true, Bool.and_false, Bool.true_and, Bool.false_and, Bool.or_self, Bool.and_self, decide_true, decide_false, dmem, List.any_cons, List.any_nil, okd_non, okd_bl, okd_int, okd_str, okds_nil, okds_cons, okd_60t, okd_59t, okd_58t, okd_60l, okd_59l, okd_58l, st_tk, st_tb, st_tf, st_kt, st_kb, st_kf, st_bt, st_bk, st_bf, st_ft, st_fk, st_fb, nat_num, Int.reduceBEq, Int.reduceBNe, Int.reduceEq, Int.reduceLT, Int.reduceLE, Int.reduceAdd, Int.reduceSub, Int.reduceMul, Int.reduceNeg, Int.reduceToNat, Int.reducePow, atI_0, atI_1, atI_2, set_last, get_last, take_last, deq_str, deq_int, deq_non, deq_bl, deq_tt, deq_ll, deqs_nn, deqs_cc, deqs_nc, deqs_cn, Nat.lt_irrefl, List.set_set, ixN_20, ixN_21, tupI, okds_ints, atI_map', List.length_map, cutL_map, eq_self, if_true, if_false, ite_true, ite_false, Bool.false_eq_true, decide_eq_true_eq, true_and, and_true, and_self, Bool.not_true, Bool.not_false, true_or, or_true, false_or, or_false, Option.some.injEq, reduceCtorEq]))
theorem spl_ne (S : List Nat) : ∀ (l : List Nat) (k : Nat) (acc : List Nat), spl S k acc l ≠ []
  | [], k, acc => by rw [spl_nil]; simp
  | c :: r, 0, acc => by
    by_cases h : pre S (c :: r) = true
    · rw [spl_hit h]; simp
    · rw [spl_miss (by simpa using h)]
      exact spl_ne S r 0 _
  | c :: r, k + 1, acc => by
    show spl S k acc r ≠ []
    exact spl_ne S r k acc
theorem spl_le (S : List Nat) : ∀ (l : List Nat) (k : Nat) (acc : List Nat), ∀ p ∈ spl S k acc l, p.length ≤ acc.length + l.length
  | [], k, acc, p, hp => by
    rw [spl_nil] at hp
    simp at hp
    rw [hp]
    simp
  | c :: r, 0, acc, p, hp => by
    by_cases h : pre S (c :: r) = true
    · rw [spl_hit h] at hp
      rcases List.mem_cons.mp hp with rfl | hp
      · simp
      · have := spl_le S r _ [] p hp
        simp at this ⊢
        omega
    · rw [spl_miss (by simpa using h)] at hp
      have := spl_le S r 0 _ p hp
      simp at this ⊢
      omega
  | c :: r, k + 1, acc, p, hp => by
    have := spl_le S r k acc p (show p ∈ spl S k acc r from hp)
    simp at this ⊢
    omega
theorem split_facts {x y : Str} (hy : tl y ≠ []) (hk : y.cps.all (· < 256) = true) : (∃ w0 ws, Txt.split x y = w0 :: ws) ∧ (∀ w ∈ Txt.split x y, w.length ≤ x.length) := by
  have e := split_spl x y hy (kind_ok hk)
  constructor
  · cases q : Txt.split x y with
    | nil =>
      rw [q] at e
      exact absurd e.symm (spl_ne _ _ _ _)
    | cons w0 ws => exact ⟨w0, ws, rfl⟩
  · intro w hw
    have hm : tl w ∈ spl (tl y) 0 [] (tl x) := by
      rw [← e]
      exact List.mem_map_of_mem hw
    have := spl_le _ _ _ _ _ hm
    rw [len_tl w, len_tl x]
    simpa using this
def itemsOf (ws : List Str) : List D := ws.map fun w => optI (numW w)
/-- the run, or the pair of gap, that words write -/
def lineD : List Str → D
  | [] => .non
  | w0 :: ws => if w0 = "gap" then (match itemsOf ws with
      | [a] => if isInt a 1 9 = true then .tup (.str w0 :: itemsOf ws) else .non
      | _ => .non) else if isRun (.tup (.str w0 :: itemsOf ws)) = true then .tup (.str w0 :: itemsOf ws) else .non
theorem okd_opt (n : Nat) (o : Option Nat) : okd n (optI o) = true := by
  cases o
  · exact okd_non n
  · exact okd_int n _
theorem okds_items (n : Nat) : ∀ ws : List Str, okds n (itemsOf ws) = true
  | [] => okds_nil n
  | w :: ws => by
    show okds n (optI (numW w) :: itemsOf ws) = true
    rw [okds_cons, okd_opt, okds_items n ws]
    rfl
/-- slots: 0 line, 1 words, 2 found, 3 word -/
def B_line_in : DS :=
  (sSeq (sSet 1 (dDat (dM1 gSplit (dVar 0) (dC (.str " ")))))
  (sSeq (sSet 2 (dDat (dBin gAdd (dTup (dCons (dDat (dBin gIx (dVar 1) (dC (.int 0)))) dNil)) (dCB gTuple (dCons (dDat (dComp (dSeq (dSl (dVar 1) (dSo (dC (.int 1))) dNo)) (gNm 3) dYes (dVal (dCall 1 S_number_in (dCons (dDat (dVar 3)) dNil))) [3])) dNil)))))
  (sSeq (sIf (dTest (dBin gEq (dBin gIx (dVar 1) (dC (.int 0))) (dC (.str "gap")))) (sRet (dDat (dIf (dtAnd (dTest (dBin gEq (dCB gLen (dCons (dDat (dVar 2)) dNil)) (dC (.int 2)))) (dTest (dVal (dCall 1 S_fits (dCons (dDat (dTup (dCons (dDat (dBin gIx (dVar 2) (dC (.int 1)))) (dCons (dDat (dTup dNil)) dNil)))) dNil))))) (dVar 2) (dC .non)))) sNil)
  (sRet (dDat (dIf (dTest (dVal (dCall 1 S_fits (dCons (dDat (dTup (dCons (dDat (dC (.int 1))) (dCons (dDat (dTup (dCons (dDat (dVar 2)) dNil))) dNil)))) dNil)))) (dVar 2) (dC .non)))))))
def S_line_in : DF := fun ss T Q _ => ∃ l : Str, ss = [.dat (.str l)] ∧ l.length ≤ 100000 ∧ Q (.dat (lineD (Txt.split l " "))) T
theorem h_line_in : ∀ (ss : List Sl) (T : List Ob) (Q : Sl → List Ob → Prop) (QX : Xn → List Ob → Prop), ss.length = 1 → S_line_in ss T Q QX → B_line_in (endsOf T.length Q QX) (startD 4 1 ss T) := by
  intro ss T Q QX hl h
  obtain ⟨l, rfl, hw, h⟩ := h
  obtain ⟨⟨w0, ws, e⟩, hlen⟩ := split_facts (x := l) (y := " ") (by decide) (by first | rfl | decide +kernel)
  have nw : (Txt.split l " ").length ≤ l.length + 2 := split_le l " "
  unfold B_line_in
  walk_at "dl"
  simp only [dM1, gSplit]
  walk_at "dl"
  refine ⟨⟨l, rfl⟩, ⟨by decide, by rw [sizeLine_eq]; omega⟩, ?_⟩
  rw [e] at nw hlen h
  rw [e]
  walk_at "dl"
  rw [dComp_eq]
  walk_at "dl"
  have ec : cutL (D.str w0 :: ws.map D.str) (some 1) none = ws.map D.str := cut_from _ (by decide)
  rw [ec]
  refine compK_pure (fun d => match d with
    | .str w => some (optI (numW w))
    | _ => none) [some (.dat (.str l)), some (.dat (.lst (.str w0 :: ws.map .str))), none, none] rfl rfl rfl (by
      rw [List.length_map, sizeLine_eq]
      simp at nw
      omega) ?_ ?_
  · intro d hd acc R hR
    obtain ⟨w, hw', rfl⟩ := List.mem_map.mp hd
    walk_at "dl"
    refine ⟨w, rfl, by have := hlen w (by simp [hw']); omega, ?_⟩
    walk_at "dl"
    exact hR _ rfl
  rw [show (ws.map D.str).filterMap (fun d => match d with
    | .str w => some (optI (numW w))
    | _ => none) = itemsOf ws by
    rw [List.filterMap_map, itemsOf, ← List.filterMap_eq_map]
    rfl]
  walk_at "dl"
  have li : (itemsOf ws).length = ws.length := by simp [itemsOf]
  have l1 : ws.length ≤ 100002 := by
    simp at nw
    omega
  refine ⟨by rw [li, sizeLine_eq]; omega, ?_⟩
  by_cases g : w0 = "gap"
  · subst g
    rw [show ((Str.ofString "gap") == Str.ofString "gap") = true from by simp]
    walk_at "dl"
    simp only [lineD, if_true] at h
    by_cases n1 : ws.length = 1
    · obtain ⟨a, rfl⟩ := List.length_eq_one_iff.mp n1
      have ei : itemsOf [a] = [optI (numW a)] := rfl
      rw [ei] at h ⊢
      simp only at h
      walk_at "dl"
      simp only [S_fits]
      refine ⟨by rw [okd_60t, okds_cons, okd_opt, okds_cons, okd_59t, okds_nil, okds_nil]; rfl, ?_⟩
      rw [show fitsB (.tup [optI (numW a), .tup []]) = isInt (optI (numW a)) 1 9 by simp [fitsB]]
      walk_at "dl"
      cases q : isInt (optI (numW a)) 1 9 with
      | true =>
        rw [q] at h
        walk_at "dl"
        exact h
      | false =>
        rw [q] at h
        walk_at "dl"
        exact h
    · rw [show ((((itemsOf ws).length + 1 : Nat) : Int) == 2) = false from by
        rw [li]
        simp
        omega]
      walk_at "dl"
      split at h
      · rename_i x hx
        have := congrArg List.length hx
        rw [li] at this
        exact absurd this n1
      · exact h
  · rw [show (w0 == Str.ofString "gap") = false from by simpa using g]
    walk_at "dl"
    simp only [S_fits]
    simp only [lineD, if_neg g] at h
    refine ⟨by simp [okd_60t, okds_cons, okd_int, okd_59t, okd_58t, okd_str, okds_items, okds_nil], ?_⟩
    rw [show fitsB (.tup [.int 1, .tup [.tup (.str w0 :: itemsOf ws)]]) = isRun (.tup (.str w0 :: itemsOf ws)) by simp [fitsB, isInt]]
    walk_at "dl"
    cases q : isRun (.tup (.str w0 :: itemsOf ws)) with
    | true =>
      rw [q] at h
      walk_at "dl"
      exact h
    | false =>
      rw [q] at h
      walk_at "dl"
      exact h
end DL
set_option Elab.async false
set_option linter.all false
set_option maxRecDepth 100000
set_option maxHeartbeats 4000000
set_option autoImplicit false
/-! Law k12: the law's lines. -/
namespace DL
open PySem PySem.Spec PyProof.Rows L2 TL
local macro_rules | `(tactic| walk_at "dl") => `(tactic| (try simp only [sSeq, sSet, sRet, sRetN, sIf, sNil, sDrop, sFor, sTo, sPar2, sPar3, sNever, sRaise, sSetIx, dVar, dC, dVarL, dDat, dVal, valK_dat, valK_ob, dBin, dUn, dNil, dCons, dats, dTup, dLst, dNew, dNewOf, dTest, dtAnd, dtOr, dtNot, dAnd, dOr, dNot, dIf, dChain, dCB, dSl, dNo, dSo, sApp, dIxO, dLenO, dMaxD, dGetP, dCall, dSeq, dRng1, dRng2, dZip, dEnum, gNm, gTp, gCs, gNl, dYes,
  startD, endsOf, retD, wipeS, gAdd, gSub, gMul, gMulA, gMulB, gDiv, gMod, gPow, gNeg, gLt, gLe, gGt, gGe, gEq, gNe, gIn, gIx, gSl, gIsi, tyD, isiD, gLen, gAbs, gInt, gMax2, gMin2, gTuple, gList, gIsN, isNon, gIsB, gNotB,
  List.getElem?_cons_zero, List.getElem?_cons_succ, List.getElem?_nil, List.set_cons_zero, List.set_cons_succ, List.map_cons, List.map_nil, List.cons_append, List.nil_append, List.length_cons, List.length_nil, List.replicate_succ, List.replicate_zero, Option.map_some, Nat.reduceSub, Nat.reduceAdd, Nat.reduceLeDiff,
  List.take_length, beq_self_eq_true, String.reduceBEq, Bool.or_true, Bool.true_or, Bool.or_false, Bool.false_or, Bool.and_true, Bool.and_false, Bool.true_and, Bool.false_and, Bool.or_self, Bool.and_self, decide_true, decide_false, dmem, List.any_cons, List.any_nil, okd_non, okd_bl, okd_int, okd_str, okds_nil, okds_cons, okd_60t, okd_59t, okd_58t, okd_60l, okd_59l, okd_58l, st_tk, st_tb, st_tf, st_kt, st_kb, st_kf, st_bt, st_bk, st_bf, st_ft, st_fk, st_fb, nat_num, Int.reduceBEq, Int.reduceBNe, Int.reduceEq, Int.reduceLT, Int.reduceLE, Int.reduceAdd, Int.reduceSub, Int.reduceMul, Int.reduceNeg, Int.reduceToNat, Int.reducePow, atI_0, atI_1, atI_2, set_last, get_last, take_last, deq_str, deq_int, deq_non, deq_bl, deq_tt, deq_ll, deqs_nn, deqs_cc, deqs_nc, deqs_cn, Nat.lt_irrefl, List.set_set, ixN_20, ixN_21, tupI, okds_ints, atI_map', List.length_map, cutL_map, eq_self, if_true, if_false, ite_true, ite_false, Bool.false_eq_true, decide_eq_true_eq, true_and, and_true, and_self, Bool.not_true, Bool.not_false, true_or, or_true, false_or, or_false, Option.some.injEq, reduceCtorEq]))
def bKs : List Str := ["gap", "to", "bark", "back", "front"]
def bDs : List D := [.lst [.tup [.int 1, .int 9]], .lst [.tup [.int 0, .int 1000000000000]], .lst [.tup [.int 1, .int 1000000000000]], .lst [.tup [.int 0, .int 3], .tup [.int 1, .int 1000000000000]], .lst [.tup [.int 0, .int 3], .tup [.int 1, .int 1000000000000]]]
theorem numIn_opt (w : Str) (lo hi : Int) : optI (numIn w lo hi) = if isInt (optI (numW w)) lo hi = true then optI (numW w) else .non := by
  unfold numIn
  cases q : numW w with
  | none => simp [optI, isInt]
  | some n =>
    rw [Option.bind_some]
    by_cases c : lo ≤ (n : Int) ∧ (n : Int) ≤ hi
    · rw [if_pos c, if_pos (by simp [optI, isInt, c.1, c.2])]
    · rw [if_neg c, if_neg (by simp [optI, isInt]; omega)]
      rfl
theorem num_cases (w : Str) (lo hi : Int) : (optI (numIn w lo hi) = .non ∧ isInt (optI (numW w)) lo hi = false) ∨ ∃ n : Nat, optI (numIn w lo hi) = .int n ∧ isInt (optI (numW w)) lo hi = true ∧ optI (numW w) = .int n := by
  have no := numIn_opt w lo hi
  cases q : isInt (optI (numW w)) lo hi with
  | false =>
    rw [q, if_neg (by simp)] at no
    exact .inl ⟨no, rfl⟩
  | true =>
    rw [q, if_pos rfl] at no
    cases r : numW w with
    | none => rw [r] at q; simp [optI, isInt] at q
    | some n =>
      rw [r] at no
      exact .inr ⟨n, no, rfl, rfl⟩
theorem line_cases (w0 : Str) (ws : List Str) : (∃ lo hi : Int, (getA bKs bDs w0).getD .non = .lst [.tup [.int lo, .int hi]] ∧ (∀ a, lineD [w0, a] = if isInt (optI (numW a)) lo hi = true then .tup [.str w0, optI (numW a)] else .non) ∧ (ws.length ≠ 1 → lineD (w0 :: ws) = .non)) ∨
    ((getA bKs bDs w0).getD .non = .lst [.tup [.int 0, .int 3], .tup [.int 1, .int 1000000000000]] ∧ (∀ a b, lineD [w0, a, b] = if isInt (optI (numW a)) 0 3 = true ∧ isInt (optI (numW b)) 1 1000000000000 = true then .tup [.str w0, optI (numW a), optI (numW b)] else .non) ∧ (ws.length ≠ 2 → lineD (w0 :: ws) = .non)) ∨
    ((getA bKs bDs w0).getD .non = .non ∧ lineD (w0 :: ws) = .non) := by
  have li : (itemsOf ws).length = ws.length := by simp [itemsOf]
  by_cases h1 : w0 = "gap"
  · subst h1
    refine .inl ⟨1, 9, by simp (decide := true) [getA, bKs, bDs], fun a => ?_, fun n => ?_⟩
    · simp [lineD, itemsOf]
    · simp only [lineD, if_true]
      split
      · rename_i x hx
        have := congrArg List.length hx
        rw [li] at this
        exact absurd this n
      · rfl
  have run1 : ∀ x : D, isRun (.tup [.str w0, x]) = ((w0 == "to" && isInt x 0 1000000000000) || (w0 == "bark" && isInt x 1 1000000000000)) := fun x => rfl
  have run2 : ∀ x y : D, isRun (.tup [.str w0, x, y]) = ((w0 == "back" || w0 == "front") && isInt x 0 3 && isInt y 1 1000000000000) := fun x y => rfl
  have run0 : isRun (.tup [.str w0]) = false := rfl
  have run3 : ∀ (x y z : D) (r : List D), isRun (.tup (.str w0 :: x :: y :: z :: r)) = false := fun x y z r => rfl
  have len : (itemsOf ws = [] ∧ ws.length = 0) ∨ (∃ x, itemsOf ws = [x] ∧ ws.length = 1) ∨ (∃ x y, itemsOf ws = [x, y] ∧ ws.length = 2) ∨ ∃ x y z r, itemsOf ws = x :: y :: z :: r := by
    cases e : itemsOf ws with
    | nil => exact .inl ⟨rfl, by rw [← li, e]; rfl⟩
    | cons x l =>
      cases l with
      | nil => exact .inr (.inl ⟨x, rfl, by rw [← li, e]; rfl⟩)
      | cons y l =>
        cases l with
        | nil => exact .inr (.inr (.inl ⟨x, y, rfl, by rw [← li, e]; rfl⟩))
        | cons z l => exact .inr (.inr (.inr ⟨x, y, z, l, rfl⟩))
  have L : lineD (w0 :: ws) = if isRun (.tup (.str w0 :: itemsOf ws)) = true then .tup (.str w0 :: itemsOf ws) else .non := by rw [lineD, if_neg h1]
  have L1 : ∀ a, lineD [w0, a] = if isRun (.tup [.str w0, optI (numW a)]) = true then .tup [.str w0, optI (numW a)] else .non := fun a => by rw [lineD, if_neg h1]; rfl
  have L2 : ∀ a b, lineD [w0, a, b] = if isRun (.tup [.str w0, optI (numW a), optI (numW b)]) = true then .tup [.str w0, optI (numW a), optI (numW b)] else .non := fun a b => by rw [lineD, if_neg h1]; rfl
  by_cases h2 : w0 = "to"
  · subst h2
    refine .inl ⟨0, 1000000000000, by simp (decide := true) [getA, bKs, bDs], fun a => ?_, fun n => ?_⟩
    · rw [L1, run1]
      simp (decide := true)
    · rw [L]
      rcases len with ⟨e, _⟩ | ⟨x, e, k⟩ | ⟨x, y, e, _⟩ | ⟨x, y, z, r, e⟩
      · rw [e, run0]; rfl
      · exact absurd k n
      · rw [e, run2]; simp (decide := true)
      · rw [e, run3]; rfl
  by_cases h3 : w0 = "bark"
  · subst h3
    refine .inl ⟨1, 1000000000000, by simp (decide := true) [getA, bKs, bDs], fun a => ?_, fun n => ?_⟩
    · rw [L1, run1]
      simp (decide := true)
    · rw [L]
      rcases len with ⟨e, _⟩ | ⟨x, e, k⟩ | ⟨x, y, e, _⟩ | ⟨x, y, z, r, e⟩
      · rw [e, run0]; rfl
      · exact absurd k n
      · rw [e, run2]; simp (decide := true)
      · rw [e, run3]; rfl
  by_cases h4 : w0 = "back" ∨ w0 = "front"
  · have hb : (w0 == "back" || w0 == "front") = true := by
      rcases h4 with rfl | rfl <;> decide
    refine .inr (.inl ⟨by rcases h4 with rfl | rfl <;> simp (decide := true) [getA, bKs, bDs], fun a b => ?_, fun n => ?_⟩)
    · rw [L2, run2, hb]
      simp
    · rw [L]
      rcases len with ⟨e, _⟩ | ⟨x, e, k⟩ | ⟨x, y, e, k⟩ | ⟨x, y, z, r, e⟩
      · rw [e, run0]; rfl
      · rw [e, run1, show (w0 == "to") = false by simpa using h2, show (w0 == "bark") = false by simpa using h3]
        rfl
      · exact absurd k n
      · rw [e, run3]; rfl
  · have h5 : ¬ w0 = "back" := fun z => h4 (.inl z)
    have h6 : ¬ w0 = "front" := fun z => h4 (.inr z)
    refine .inr (.inr ⟨?_, ?_⟩)
    · rw [getA_none]
      · rfl
      · simp [bKs, h1, h2, h3, h5, h6]
    · rw [L]
      rcases len with ⟨e, _⟩ | ⟨x, e, k⟩ | ⟨x, y, e, k⟩ | ⟨x, y, z, r, e⟩
      · rw [e, run0]; rfl
      · rw [e, run1, show (w0 == "to") = false by simpa using h2, show (w0 == "bark") = false by simpa using h3]
        rfl
      · rw [e, run2, show (w0 == "back") = false by simpa using h5, show (w0 == "front") = false by simpa using h6]
        rfl
      · rw [e, run3]; rfl
/-- slots: 0 _law_line_here, 1 _law_words, 2 _law_least, 3 _law_word_here, 4 _law_bounds_so, 5 _law_found, 6 _law_pair, 7 _law_number_here -/
def B_l_line : DS :=
  (sSeq (sSet 1 (dDat (dM1 gSplit (dVar 0) (dC (.str " ")))))
  (sSeq (sSet 2 (dDict [("gap", (dLst (dCons (dDat (dTup (dCons (dDat (dC (.int 1))) (dCons (dDat (dC (.int 9))) dNil)))) dNil))), ("to", (dLst (dCons (dDat (dTup (dCons (dDat (dC (.int 0))) (dCons (dDat (dBin gPow (dC (.int 10)) (dC (.int 12)))) dNil)))) dNil))), ("bark", (dLst (dCons (dDat (dTup (dCons (dDat (dC (.int 1))) (dCons (dDat (dBin gPow (dC (.int 10)) (dC (.int 12)))) dNil)))) dNil)))]))
  (sSeq (sFor (dSeq (dLst (dCons (dDat (dC (.str "back"))) (dCons (dDat (dC (.str "front"))) dNil)))) (gNm 3) (sSetD 2 (dVar 3) (dLst (dCons (dDat (dTup (dCons (dDat (dC (.int 0))) (dCons (dDat (dC (.int 3))) dNil)))) (dCons (dDat (dTup (dCons (dDat (dC (.int 1))) (dCons (dDat (dBin gPow (dC (.int 10)) (dC (.int 12)))) dNil)))) dNil)))))
  (sSeq (sSet 4 (dDat (dGetD 2 (dBin gIx (dVar 1) (dC (.int 0))) (dC .non))))
  (sSeq (sIf (dtOr (dTest (dBin (gIsN false) (dVar 4) (dC .non))) (dTest (dBin gNe (dCB gLen (dCons (dDat (dVar 1)) dNil)) (dBin gAdd (dCB gLen (dCons (dDat (dVar 4)) dNil)) (dC (.int 1)))))) (sRet (dDat (dC .non))) sNil)
  (sSeq (sSet 5 (dDat (dTup (dCons (dDat (dBin gIx (dVar 1) (dC (.int 0)))) dNil))))
  (sSeq (sFor (dZip (dCons (dDat (dSl (dVar 1) (dSo (dC (.int 1))) dNo)) (dCons (dDat (dVar 4)) dNil))) (gTp 2 (gCs (gNm 3) (gCs (gNm 6) gNl))) (sSeq (sSet 7 (dDat (dVal (dCall 3 S_l_number (dCons (dDat (dVar 3)) (dCons (dDat (dBin gIx (dVar 6) (dC (.int 0)))) (dCons (dDat (dBin gIx (dVar 6) (dC (.int 1)))) dNil)))))))
  (sSeq (sIf (dTest (dBin (gIsN false) (dVar 7) (dC .non))) (sRet (dDat (dC .non))) sNil)
  (sSet 5 (dDat (dBin gAdd (dVar 5) (dTup (dCons (dDat (dVar 7)) dNil))))))))
  (sRet (dDat (dVar 5))))))))))
def S_l_line : DF := fun ss T Q _ => ∃ l : Str, ss = [.dat (.str l)] ∧ l.length ≤ 100000 ∧ Q (.dat (lineD (Txt.split l " "))) T
theorem h_l_line : ∀ (ss : List Sl) (T : List Ob) (Q : Sl → List Ob → Prop) (QX : Xn → List Ob → Prop), ss.length = 1 → S_l_line ss T Q QX → B_l_line (endsOf T.length Q QX) (startD 8 1 ss T) := by
  intro ss T Q QX hl h
  obtain ⟨l, rfl, hw, h⟩ := h
  obtain ⟨⟨w0, ws, e⟩, hlen⟩ := split_facts (x := l) (y := " ") (by decide) (by first | rfl | decide +kernel)
  have nw : (Txt.split l " ").length ≤ l.length + 2 := split_le l " "
  unfold B_l_line
  walk_at "dl"
  simp only [dM1, gSplit]
  walk_at "dl"
  refine ⟨⟨l, rfl⟩, ⟨by decide, by rw [sizeLine_eq]; omega⟩, ?_⟩
  rw [e] at nw hlen h
  rw [e]
  walk_at "dl"
  simp only [dDict, dPs]
  walk_at "dl"
  have pw : CPow 10 12 := by unfold CPow; decide
  refine ⟨pw, pw, rfl, ?_⟩
  unfold loopD
  simp only [sSetD]
  walk_at "dl"
  refine ⟨pw, by decide, ?_⟩
  rw [show putO [Str.ofString "gap", Str.ofString "to", Str.ofString "bark"] [D.lst [D.tup [D.int 1, D.int 9]], D.lst [D.tup [D.int 0, D.int 1000000000000]], D.lst [D.tup [D.int 1, D.int 1000000000000]]] (Str.ofString "back") (D.lst [D.tup [D.int 0, D.int 3], D.tup [D.int 1, D.int 1000000000000]]) =
    .dic [Str.ofString "gap", Str.ofString "to", Str.ofString "bark", Str.ofString "back"] [D.lst [D.tup [D.int 1, D.int 9]], D.lst [D.tup [D.int 0, D.int 1000000000000]], D.lst [D.tup [D.int 1, D.int 1000000000000]], D.lst [D.tup [D.int 0, D.int 3], D.tup [D.int 1, D.int 1000000000000]]] from by rw [putO, if_neg (by decide)]; rfl]
  unfold loopD
  simp only [sSetD]
  walk_at "dl"
  refine ⟨pw, ?_⟩
  rw [show putO [Str.ofString "gap", Str.ofString "to", Str.ofString "bark", Str.ofString "back"] [D.lst [D.tup [D.int 1, D.int 9]], D.lst [D.tup [D.int 0, D.int 1000000000000]], D.lst [D.tup [D.int 1, D.int 1000000000000]], D.lst [D.tup [D.int 0, D.int 3], D.tup [D.int 1, D.int 1000000000000]]] (Str.ofString "front") (D.lst [D.tup [D.int 0, D.int 3], D.tup [D.int 1, D.int 1000000000000]]) =
    .dic bKs bDs from by rw [putO, if_neg (by decide)]; rfl]
  try simp only [dGetD]
  walk_at "dl"
  refine ⟨⟨bKs, bDs, by simp⟩, ?_⟩
  have ln : ((ws.length + 1 : Nat) : Int) = (ws.length : Int) + 1 := by omega
  rcases line_cases w0 ws with ⟨lo, hi, g, f1, f2⟩ | ⟨g, f1, f2⟩ | ⟨g, f⟩
  · rw [g]
    walk_at "dl"
    by_cases n1 : ws.length = 1
    · obtain ⟨a, rfl⟩ := List.length_eq_one_iff.mp n1
      walk_at "dl"
      rw [if_neg (by decide), show cutL [D.str w0, D.str a] (some 1) none = [D.str a] from cut_from _ (by decide)]
      rw [show zipD [D.str a] [D.tup [D.int lo, D.int hi]] = [.tup [D.str a, D.tup [D.int lo, D.int hi]]] from rfl]
      unfold loopD
      walk_at "dl"
      refine ⟨a, lo, hi, rfl, by have := hlen a (by simp); omega, ?_⟩
      rw [f1] at h
      rcases num_cases a lo hi with ⟨e1, e2⟩ | ⟨n, e1, e2, e3⟩
      · rw [e1]
        rw [e2] at h
        walk_at "dl"
        exact h
      · rw [e1]
        rw [e2, e3] at h
        walk_at "dl"
        refine ⟨by rw [sizeLine_eq]; decide, ?_⟩
        unfold loopD
        walk_at "dl"
        exact h
    · rw [f2 n1] at h
      rw [if_pos (by simp; omega)]
      exact h
  · rw [g]
    walk_at "dl"
    by_cases n2 : ws.length = 2
    · obtain ⟨a, b, rfl⟩ : ∃ a b, ws = [a, b] := by
        cases ws with
        | nil => simp at n2
        | cons a r =>
          cases r with
          | nil => simp at n2
          | cons b r =>
            cases r with
            | nil => exact ⟨a, b, rfl⟩
            | cons _ _ => simp at n2
      walk_at "dl"
      rw [if_neg (by decide), show cutL [D.str w0, D.str a, D.str b] (some 1) none = [D.str a, D.str b] from cut_from _ (by decide)]
      rw [show zipD [D.str a, D.str b] [D.tup [D.int 0, D.int 3], D.tup [D.int 1, D.int 1000000000000]] = [.tup [D.str a, D.tup [D.int 0, D.int 3]], .tup [D.str b, D.tup [D.int 1, D.int 1000000000000]]] from rfl]
      unfold loopD
      walk_at "dl"
      refine ⟨a, 0, 3, rfl, by have := hlen a (by simp); omega, ?_⟩
      rw [f1] at h
      rcases num_cases a 0 3 with ⟨e1, e2⟩ | ⟨n, e1, e2, e3⟩
      · rw [e1]
        rw [e2] at h
        walk_at "dl"
        exact h
      · rw [e1]
        walk_at "dl"
        refine ⟨by rw [sizeLine_eq]; decide, ?_⟩
        unfold loopD
        walk_at "dl"
        refine ⟨b, 1, 1000000000000, rfl, by have := hlen b (by simp); omega, ?_⟩
        rcases num_cases b 1 1000000000000 with ⟨e4, e5⟩ | ⟨m, e4, e5, e6⟩
        · rw [e4]
          rw [e5, if_neg (fun z => Bool.false_ne_true z.2)] at h
          walk_at "dl"
          exact h
        · rw [e4]
          rw [e2, e3, e5, e6] at h
          walk_at "dl"
          refine ⟨by rw [sizeLine_eq]; decide, ?_⟩
          unfold loopD
          walk_at "dl"
          exact h
    · rw [f2 n2] at h
      rw [if_pos (by simp; omega)]
      exact h
  · rw [g]
    walk_at "dl"
    rw [f] at h
    exact h
end DL
set_option Elab.async false
set_option linter.all false
set_option maxRecDepth 100000
set_option maxHeartbeats 4000000
set_option autoImplicit false
/-! Law k12: texts of drills, read. -/
namespace DL
open PySem PySem.Spec PyProof.Rows L2 TL
local macro_rules | `(tactic| walk_at "dl") => `(tactic| (try simp only [sSeq, sSet, sRet, sRetN, sIf, sNil, sDrop, sFor, sTo, sPar2, sPar3, sNever, sRaise, sSetIx, dVar, dC, dVarL, dDat, dVal, valK_dat, valK_ob, dBin, dUn, dNil, dCons, dats, dTup, dLst, dNew, dNewOf, dTest, dtAnd, dtOr, dtNot, dAnd, dOr, dNot, dIf, dChain, dCB, dSl, dNo, dSo, sApp, dIxO, dLenO, dMaxD, dGetP, dCall, dSeq, dRng1, dRng2, dZip, dEnum, gNm, gTp, gCs, gNl, dYes,
  startD, endsOf, retD, wipeS, gAdd, gSub, gMul, gMulA, gMulB, gDiv, gMod, gPow, gNeg, gLt, gLe, gGt, gGe, gEq, gNe, gIn, gIx, gSl, gIsi, tyD, isiD, gLen, gAbs, gInt, gMax2, gMin2, gTuple, gList, gIsN, isNon, gIsB, gNotB,
  List.getElem?_cons_zero, List.getElem?_cons_succ, List.getElem?_nil, List.set_cons_zero, List.set_cons_succ, List.map_cons, List.map_nil, List.cons_append, List.nil_append, List.length_cons, List.length_nil, List.replicate_succ, List.replicate_zero, Option.map_some, Nat.reduceSub, Nat.reduceAdd, Nat.reduceLeDiff,
  List.take_length, beq_self_eq_true, String.reduceBEq, Bool.or_true, Bool.true_or, Bool.or_false, Bool.false_or, Bool.and_true, Bool.and_false, Bool.true_and, Bool.false_and, Bool.or_self, Bool.and_self, decide_true, decide_false, dmem, List.any_cons, List.any_nil, okd_non, okd_bl, okd_int, okd_str, okds_nil, okds_cons, okd_60t, okd_59t, okd_58t, okd_60l, okd_59l, okd_58l, st_tk, st_tb, st_tf, st_kt, st_kb, st_kf, st_bt, st_bk, st_bf, st_ft, st_fk, st_fb, nat_num, Int.reduceBEq, Int.reduceBNe, Int.reduceEq, Int.reduceLT, Int.reduceLE, Int.reduceAdd, Int.reduceSub, Int.reduceMul, Int.reduceNeg, Int.reduceToNat, Int.reducePow, atI_0, atI_1, atI_2, set_last, get_last, take_last, deq_str, deq_int, deq_non, deq_bl, deq_tt, deq_ll, deqs_nn, deqs_cc, deqs_nc, deqs_cn, Nat.lt_irrefl, List.set_set, ixN_20, ixN_21, tupI, okds_ints, atI_map', List.length_map, cutL_map, eq_self, if_true, if_false, ite_true, ite_false, Bool.false_eq_true, decide_eq_true_eq, true_and, and_true, and_self, Bool.not_true, Bool.not_false, true_or, or_true, false_or, or_false, Option.some.injEq, reduceCtorEq]))
/-- what a row is: None, or a word and one or two numbers -/
def RowD (d : D) : Prop := d = .non ∨ (∃ (w : Str) (n : Nat), d = .tup [.str w, .int n] ∧ w ∈ bKs) ∨ ∃ (w : Str) (n m : Nat), d = .tup [.str w, .int n, .int m] ∧ w ∈ bKs
theorem getD_mem {w : Str} {x : D} (h : (getA bKs bDs w).getD .non = .lst [x] ∨ ∃ y, (getA bKs bDs w).getD .non = .lst [x, y]) : w ∈ bKs := by
  by_cases m : w ∈ bKs
  · exact m
  · rw [getA_none m] at h
    rcases h with h | ⟨_, h⟩ <;> cases h
theorem lineD_shape (ws : List Str) : RowD (lineD ws) := by
  cases ws with
  | nil => exact .inl rfl
  | cons w0 ws =>
    rcases line_cases w0 ws with ⟨lo, hi, g, f1, f2⟩ | ⟨g, f1, f2⟩ | ⟨_, f⟩
    · by_cases n : ws.length = 1
      · obtain ⟨a, rfl⟩ := List.length_eq_one_iff.mp n
        rw [f1]
        rcases num_cases a lo hi with ⟨_, e2⟩ | ⟨n, _, e2, e3⟩
        · rw [e2]
          exact .inl rfl
        · rw [e2, e3, if_pos rfl]
          exact .inr (.inl ⟨w0, n, rfl, getD_mem (.inl g)⟩)
      · exact .inl (f2 n)
    · by_cases n : ws.length = 2
      · obtain ⟨a, b, rfl⟩ : ∃ a b, ws = [a, b] := by
          cases ws with
          | nil => simp at n
          | cons a r =>
            cases r with
            | nil => simp at n
            | cons b r =>
              cases r with
              | nil => exact ⟨a, b, rfl⟩
              | cons _ _ => simp at n
        rw [f1]
        rcases num_cases a 0 3 with ⟨_, e2⟩ | ⟨n, _, e2, e3⟩
        · rw [e2]
          exact .inl rfl
        · rcases num_cases b 1 1000000000000 with ⟨_, e4⟩ | ⟨m, _, e4, e5⟩
          · rw [e4]
            rw [if_neg (by simp)]
            exact .inl rfl
          · rw [e2, e3, e4, e5, if_pos ⟨rfl, rfl⟩]
            exact .inr (.inr ⟨w0, n, m, rfl, getD_mem (.inr ⟨_, g⟩)⟩)
      · exact .inl (f2 n)
    · exact .inl f
theorem bKs_ok {w : Str} (h : w ∈ bKs) : PyData.strOk w = true := by
  simp only [bKs, List.mem_cons, List.not_mem_nil, or_false] at h
  rcases h with rfl | rfl | rfl | rfl | rfl <;> decide +kernel
theorem row_okd {d : D} (h : RowD d) (n : Nat) : okd (n + 1) d = true := by
  rcases h with rfl | ⟨w, n, rfl, _⟩ | ⟨w, n, m, rfl, _⟩ <;> simp [okd, okds]
theorem row_can {d : D} (h : RowD d) : (toP d).canLay0 = true ∧ (toP d).depth ≤ 1 := by
  rcases h with rfl | ⟨w, n, rfl, hw⟩ | ⟨w, n, m, rfl, hw⟩
  · exact ⟨rfl, by decide⟩
  · have := bKs_ok hw
    exact ⟨by simp [toP, toPs, PyData.canLay0, PyData.canLayAll0, this], by simp [toP, toPs, PyData.depth, PyData.depthAll]⟩
  · have := bKs_ok hw
    exact ⟨by simp [toP, toPs, PyData.canLay0, PyData.canLayAll0, this], by simp [toP, toPs, PyData.depth, PyData.depthAll]⟩
theorem rows_can : ∀ (rows : List D), (∀ d ∈ rows, RowD d) → PyData.canLayAll0 (toPs rows) = true ∧ PyData.depthAll (toPs rows) ≤ 1
  | [], _ => ⟨rfl, by simp [toPs, PyData.depthAll]⟩
  | d :: r, h => by
    have a := row_can (h d (by simp))
    have b := rows_can r fun d' h' => h d' (by simp [h'])
    exact ⟨by simp [toPs, PyData.canLayAll0, a.1, b.1], by have a2 := a.2; have b2 := b.2; simp only [toPs, PyData.depthAll]; exact Nat.max_le.mpr ⟨a2, b2⟩⟩
theorem rows_shaped {rows : List D} (h : ∀ d ∈ rows, RowD d) : SeqAt.shaped (.list (toPs rows)) = true := by
  have a := rows_can rows h
  show (PyData.canLayAll0 (toPs rows) && decide (PyData.depthAll (toPs rows) + 1 ≤ 64)) = true
  rw [a.1, decide_eq_true (by have := a.2; omega)]
  rfl
theorem rows_okds {rows : List D} (h : ∀ d ∈ rows, RowD d) (n : Nat) : okds (n + 1) rows = true := (okds_iff _ _).mpr fun d hd => row_okd (h d hd) n
def rowsD (x : Str) : List D := (Txt.split x "\n").map fun l => lineD (Txt.split l " ")
def nonD : D → Bool
  | .non => true
  | _ => false
def hd0 : D → D
  | .tup (a :: _) => a
  | _ => .non
def hd1 : D → D
  | .tup (_ :: a :: _) => a
  | _ => .non
def gapB : D → Bool
  | .tup (.str w :: _) => w == "gap"
  | _ => false
/-- the drill of a text, or the line that is no such -/
def drillR (rows : List D) : Nat ⊕ D :=
  if rows.any nonD = true then .inl (rows.findIdx nonD + 1) else
  match rows with
  | [] => .inl 1
  | r0 :: r => if gapB r0 = true ∧ r.any gapB = false ∧ fitsB (.tup [hd1 r0, .tup r]) = true then .inr (.tup [hd1 r0, .tup r]) else .inl (rows.length + 1)
def strD : D → Bool
  | .str _ => true
  | _ => false
theorem rowsD_row (x : Str) : ∀ d ∈ rowsD x, RowD d := fun d hd => by
  obtain ⟨l, _, rfl⟩ := List.mem_map.mp hd
  exact lineD_shape _
theorem row_non {d : D} (h : RowD d) : deq d .non = nonD d := by
  rcases h with rfl | ⟨w, n, rfl, _⟩ | ⟨w, n, m, rfl, _⟩ <;> rfl
theorem any_non : ∀ (rows : List D), (∀ d ∈ rows, RowD d) → (rows.any fun z => deq z .non) = rows.any nonD
  | [], _ => rfl
  | d :: r, h => by rw [List.any_cons, List.any_cons, any_non r fun d' h' => h d' (by simp [h']), row_non (h d (by simp))]
/-- the first row that is none -/
theorem find_non {rows : List D} (h : ∀ d ∈ rows, RowD d) (q : rows.any nonD = true) : (rows[rows.findIdx nonD]?.map fun z => deq z .non) = some true ∧ ∀ m z, m < rows.findIdx nonD → rows[m]? = some z → deq z .non = false := by
  have lt : rows.findIdx nonD < rows.length := List.findIdx_lt_length_of_exists (by simpa using q)
  constructor
  · rw [List.getElem?_eq_getElem lt, Option.map_some, row_non (h _ (List.getElem_mem lt)), List.findIdx_getElem (w := lt)]
  · intro m z hm hz
    have hm' : m < rows.length := Nat.lt_trans hm lt
    rw [List.getElem?_eq_getElem hm'] at hz
    cases hz
    rw [row_non (h _ (List.getElem_mem hm'))]
    simpa using List.not_of_lt_findIdx hm
theorem row_some {d : D} (h : RowD d) (n : nonD d = false) : ∃ (w : Str) (k : Nat) (r : List D), d = .tup (.str w :: .int k :: r) := by
  rcases h with rfl | ⟨w, k, rfl, _⟩ | ⟨w, k, m, rfl, _⟩
  · cases n
  · exact ⟨w, k, [], rfl⟩
  · exact ⟨w, k, [.int m], rfl⟩
theorem any_gap : ∀ (rows : List D), (∀ d ∈ rows, RowD d ∧ nonD d = false) → ((rows.map hd0).any fun z => deq z (.str "gap")) = rows.any gapB
  | [], _ => rfl
  | d :: r, h => by
    obtain ⟨w, k, l, rfl⟩ := row_some (h d (by simp)).1 (h d (by simp)).2
    rw [List.map_cons, List.any_cons, List.any_cons, any_gap r fun d' h' => h d' (by simp [h'])]
    rfl
/-- slots: 0 value, 1 rows, 2 found, 3 line, 4 row -/
def B_drill_in : DS :=
  (sSeq (sIf (dtNot (dTest (dCB gIsi (dCons (dDat (dVar 0)) (dCons (dDat (dC (.raw (.ty "str")))) dNil))))) (sRaiseF "InvalidText" "line" (dC (.int 0))) sNil)
  (sSeq (sSet 1 (dDat (dComp (dSeq (dM1 gSplit (dVar 0) (dC (.str "\n")))) (gNm 3) dYes (dVal (dCall 1 S_line_in (dCons (dDat (dVar 3)) dNil))) [3])))
  (sSeq (sIf (dTest (dBin (gIn false) (dC .non) (dVar 1))) (sRaiseF "InvalidText" "line" (dBin gAdd (dBM1 gIndex (dVar 1) (dC .non)) (dC (.int 1)))) sNil)
  (sSeq (sSet 2 (dDat (dTup (dCons (dDat (dBin gIx (dBin gIx (dVar 1) (dC (.int 0))) (dC (.int 1)))) (dCons (dDat (dCB gTuple (dCons (dDat (dSl (dVar 1) (dSo (dC (.int 1))) dNo)) dNil))) dNil)))))
  (sSeq (sIf (dtOr (dTest (dBin gNe (dBin gIx (dBin gIx (dVar 1) (dC (.int 0))) (dC (.int 0))) (dC (.str "gap")))) (dtOr (dTest (dBin (gIn false) (dC (.str "gap")) (dComp (dSeq (dSl (dVar 1) (dSo (dC (.int 1))) dNo)) (gNm 4) dYes (dBin gIx (dVar 4) (dC (.int 0))) [4]))) (dtNot (dTest (dVal (dCall 1 S_fits (dCons (dDat (dVar 2)) dNil))))))) (sRaiseF "InvalidText" "line" (dBin gAdd (dCB gLen (dCons (dDat (dVar 1)) dNil)) (dC (.int 1)))) sNil)
  (sRet (dDat (dVar 2))))))))
def S_drill_in : DF := fun ss T Q QX => (∃ x : Str, ss = [.dat (.str x)] ∧ x.length ≤ 1000 ∧ match drillR (rowsD x) with
    | .inr d => Q (.dat d) T
    | .inl n => QX ⟨"InvalidText", some ("line", .int n)⟩ T) ∨ ∃ d : D, ss = [.dat d] ∧ okd 60 d = true ∧ strD d = false ∧ QX ⟨"InvalidText", some ("line", .int 0)⟩ T
theorem h_drill_in : ∀ (ss : List Sl) (T : List Ob) (Q : Sl → List Ob → Prop) (QX : Xn → List Ob → Prop), ss.length = 1 → S_drill_in ss T Q QX → B_drill_in (endsOf T.length Q QX) (startD 5 1 ss T) := by
  intro ss T Q QX hl h
  rcases h with ⟨x, rfl, hx, h⟩ | ⟨d, rfl, ok, ns, h⟩
  rotate_left
  · unfold B_drill_in
    walk_at "dl"
    cases d with
    | str _ => cases ns
    | raw _ => simp [okd] at ok
    | scr _ => simp [okd] at ok
    | fn _ => simp [okd] at ok
    | err _ _ => simp [okd] at ok
    | _ =>
      walk_at "dl"
      simp only [sRaiseF]
      walk_at "dl"
      exact h
  · obtain ⟨⟨l0, ls, e⟩, hlen⟩ := split_facts (x := x) (y := "\n") (by decide) (by first | rfl | decide +kernel)
    have nl : (Txt.split x "\n").length ≤ x.length + 2 := split_le x "\n"
    unfold B_drill_in
    walk_at "dl"
    rw [dComp_eq]
    walk_at "dl"
    simp only [dM1, gSplit]
    walk_at "dl"
    refine ⟨⟨x, rfl⟩, ⟨by decide, by rw [sizeLine_eq]; omega⟩, ?_⟩
    refine compK_pure (fun d => match d with
      | .str l => some (lineD (Txt.split l " "))
      | _ => none) [some (.dat (.str x)), none, none, none, none] rfl rfl rfl (by rw [List.length_map, sizeLine_eq]; omega) ?_ ?_
    · intro d hd acc R hR
      obtain ⟨l, hl', rfl⟩ := List.mem_map.mp hd
      walk_at "dl"
      refine ⟨l, rfl, by have := hlen l hl'; omega, ?_⟩
      walk_at "dl"
      exact hR _ rfl
    rw [show ((Txt.split x (Str.ofString "\n")).map D.str).filterMap (fun d => match d with
      | .str l => some (lineD (Txt.split l " "))
      | _ => none) = rowsD x by
      rw [List.filterMap_map, rowsD, ← List.filterMap_eq_map]
      rfl]
    walk_at "dl"
    have rw0 := rowsD_row x
    refine ⟨rows_okds rw0 59, ?_⟩
    rw [any_non _ rw0]
    cases q : (rowsD x).any nonD with
    | true =>
      unfold drillR at h
      rw [if_pos q] at h
      simp only [sRaiseF, dBM1, gIndex]
      walk_at "dl"
      obtain ⟨f1, f2⟩ := find_non rw0 q
      refine ⟨⟨_, rfl⟩, rfl, rows_okds rw0 58, rows_shaped rw0, rfl, _, f1, f2, ?_⟩
      walk_at "dl"
      simpa using h
    | false =>
      have er : rowsD x = lineD (Txt.split l0 " ") :: ls.map fun l => lineD (Txt.split l " ") := by
        show (Txt.split x (Str.ofString "\n")).map _ = _
        rw [e]
        rfl
      revert rw0 q h
      rw [er]
      have lr : (ls.map fun l => lineD (Txt.split l (Str.ofString " "))).length ≤ 1002 := by
        rw [e] at nl
        simp at nl ⊢
        omega
      revert lr
      generalize lineD (Txt.split l0 (Str.ofString " ")) = r0
      generalize (ls.map fun l => lineD (Txt.split l (Str.ofString " "))) = rs
      intro lr h rw0 q
      rw [List.any_cons, Bool.or_eq_false_iff] at q
      have rs0 : ∀ d ∈ rs, RowD d ∧ nonD d = false := fun d hd => ⟨rw0 d (by simp [hd]), by simpa using List.any_eq_false.mp q.2 d hd⟩
      obtain ⟨w, k, r, rfl⟩ := row_some (rw0 _ (by simp)) q.1
      have ks : okds 57 rs = true := rows_okds (fun d hd => (rs0 d hd).1) 56
      have er2 : drillR (.tup (.str w :: .int k :: r) :: rs) = if w = "gap" ∧ rs.any gapB = false ∧ fitsB (.tup [.int k, .tup rs]) = true then .inr (.tup [.int k, .tup rs]) else .inl (rs.length + 2) := by
        rw [drillR, if_neg (by rw [List.any_cons, q.1, q.2]; simp)]
        simp [gapB, hd1]
      rw [er2] at h
      clear er2 er
      walk_at "dl"
      have ec : cutL (D.tup (.str w :: .int k :: r) :: rs) (some 1) none = rs := cut_from _ (by decide)
      rw [ec]
      cases gw : (w == "gap") with
      | false =>
        rw [if_neg (by intro z; simp [z.1] at gw)] at h
        walk_at "dl"
        simp only [sRaiseF]
        walk_at "dl"
        exact h
      | true =>
        walk_at "dl"
        rw [dComp_eq]
        walk_at "dl"
        rw [ec]
        refine compK_pure (fun d => some (hd0 d)) [some (.dat (.str x)), some (.dat (.lst (D.tup (.str w :: .int k :: r) :: rs))), some (.dat (.tup [.int k, .tup rs])), none, none] rfl rfl rfl (by rw [sizeLine_eq]; omega) ?_ ?_
        · intro d hd acc R hR
          obtain ⟨w', k', r', rfl⟩ := row_some (rs0 d hd).1 (rs0 d hd).2
          walk_at "dl"
          exact hR _ rfl
        rw [List.filterMap_eq_map' ]
        walk_at "dl"
        refine ⟨(okds_iff _ _).mpr ?_, ?_⟩
        · intro d hd
          obtain ⟨d', hd', rfl⟩ := List.mem_map.mp hd
          obtain ⟨w', k', r', rfl⟩ := row_some (rs0 d' hd').1 (rs0 d' hd').2
          exact okd_str _ _
        rw [any_gap rs rs0]
        cases qg : rs.any gapB with
        | true =>
          rw [if_neg (by intro z; simp [qg] at z)] at h
          walk_at "dl"
          simp only [sRaiseF]
          walk_at "dl"
          exact h
        | false =>
          walk_at "dl"
          simp only [S_fits]
          refine ⟨by rw [okd_60t, okds_cons, okd_int, okds_cons, okd_59t, okds_nil, okds_up 57 _ ks]; rfl, ?_⟩
          walk_at "dl"
          cases f : fitsB (.tup [.int k, .tup rs]) with
          | true =>
            rw [if_pos ⟨by simpa using gw, qg, f⟩] at h
            walk_at "dl"
            exact h
          | false =>
            rw [if_neg (by intro z; simp [f] at z)] at h
            walk_at "dl"
            simp only [sRaiseF]
            walk_at "dl"
            exact h
end DL
set_option Elab.async false
set_option linter.all false
set_option maxRecDepth 100000
set_option maxHeartbeats 4000000
set_option autoImplicit false
/-! Law k12: what the program reads, and what is due. -/
namespace DL
open PySem PySem.Spec PyProof.Rows L2 TL
local macro_rules | `(tactic| walk_at "dl") => `(tactic| (try simp only [sSeq, sSet, sRet, sRetN, sIf, sNil, sDrop, sFor, sTo, sPar2, sPar3, sNever, sRaise, sSetIx, dVar, dC, dVarL, dDat, dVal, valK_dat, valK_ob, dBin, dUn, dNil, dCons, dats, dTup, dLst, dNew, dNewOf, dTest, dtAnd, dtOr, dtNot, dAnd, dOr, dNot, dIf, dChain, dCB, dSl, dNo, dSo, sApp, dIxO, dLenO, dMaxD, dGetP, dCall, dSeq, dRng1, dRng2, dZip, dEnum, gNm, gTp, gCs, gNl, dYes,
  startD, endsOf, retD, wipeS, gAdd, gSub, gMul, gMulA, gMulB, gDiv, gMod, gPow, gNeg, gLt, gLe, gGt, gGe, gEq, gNe, gIn, gIx, gSl, gIsi, tyD, isiD, gLen, gAbs, gInt, gMax2, gMin2, gTuple, gList, gIsN, isNon, gIsB, gNotB,
  List.getElem?_cons_zero, List.getElem?_cons_succ, List.getElem?_nil, List.set_cons_zero, List.set_cons_succ, List.map_cons, List.map_nil, List.cons_append, List.nil_append, List.length_cons, List.length_nil, List.replicate_succ, List.replicate_zero, Option.map_some, Nat.reduceSub, Nat.reduceAdd, Nat.reduceLeDiff,
  List.take_length, beq_self_eq_true, String.reduceBEq, Bool.or_true, Bool.true_or, Bool.or_false, Bool.false_or, Bool.and_true, Bool.and_false, Bool.true_and, Bool.false_and, Bool.or_self, Bool.and_self, decide_true, decide_false, dmem, List.any_cons, List.any_nil, okd_non, okd_bl, okd_int, okd_str, okds_nil, okds_cons, okd_60t, okd_59t, okd_58t, okd_60l, okd_59l, okd_58l, st_tk, st_tb, st_tf, st_kt, st_kb, st_kf, st_bt, st_bk, st_bf, st_ft, st_fk, st_fb, nat_num, Int.reduceBEq, Int.reduceBNe, Int.reduceEq, Int.reduceLT, Int.reduceLE, Int.reduceAdd, Int.reduceSub, Int.reduceMul, Int.reduceNeg, Int.reduceToNat, Int.reducePow, atI_0, atI_1, atI_2, set_last, get_last, take_last, deq_str, deq_int, deq_non, deq_bl, deq_tt, deq_ll, deqs_nn, deqs_cc, deqs_nc, deqs_cn, Nat.lt_irrefl, List.set_set, ixN_20, ixN_21, tupI, okds_ints, atI_map', List.length_map, cutL_map, eq_self, if_true, if_false, ite_true, ite_false, Bool.false_eq_true, decide_eq_true_eq, true_and, and_true, and_self, Bool.not_true, Bool.not_false, true_or, or_true, false_or, or_false, Option.some.injEq, reduceCtorEq]))
/-- slots: 0 value -/
def B_read_drill : DS :=
  (sRet (dDat (dVal (dCall 1 S_drill_in (dCons (dDat (dVar 0)) dNil)))))
def S_read_drill : DF := S_drill_in
theorem h_read_drill : ∀ (ss : List Sl) (T : List Ob) (Q : Sl → List Ob → Prop) (QX : Xn → List Ob → Prop), ss.length = 1 → S_read_drill ss T Q QX → B_read_drill (endsOf T.length Q QX) (startD 1 1 ss T) := by
  intro ss T Q QX hl h
  unfold B_read_drill
  rcases h with ⟨x, rfl, hx, h⟩ | ⟨d, rfl, ok, ns, h⟩
  · walk_at "dl"
    refine .inl ⟨x, rfl, hx, ?_⟩
    cases e : drillR (rowsD x) with
    | inr d =>
      rw [e] at h
      walk_at "dl"
      exact h
    | inl n =>
      rw [e] at h
      show QX _ (List.take T.length T)
      rw [List.take_length]
      exact h
  · walk_at "dl"
    refine .inr ⟨d, rfl, ok, ns, ?_⟩
    show QX _ (List.take T.length T)
    rw [List.take_length]
    exact h
/-- the word for a line -/
def textN (n : Nat) : Str := ("text" : Str) ++ (toString (n : Int) : Str)
def saidD : Nat ⊕ D → D
  | .inr d => d
  | .inl n => .str (textN n)
/-- what is read of a value, or the word -/
def triedD : D → D
  | .str x => saidD (drillR (rowsD x))
  | _ => .str (textN 0)
theorem textN_ne (n : Nat) : (textN n == ("" : Str)) = false := by
  rw [beq_eq_false_iff_ne]
  intro z
  have : (tl (textN n)).length = 0 := by rw [z]; rfl
  rw [textN, tl_append, List.length_append] at this
  exact absurd this (by
    rw [show (tl (("text" : Str))).length = 4 from rfl]
    omega)
theorem drillR_row {rows : List D} (h : ∀ d ∈ rows, RowD d) {d : D} (e : drillR rows = .inr d) : okd 5 d = true := by
  unfold drillR at e
  split at e
  · cases e
  · split at e
    · cases e
    · rename_i r0 r q
      split at e
      · cases e
        have : okd 3 (hd1 r0) = true := by
          rcases h r0 (by simp) with rfl | ⟨w, n, rfl, _⟩ | ⟨w, n, m, rfl, _⟩ <;> simp [hd1, okd]
        have r3 : okds 3 r = true := rows_okds (fun d hd => h d (by simp [hd])) 2
        simp [okd, okds, okd_le this (show 3 ≤ 4 by decide), r3]
      · cases e
theorem row_line {rows : List D} {n : Nat} (e : drillR rows = .inl n) : n ≤ rows.length + 1 := by
  unfold drillR at e
  split at e
  · rename_i q
    cases e
    have : rows.findIdx nonD < rows.length := List.findIdx_lt_length_of_exists (by simpa using q)
    omega
  · split at e
    · cases e
      simp
    · split at e
      · cases e
      · cases e
        exact Nat.le_refl _
theorem rowsD_le (x : Str) : (rowsD x).length ≤ x.length + 2 := by
  rw [rowsD, List.length_map]
  exact split_le x "\n"
theorem line_word {R : List Str} (hR : R.contains "InvalidText" = true) {n : Nat} (hn : n ≤ 1000000) : IsWord R ⟨"InvalidText", some ("line", .int n)⟩ (textN n) := ⟨hR, .inr ⟨n, by omega, by omega, .inl ⟨rfl, rfl⟩⟩⟩
/-- slots: 0 _law_value, 1 _law_word_here -/
def B_l_tried (Rs : List Str) : DS :=
  (sSeq (sSet 1 (dDat (dVal (dLam (S_l_word Rs) (dCall 1 S_read_drill (dCons (dDat (dVar 0)) dNil))))))
  (sRet (dDat (dIf (dTest (dBin gEq (dVar 1) (dC (.str "")))) (dVal (dCall 1 S_read_drill (dCons (dDat (dVar 0)) dNil))) (dVar 1)))))
def S_l_tried (Rs : List Str) : DF := fun ss T Q _ => Rs.contains "InvalidText" = true ∧ ∃ d : D, ss = [.dat d] ∧ ((∃ x : Str, d = .str x ∧ x.length ≤ 1000) ∨ okd 60 d = true ∧ strD d = false) ∧ Q (.dat (triedD d)) T
theorem h_l_tried (Rs : List Str) : ∀ (ss : List Sl) (T : List Ob) (Q : Sl → List Ob → Prop) (QX : Xn → List Ob → Prop), ss.length = 1 → S_l_tried Rs ss T Q QX → B_l_tried Rs (endsOf T.length Q QX) (startD 2 1 ss T) := by
  intro ss T Q QX hl h
  obtain ⟨hR, d, rfl, hd, h⟩ := h
  unfold B_l_tried
  walk_at "dl"
  simp only [dLam]
  intro Q' QX' hv hx
  walk_at "dl"
  rcases hd with ⟨x, rfl, lx⟩ | ⟨ok, ns⟩
  · refine .inl ⟨x, rfl, lx, ?_⟩
    rw [triedD] at h
    cases e : drillR (rowsD x) with
    | inr d =>
      rw [e] at h
      walk_at "dl"
      refine hv _ _ ?_
      rw [List.take_length]
      walk_at "dl"
      refine .inl ⟨x, rfl, lx, ?_⟩
      rw [e]
      walk_at "dl"
      exact h
    | inl n =>
      rw [e] at h
      have ln : n ≤ 1000000 := by
        have := row_line e
        have := rowsD_le x
        omega
      refine hx _ (textN n) _ (line_word hR ln) ?_
      rw [List.take_length]
      walk_at "dl"
      rw [textN_ne]
      walk_at "dl"
      exact h
  · refine .inr ⟨d, rfl, ok, ns, ?_⟩
    refine hx _ (textN 0) _ (line_word hR (by decide)) ?_
    rw [List.take_length]
    walk_at "dl"
    rw [textN_ne]
    walk_at "dl"
    rw [triedD] at h
    · exact h
    · intro x z
      rw [z] at ns
      cases ns
/-- a line that is one: gap and its number, or a run -/
theorem line_kind (ws : List Str) (n : nonD (lineD ws) = false) : (∃ k : Nat, lineD ws = .tup [.str "gap", .int k] ∧ isInt (.int k) 1 9 = true) ∨ (gapB (lineD ws) = false ∧ isRun (lineD ws) = true) := by
  cases ws with
  | nil => cases n
  | cons w0 ws =>
    rw [lineD] at n ⊢
    by_cases g : w0 = "gap"
    · subst g
      rw [if_pos rfl] at n ⊢
      split at n
      · rename_i a ha
        rw [ha]
        by_cases q : isInt a 1 9 = true
        · rw [if_pos q]
          cases a with
          | int k =>
            have k0 : 0 ≤ k := by
              simp [isInt] at q
              omega
            refine .inl ⟨k.toNat, ?_, ?_⟩
            · rw [show ((k.toNat : Nat) : Int) = k by omega]
            · rw [show ((k.toNat : Nat) : Int) = k by omega]
              exact q
          | _ => simp [isInt] at q
        · simp only [ha, if_neg q] at n
          cases n
      · cases n
    · rw [if_neg g] at n ⊢
      by_cases q : isRun (.tup (.str w0 :: itemsOf ws)) = true
      · rw [if_pos q]
        exact .inr ⟨by simpa [gapB] using g, q⟩
      · rw [if_neg q] at n
        cases n
/-- rows as lines: each none, gap with a number, or a run -/
def KindD (d : D) : Prop := nonD d = false → (∃ k : Nat, d = .tup [.str "gap", .int k] ∧ isInt (.int k) 1 9 = true) ∨ (gapB d = false ∧ isRun d = true)
theorem rowsD_kind (x : Str) : ∀ d ∈ rowsD x, KindD d := fun d hd => by
  obtain ⟨l, _, rfl⟩ := List.mem_map.mp hd
  exact line_kind _
def hdS : D → Str
  | .tup (.str w :: _) => w
  | _ => ""
theorem count_gap : ∀ (rows : List D), (∀ d ∈ rows, RowD d ∧ nonD d = false) → (rows.map hdS).count (Str.ofString "gap") = rows.countP gapB
  | [], _ => rfl
  | d :: r, h => by
    obtain ⟨w, k, l, rfl⟩ := row_some (h d (by simp)).1 (h d (by simp)).2
    rw [List.map_cons, List.count_cons, List.countP_cons, count_gap r fun d' h' => h d' (by simp [h'])]
    rfl
theorem all_run {rs : List D} (h : ∀ d ∈ rs, KindD d ∧ nonD d = false) (g : rs.any gapB = false) : rs.all isRun = true := by
  rw [List.all_eq_true]
  intro d hd
  have gd : gapB d = false := by simpa using List.any_eq_false.mp g d hd
  rcases (h d hd).1 (h d hd).2 with ⟨k, rfl, _⟩ | ⟨_, r⟩
  · simp [gapB] at gd
  · exact r
/-- slots: 0 _law_value, 1 _law_rows, 2 _law_gaps, 3 _law_line_here, 4 _law_row -/
def B_l_due : DS :=
  (sSeq (sIf (dtNot (dTest (dCB gIsi (dCons (dDat (dVar 0)) (dCons (dDat (dC (.raw (.ty "str")))) dNil))))) (sRet (dDat (dC (.str "text0")))) sNil)
  (sSeq (sSet 1 (dDat (dComp (dSeq (dM1 gSplit (dVar 0) (dC (.str "\n")))) (gNm 3) dYes (dVal (dCall 1 S_l_line (dCons (dDat (dVar 3)) dNil))) [3])))
  (sSeq (sIf (dTest (dBin (gIn false) (dC .non) (dVar 1))) (sRet (dDat (dBin gAdd (dC (.str "text")) (dCB gStr (dCons (dDat (dBin gAdd (dBM1 gIndex (dVar 1) (dC .non)) (dC (.int 1)))) dNil))))) sNil)
  (sSeq (sSet 2 (dDat (dBM1 gCount (dComp (dSeq (dVar 1)) (gNm 4) dYes (dBin gIx (dVar 4) (dC (.int 0))) [4]) (dC (.str "gap")))))
  (sSeq (sIf (dtOr (dTest (dBin gNe (dBin gIx (dBin gIx (dVar 1) (dC (.int 0))) (dC (.int 0))) (dC (.str "gap")))) (dtOr (dTest (dBin gNe (dVar 2) (dC (.int 1)))) (dTest (dBin gGt (dCB gLen (dCons (dDat (dVar 1)) dNil)) (dC (.int 9)))))) (sRet (dDat (dBin gAdd (dC (.str "text")) (dCB gStr (dCons (dDat (dBin gAdd (dCB gLen (dCons (dDat (dVar 1)) dNil)) (dC (.int 1)))) dNil))))) sNil)
  (sRet (dDat (dTup (dCons (dDat (dBin gIx (dBin gIx (dVar 1) (dC (.int 0))) (dC (.int 1)))) (dCons (dDat (dCB gTuple (dCons (dDat (dSl (dVar 1) (dSo (dC (.int 1))) dNo)) dNil))) dNil))))))))))
def S_l_due : DF := fun ss T Q _ => ∃ x : Str, ss = [.dat (.str x)] ∧ x.length ≤ 1000 ∧ Q (.dat (triedD (.str x))) T
theorem h_l_due : ∀ (ss : List Sl) (T : List Ob) (Q : Sl → List Ob → Prop) (QX : Xn → List Ob → Prop), ss.length = 1 → S_l_due ss T Q QX → B_l_due (endsOf T.length Q QX) (startD 5 1 ss T) := by
  intro ss T Q QX hl h
  obtain ⟨x, rfl, hx, h⟩ := h
  obtain ⟨⟨l0, ls, e⟩, hlen⟩ := split_facts (x := x) (y := "\n") (by decide) (by first | rfl | decide +kernel)
  have nl : (Txt.split x "\n").length ≤ x.length + 2 := split_le x "\n"
  unfold B_l_due
  walk_at "dl"
  rw [dComp_eq]
  walk_at "dl"
  simp only [dM1, gSplit]
  walk_at "dl"
  refine ⟨⟨x, rfl⟩, ⟨by decide, by rw [sizeLine_eq]; omega⟩, ?_⟩
  refine compK_pure (fun d => match d with
    | .str l => some (lineD (Txt.split l " "))
    | _ => none) [some (.dat (.str x)), none, none, none, none] rfl rfl rfl (by rw [List.length_map, sizeLine_eq]; omega) ?_ ?_
  · intro d hd acc R hR
    obtain ⟨l, hl', rfl⟩ := List.mem_map.mp hd
    walk_at "dl"
    refine ⟨l, rfl, by have := hlen l hl'; omega, ?_⟩
    walk_at "dl"
    exact hR _ rfl
  rw [show ((Txt.split x (Str.ofString "\n")).map D.str).filterMap (fun d => match d with
    | .str l => some (lineD (Txt.split l " "))
    | _ => none) = rowsD x by
    rw [List.filterMap_map, rowsD, ← List.filterMap_eq_map]
    rfl]
  walk_at "dl"
  have rw0 := rowsD_row x
  have rwk := rowsD_kind x
  refine ⟨rows_okds rw0 59, ?_⟩
  rw [any_non _ rw0]
  rw [triedD] at h
  have numOk : ∀ n : Nat, n ≤ 1000000 → ((n : Int)).natAbs.log2 < 1920 ∧ 4 + Str.length (toString (n : Int)) ≤ sizeLine := fun n hn => word_fits (by omega) (by omega)
  cases q : (rowsD x).any nonD with
  | true =>
    unfold drillR at h
    rw [if_pos q] at h
    simp only [dBM1, gIndex]
    walk_at "dl"
    obtain ⟨f1, f2⟩ := find_non rw0 q
    refine ⟨⟨_, rfl⟩, rows_okds rw0 58, rows_shaped rw0, rfl, _, f1, f2, ?_⟩
    have lt : (rowsD x).findIdx nonD < (rowsD x).length := List.findIdx_lt_length_of_exists (by simpa using q)
    have := rowsD_le x
    obtain ⟨l1, l2⟩ := numOk ((rowsD x).findIdx nonD + 1) (by omega)
    exact ⟨l1, l2, h⟩
  | false =>
    walk_at "dl"
    have er : rowsD x = lineD (Txt.split l0 " ") :: ls.map fun l => lineD (Txt.split l " ") := by
      show (Txt.split x (Str.ofString "\n")).map _ = _
      rw [e]
      rfl
    revert rwk rw0 q h
    rw [er]
    have lr : (ls.map fun l => lineD (Txt.split l (Str.ofString " "))).length ≤ 1002 := by
      rw [e] at nl
      simp at nl ⊢
      omega
    revert lr
    generalize lineD (Txt.split l0 (Str.ofString " ")) = r0
    generalize (ls.map fun l => lineD (Txt.split l (Str.ofString " "))) = rs
    intro lr h rw0 rwk q
    have q' := q
    rw [List.any_cons, Bool.or_eq_false_iff] at q
    have rs0 : ∀ d ∈ rs, RowD d ∧ nonD d = false := fun d hd => ⟨rw0 d (by simp [hd]), by simpa using List.any_eq_false.mp q.2 d hd⟩
    have rk0 : ∀ d ∈ rs, KindD d ∧ nonD d = false := fun d hd => ⟨rwk d (by simp [hd]), by simpa using List.any_eq_false.mp q.2 d hd⟩
    have al0 : ∀ d ∈ r0 :: rs, RowD d ∧ nonD d = false := fun d hd => ⟨rw0 d hd, by simpa using List.any_eq_false.mp q' d hd⟩
    have kd := rwk r0 (by simp) q.1
    obtain ⟨w, k, r, rfl⟩ := row_some (rw0 _ (by simp)) q.1
    have ks : okds 57 rs = true := rows_okds (fun d hd => (rs0 d hd).1) 56
    have er2 : drillR (.tup (.str w :: .int k :: r) :: rs) = if w = "gap" ∧ rs.any gapB = false ∧ fitsB (.tup [.int k, .tup rs]) = true then .inr (.tup [.int k, .tup rs]) else .inl (rs.length + 2) := by
      rw [drillR, if_neg (by rw [List.any_cons, q.1, q.2]; simp)]
      simp [gapB, hd1]
    rw [er2] at h
    clear er2 er
    simp only [dBM1]
    rw [dComp_eq]
    walk_at "dl"
    refine compK_pure (fun d => some (hd0 d)) [some (.dat (.str x)), some (.dat (.lst (D.tup (.str w :: .int k :: r) :: rs))), none, none, none] rfl rfl rfl (by rw [sizeLine_eq, List.length_cons]; omega) ?_ ?_
    · intro d hd acc R hR
      obtain ⟨w', k', r', rfl⟩ := row_some (al0 d hd).1 (al0 d hd).2
      walk_at "dl"
      exact hR _ rfl
    rw [List.filterMap_eq_map', show ((D.tup (.str w :: .int k :: r) :: rs).map hd0) = ((D.tup (.str w :: .int k :: r) :: rs).map hdS).map D.str from by
      rw [List.map_map]
      refine List.map_congr_left fun d hd => ?_
      obtain ⟨w', k', r', rfl⟩ := row_some (al0 d hd).1 (al0 d hd).2
      rfl]
    walk_at "dl"
    refine ⟨⟨_, rfl⟩, ?_⟩
    simp only [gCount]
    walk_at "dl"
    rw [show strsOf (D.str (hdS (D.tup (D.str w :: D.int k :: r))) :: List.map D.str (List.map hdS rs)) = some ((D.tup (.str w :: .int k :: r) :: rs).map hdS) from strsOf_map ((D.tup (.str w :: .int k :: r) :: rs).map hdS)]
    simp only []
    rw [count_gap _ al0, List.countP_cons, show gapB (.tup (.str w :: .int k :: r)) = (w == "gap") from rfl]
    have fin : (w == Str.ofString "gap") = true ∧ rs.any gapB = false ∧ rs.length ≤ 8 ↔ w = Str.ofString "gap" ∧ rs.any gapB = false ∧ fitsB (.tup [.int k, .tup rs]) = true := by
      constructor
      · rintro ⟨w1, w2, w3⟩
        rcases kd with ⟨k', ek, ik⟩ | ⟨gk, _⟩
        · refine ⟨by simpa using w1, w2, ?_⟩
          cases ek
          simp [fitsB, ik, w3, all_run rk0 w2]
        · rw [show gapB (.tup (.str w :: .int k :: r)) = (w == "gap") from rfl, w1] at gk
          cases gk
      · rintro ⟨w1, w2, w3⟩
        simp [fitsB] at w3
        exact ⟨by simpa using w1, w2, w3.2.1⟩
    have bad : ¬ (w = Str.ofString "gap" ∧ rs.any gapB = false ∧ fitsB (.tup [.int k, .tup rs]) = true) → gStr [D.int (↑(rs.length + 1) + 1)] fun z =>
        match D.str (Str.ofString "text"), z, fun z => Q (Sl.dat z) T with
        | D.int i, D.int j, P => P (D.int (i + j))
        | D.str i, D.str j, P => i.length + j.length ≤ sizeLine ∧ P (D.str (i ++ j))
        | D.tup a, D.tup b, P => a.length + b.length ≤ sizeLine ∧ P (D.tup (a ++ b))
        | D.lst a, D.lst b, P => a.length + b.length ≤ sizeLine ∧ P (D.lst (a ++ b))
        | x, x_1, x_2 => False := by
      intro z
      rw [if_neg z] at h
      obtain ⟨l1, l2⟩ := numOk (rs.length + 2) (by omega)
      exact ⟨l1, l2, h⟩
    cases gw : (w == Str.ofString "gap") with
    | false =>
      walk_at "dl"
      exact bad (by rw [← fin, gw]; simp)
    | true =>
      walk_at "dl"
      by_cases c0 : rs.countP gapB = 0
      · have ng : rs.any gapB = false := by
          rw [List.any_eq_false]
          intro d hd
          exact List.countP_eq_zero.mp c0 d hd
        rw [show (((rs.countP gapB + 1 : Nat) : Int) == 1) = true from by rw [c0]; rfl]
        walk_at "dl"
        by_cases l8 : rs.length ≤ 8
        · rw [if_neg (by omega)]
          rw [if_pos (fin.mp ⟨gw, ng, l8⟩)] at h
          rw [show cutL (D.tup (.str w :: .int k :: r) :: rs) (some 1) none = rs from cut_from _ (by decide)]
          exact h
        · rw [if_pos (by omega)]
          exact bad (by rw [← fin]; exact fun z => l8 z.2.2)
      · rw [show (((rs.countP gapB + 1 : Nat) : Int) == 1) = false from by simp; omega]
        walk_at "dl"
        refine bad ?_
        rw [← fin]
        intro z
        refine c0 (List.countP_eq_zero.mpr fun d hd => ?_)
        exact List.any_eq_false.mp z.2.1 d hd
end DL
set_option Elab.async false
set_option linter.all false
set_option maxRecDepth 100000
set_option maxHeartbeats 4000000
set_option autoImplicit false
/-! Law k12: the text of a drill, and that it is read back. -/
namespace DL
open PySem PySem.Spec PyProof.Rows L2 TL
local macro_rules | `(tactic| walk_at "dl") => `(tactic| (try simp only [sSeq, sSet, sRet, sRetN, sIf, sNil, sDrop, sFor, sTo, sPar2, sPar3, sNever, sRaise, sSetIx, dVar, dC, dVarL, dDat, dVal, valK_dat, valK_ob, dBin, dUn, dNil, dCons, dats, dTup, dLst, dNew, dNewOf, dTest, dtAnd, dtOr, dtNot, dAnd, dOr, dNot, dIf, dChain, dCB, dSl, dNo, dSo, sApp, dIxO, dLenO, dMaxD, dGetP, dCall, dSeq, dRng1, dRng2, dZip, dEnum, gNm, gTp, gCs, gNl, dYes,
  startD, endsOf, retD, wipeS, gAdd, gSub, gMul, gMulA, gMulB, gDiv, gMod, gPow, gNeg, gLt, gLe, gGt, gGe, gEq, gNe, gIn, gIx, gSl, gIsi, tyD, isiD, gLen, gAbs, gInt, gMax2, gMin2, gTuple, gList, gIsN, isNon, gIsB, gNotB,
  List.getElem?_cons_zero, List.getElem?_cons_succ, List.getElem?_nil, List.set_cons_zero, List.set_cons_succ, List.map_cons, List.map_nil, List.cons_append, List.nil_append, List.length_cons, List.length_nil, List.replicate_succ, List.replicate_zero, Option.map_some, Nat.reduceSub, Nat.reduceAdd, Nat.reduceLeDiff,
  List.take_length, beq_self_eq_true, String.reduceBEq, Bool.or_true, Bool.true_or, Bool.or_false, Bool.false_or, Bool.and_true, Bool.and_false, Bool.true_and, Bool.false_and, Bool.or_self, Bool.and_self, decide_true, decide_false, dmem, List.any_cons, List.any_nil, okd_non, okd_bl, okd_int, okd_str, okds_nil, okds_cons, okd_60t, okd_59t, okd_58t, okd_60l, okd_59l, okd_58l, st_tk, st_tb, st_tf, st_kt, st_kb, st_kf, st_bt, st_bk, st_bf, st_ft, st_fk, st_fb, nat_num, Int.reduceBEq, Int.reduceBNe, Int.reduceEq, Int.reduceLT, Int.reduceLE, Int.reduceAdd, Int.reduceSub, Int.reduceMul, Int.reduceNeg, Int.reduceToNat, Int.reducePow, atI_0, atI_1, atI_2, set_last, get_last, take_last, deq_str, deq_int, deq_non, deq_bl, deq_tt, deq_ll, deqs_nn, deqs_cc, deqs_nc, deqs_cn, Nat.lt_irrefl, List.set_set, ixN_20, ixN_21, tupI, okds_ints, atI_map', List.length_map, cutL_map, eq_self, if_true, if_false, ite_true, ite_false, Bool.false_eq_true, decide_eq_true_eq, true_and, and_true, and_self, Bool.not_true, Bool.not_false, true_or, or_true, false_or, or_false, Option.some.injEq, reduceCtorEq]))
/-- the text of a number -/
def nT (i : Int) : Str := Str.ofString (toString i)
/-- the words of a run -/
def Rn.ws : Rn → List Str
  | .to p => ["to", nT p]
  | .bark s => ["bark", nT s]
  | .back n s => ["back", nT n, nT s]
  | .front n s => ["front", nT n, nT s]
def Rn.t (r : Rn) : Str := Txt.join " " r.ws
def gapT (g : Int) : Str := ("gap " : Str) ++ nT g
/-- the text of a drill -/
def drT (g : Int) (rs : List Rn) : Str := Txt.join "\n" (gapT g :: rs.map Rn.t)
theorem nT_tl {i : Int} (h : 0 ≤ i) : tl (nT i) = numL i.toNat := by
  obtain ⟨n, rfl⟩ : ∃ n : Nat, i = n := ⟨i.toNat, by omega⟩
  exact tl_num n
theorem nT_len {i : Int} (h : 0 ≤ i) (h2 : i ≤ 1000000000000) : (nT i).length ≤ 13 := by
  rw [len_tl, nT_tl h]
  exact numL_len (by decide) (by omega)
theorem numW_nT {i : Int} (h : 0 ≤ i) (h2 : i ≤ 1000000000000) : optI (numW (nT i)) = .int i := by
  have e := nT_tl h
  have l := nT_len h h2
  have ne := numL_ne i.toNat
  have d : (tl (nT i)).all dig = true := by
    rw [e]
    exact all_dig.mp (numL_digits _)
  have l0 : ¬ (nT i).length = 0 := by
    rw [len_tl, e]
    exact fun z => ne (List.eq_nil_of_length_eq_zero z)
  rw [numW, if_neg (by
    rintro (z | z | z)
    · exact l0 z
    · omega
    · rw [d] at z; cases z), e, numL_val, if_pos rfl, optI]
  rw [show ((i.toNat : Nat) : Int) = i by omega]
theorem nT_free {i : Int} (h : 0 ≤ i) {s : Nat} (hs : s < 48 ∨ 57 < s) : s ∉ tl (nT i) := by
  rw [nT_tl h]
  exact numL_free hs
theorem ws_free {r : Rn} (h : r.ok) {s : Nat} (hs : s < 48) : ∀ w ∈ r.ws, s ∉ tl w := by
  have key : ∀ x : Str, (tl x).all (fun c => decide (48 ≤ c)) = true → s ∉ tl x := by
    intro x hx m
    have := List.all_eq_true.mp hx s m
    simp at this
    omega
  cases r with
  | to p =>
    intro w hw
    simp only [Rn.ws, List.mem_cons, List.not_mem_nil, or_false] at hw
    rcases hw with rfl | rfl
    · exact key _ (by decide +kernel)
    · exact nT_free h.1 (.inl hs)
  | bark p =>
    intro w hw
    simp only [Rn.ws, List.mem_cons, List.not_mem_nil, or_false] at hw
    have := h.1
    rcases hw with rfl | rfl
    · exact key _ (by decide +kernel)
    · exact nT_free (by omega) (.inl hs)
  | back n p =>
    intro w hw
    simp only [Rn.ws, List.mem_cons, List.not_mem_nil, or_false] at hw
    have := h.2.1
    rcases hw with rfl | rfl | rfl
    · exact key _ (by decide +kernel)
    · exact nT_free h.1.1 (.inl hs)
    · exact nT_free (by omega) (.inl hs)
  | front n p =>
    intro w hw
    simp only [Rn.ws, List.mem_cons, List.not_mem_nil, or_false] at hw
    have := h.2.1
    rcases hw with rfl | rfl | rfl
    · exact key _ (by decide +kernel)
    · exact nT_free h.1.1 (.inl hs)
    · exact nT_free (by omega) (.inl hs)
theorem ws_line {r : Rn} (h : r.ok) : lineD r.ws = r.d := by
  cases r with
  | to p =>
    have e := numW_nT h.1 h.2
    simp only [Rn.ws, lineD, itemsOf, List.map_cons, List.map_nil, e]
    rw [if_neg (by decide)]
    exact if_pos (Rn.run (r := .to p) h)
  | bark p =>
    have := h.1
    have e := numW_nT (by omega) h.2
    simp only [Rn.ws, lineD, itemsOf, List.map_cons, List.map_nil, e]
    rw [if_neg (by decide)]
    exact if_pos (Rn.run (r := .bark p) h)
  | back n p =>
    have := h.2.1
    have := h.1.2
    have e1 := numW_nT h.1.1 (by omega)
    have e := numW_nT (by omega) h.2.2
    simp only [Rn.ws, lineD, itemsOf, List.map_cons, List.map_nil, e, e1]
    rw [if_neg (by decide)]
    exact if_pos (Rn.run (r := .back n p) h)
  | front n p =>
    have := h.2.1
    have := h.1.2
    have e1 := numW_nT h.1.1 (by omega)
    have e := numW_nT (by omega) h.2.2
    simp only [Rn.ws, lineD, itemsOf, List.map_cons, List.map_nil, e, e1]
    rw [if_neg (by decide)]
    exact if_pos (Rn.run (r := .front n p) h)
theorem ws_ne (r : Rn) : r.ws ≠ [] := by cases r <;> simp [Rn.ws]
theorem t_line {r : Rn} (h : r.ok) : lineD (Txt.split r.t " ") = r.d := by
  rw [Rn.t, split_join (s := 32) (S := []) (by decide +kernel) (by decide +kernel) (ws_ne r) (ws_free h (by decide)), ws_line h]
theorem gapT_join (g : Int) : gapT g = Txt.join " " ["gap", nT g] := by
  rw [join_eq]
  apply ext_tl
  rw [tl_join, gapT, tl_append]
  rfl
theorem gap_free {g : Int} (g0 : 0 ≤ g) {s : Nat} (hs : s < 32) : s ∉ tl (gapT g) := by
  rw [gapT, tl_append, List.mem_append]
  rintro (m | m)
  · have : (tl ("gap " : Str)).all (fun c => decide (32 ≤ c)) = true := by decide +kernel
    have := List.all_eq_true.mp this s m
    simp at this
    omega
  · exact nT_free g0 (by omega) m
theorem gap_line {g : Int} (g1 : 1 ≤ g) (g9 : g ≤ 9) : lineD (Txt.split (gapT g) " ") = .tup [.str "gap", .int g] := by
  rw [gapT_join, split_join (s := 32) (S := []) (by decide +kernel) (by decide +kernel) (by simp) (by
    intro w hw
    simp only [List.mem_cons, List.not_mem_nil, or_false] at hw
    rcases hw with rfl | rfl
    · decide +kernel
    · exact nT_free (by omega) (by decide))]
  have e := numW_nT (show 0 ≤ g by omega) (by omega)
  simp only [lineD, itemsOf, List.map_cons, List.map_nil, e, if_true]
  rw [if_pos (isInt_int g1 g9)]
theorem joinL_mem {S : List Nat} {s : Nat} : ∀ {ps : List (List Nat)}, s ∈ joinL S ps → s ∈ S ∨ ∃ p ∈ ps, s ∈ p
  | [], h => by cases h
  | [p], h => .inr ⟨p, by simp, h⟩
  | p :: q :: r, h => by
    rw [joinL, List.mem_append, List.mem_append] at h
    rcases h with h | h | h
    · exact .inr ⟨p, by simp, h⟩
    · exact .inl h
    · rcases joinL_mem h with h | ⟨x, hx, h⟩
      · exact .inl h
      · exact .inr ⟨x, by simp [List.mem_cons.mp hx], h⟩
theorem joinL_len (S : List Nat) : ∀ ps : List (List Nat), (joinL S ps).length ≤ (ps.map List.length).sum + ps.length * S.length
  | [] => by simp [joinL]
  | [p] => by simp [joinL]
  | p :: q :: r => by
    have ih := joinL_len S (q :: r)
    rw [joinL, List.length_append, List.length_append, List.map_cons, List.sum_cons, List.length_cons, Nat.succ_mul]
    omega
theorem join_len (y : Str) (ps : List Str) : (Txt.join y ps).length ≤ (ps.map (·.length)).sum + ps.length * y.length := by
  have h := joinL_len (tl y) (ps.map tl)
  rw [join_eq, len_tl, tl_join]
  rw [List.map_map, List.length_map, ← len_tl] at h
  rw [show (ps.map (·.length)) = ps.map (List.length ∘ tl) from List.map_congr_left fun w _ => len_tl w]
  exact h
theorem t_free {r : Rn} (h : r.ok) {s : Nat} (hs : s < 32) : s ∉ tl r.t := by
  rw [Rn.t, join_eq, tl_join]
  intro m
  rcases joinL_mem m with m | ⟨p, hp, m⟩
  · rw [show tl (" " : Str) = [32] by decide +kernel] at m
    simp at m
    omega
  · obtain ⟨w, hw, rfl⟩ := List.mem_map.mp hp
    exact ws_free h (by omega) w hw m
/-- THE READ-BACK: the text of a drill, cut into its lines -/
theorem rows_back {g : Int} {rs : List Rn} (h : DrOk g rs) : rowsD (drT g rs) = .tup [.str "gap", .int g] :: rs.map Rn.d := by
  have := h.g1
  rw [rowsD, drT, split_join (s := 10) (S := []) (by decide +kernel) (by decide +kernel) (by simp) (by
    intro w hw
    rcases List.mem_cons.mp hw with rfl | hw
    · exact gap_free (by omega) (by decide)
    · obtain ⟨r, hr, rfl⟩ := List.mem_map.mp hw
      exact t_free (h.ok r hr) (by decide)), List.map_cons, gap_line h.g1 h.g9, List.map_map]
  congr 1
  refine List.map_congr_left fun r hr => ?_
  exact t_line (h.ok r hr)
theorem drill_back {g : Int} {rs : List Rn} (h : DrOk g rs) : drillR (rowsD (drT g rs)) = .inr (drD g rs) := by
  have n0 : (rs.map Rn.d).any nonD = false := by
    rw [List.any_eq_false]
    intro d hd
    obtain ⟨r, _, rfl⟩ := List.mem_map.mp hd
    cases r <;> simp [Rn.d, nonD]
  have g0 : (rs.map Rn.d).any gapB = false := by
    rw [List.any_eq_false]
    intro d hd
    obtain ⟨r, _, rfl⟩ := List.mem_map.mp hd
    cases r <;> simp (decide := true) [Rn.d, gapB]
  rw [rows_back h, drillR, if_neg (by rw [List.any_cons, n0]; simp [nonD])]
  exact if_pos ⟨by simp [gapB], g0, h.fits⟩
theorem t_len {r : Rn} (h : r.ok) : r.t.length ≤ 40 := by
  refine Nat.le_trans (join_len _ _) ?_
  rw [show ((" " : Str)).length = 1 from rfl]
  cases r with
  | to p =>
    have := nT_len h.1 h.2
    simp only [Rn.ws, List.map_cons, List.map_nil, List.sum_cons, List.sum_nil, List.length_cons, List.length_nil, show (Str.ofString "to").length = 2 from rfl]
    omega
  | bark p =>
    have := h.1
    have := nT_len (by omega) h.2
    simp only [Rn.ws, List.map_cons, List.map_nil, List.sum_cons, List.sum_nil, List.length_cons, List.length_nil, show (Str.ofString "bark").length = 4 from rfl]
    omega
  | back n p =>
    have := h.2.1
    have := h.1.2
    have := nT_len h.1.1 (by omega)
    have := nT_len (by omega) h.2.2
    simp only [Rn.ws, List.map_cons, List.map_nil, List.sum_cons, List.sum_nil, List.length_cons, List.length_nil, show (Str.ofString "back").length = 4 from rfl]
    omega
  | front n p =>
    have := h.2.1
    have := h.1.2
    have := nT_len h.1.1 (by omega)
    have := nT_len (by omega) h.2.2
    simp only [Rn.ws, List.map_cons, List.map_nil, List.sum_cons, List.sum_nil, List.length_cons, List.length_nil, show (Str.ofString "front").length = 5 from rfl]
    omega
theorem sum_le {f : Str → Nat} {m : Nat} : ∀ {l : List Str}, (∀ x ∈ l, f x ≤ m) → (l.map f).sum ≤ l.length * m
  | [], _ => by simp
  | x :: r, h => by
    have := sum_le (l := r) fun y hy => h y (by simp [hy])
    have := h x (by simp)
    rw [List.map_cons, List.sum_cons, List.length_cons, Nat.succ_mul]
    omega
theorem gapT_len {g : Int} (g1 : 0 ≤ g) (g9 : g ≤ 9) : (gapT g).length ≤ 40 := by
  have := nT_len g1 (by omega)
  rw [gapT, len_tl, tl_append, List.length_append, ← len_tl, ← len_tl, show (Str.ofString "gap ").length = 4 from rfl]
  omega
theorem parts_len {g : Int} {rs : List Rn} (h : DrOk g rs) : (((gapT g :: rs.map Rn.t)).map (·.length)).sum + (gapT g :: rs.map Rn.t).length * (Str.ofString "\n").length ≤ 700 := by
  have := h.l8
  have := h.g1
  have s := sum_le (f := (·.length)) (m := 40) (l := gapT g :: rs.map Rn.t) (by
    intro w hw
    rcases List.mem_cons.mp hw with rfl | hw
    · exact gapT_len (by omega) h.g9
    · obtain ⟨r, hr, rfl⟩ := List.mem_map.mp hw
      exact t_len (h.ok r hr))
  rw [show (Str.ofString "\n").length = 1 from rfl]
  simp only [List.length_cons, List.length_map] at s ⊢
  omega
theorem drT_len {g : Int} {rs : List Rn} (h : DrOk g rs) : (drT g rs).length ≤ 700 := Nat.le_trans (join_len _ _) (parts_len h)
theorem big_log (i : Int) (h0 : 0 ≤ i) (h1 : i ≤ 1000000000000) : i.natAbs.log2 < 1920 := Nat.lt_of_lt_of_le (log_lt (k := 50) (by decide) (by omega)) (by decide)
/-- a datum as a text -/
def itemT : D → Option D
  | .str x => some (.str x)
  | .int i => some (.str (nT i))
  | _ => none
def Rn.items : Rn → List D
  | .to p => [.str "to", .int p]
  | .bark s => [.str "bark", .int s]
  | .back n s => [.str "back", .int n, .int s]
  | .front n s => [.str "front", .int n, .int s]
theorem Rn.d_items (r : Rn) : r.d = .tup r.items := by cases r <;> rfl
theorem Rn.items_ws (r : Rn) : r.items.filterMap itemT = r.ws.map D.str := by cases r <;> rfl
theorem Rn.items_len (r : Rn) : r.items.length ≤ 3 := by cases r <;> simp [Rn.items]
theorem Rn.item {r : Rn} (h : r.ok) {d : D} (m : d ∈ r.items) : (∃ x, d = .str x) ∨ ∃ i, d = .int i ∧ i.natAbs.log2 < 1920 := by
  have big : ∀ i : Int, 0 ≤ i → i ≤ 1000000000000 → i.natAbs.log2 < 1920 := big_log
  cases r with
  | to p =>
    simp only [Rn.items, List.mem_cons, List.not_mem_nil, or_false] at m
    rcases m with rfl | rfl
    · exact .inl ⟨_, rfl⟩
    · exact .inr ⟨_, rfl, big _ h.1 h.2⟩
  | bark p =>
    have := h.1
    simp only [Rn.items, List.mem_cons, List.not_mem_nil, or_false] at m
    rcases m with rfl | rfl
    · exact .inl ⟨_, rfl⟩
    · exact .inr ⟨_, rfl, big _ (by omega) h.2⟩
  | back n p =>
    have := h.2.1
    have := h.1.2
    simp only [Rn.items, List.mem_cons, List.not_mem_nil, or_false] at m
    rcases m with rfl | rfl | rfl
    · exact .inl ⟨_, rfl⟩
    · exact .inr ⟨_, rfl, big _ h.1.1 (by omega)⟩
    · exact .inr ⟨_, rfl, big _ (by omega) h.2.2⟩
  | front n p =>
    have := h.2.1
    have := h.1.2
    simp only [Rn.items, List.mem_cons, List.not_mem_nil, or_false] at m
    rcases m with rfl | rfl | rfl
    · exact .inl ⟨_, rfl⟩
    · exact .inr ⟨_, rfl, big _ h.1.1 (by omega)⟩
    · exact .inr ⟨_, rfl, big _ (by omega) h.2.2⟩
theorem ws_sum {r : Rn} (h : r.ok) : (r.ws.map (·.length)).sum + r.ws.length * (Str.ofString " ").length ≤ 16777216 := by
  rw [show (Str.ofString " ").length = 1 from rfl]
  have w1 : r.ws.length ≤ 3 := by cases r <;> simp [Rn.ws]
  have : ∀ w ∈ r.ws, w.length ≤ 13 := by
    intro w hw
    have a1 : ∀ x : Str, x = "to" ∨ x = "bark" ∨ x = "back" ∨ x = "front" → x.length ≤ 13 := by
      rintro x (rfl | rfl | rfl | rfl) <;> decide
    cases r with
    | to p =>
      simp only [Rn.ws, List.mem_cons, List.not_mem_nil, or_false] at hw
      rcases hw with rfl | rfl
      · exact a1 _ (by simp)
      · exact nT_len h.1 h.2
    | bark p =>
      have := h.1
      simp only [Rn.ws, List.mem_cons, List.not_mem_nil, or_false] at hw
      rcases hw with rfl | rfl
      · exact a1 _ (by simp)
      · exact nT_len (by omega) h.2
    | back n p =>
      have := h.2.1
      have := h.1.2
      simp only [Rn.ws, List.mem_cons, List.not_mem_nil, or_false] at hw
      rcases hw with rfl | rfl | rfl
      · exact a1 _ (by simp)
      · exact nT_len h.1.1 (by omega)
      · exact nT_len (by omega) h.2.2
    | front n p =>
      have := h.2.1
      have := h.1.2
      simp only [Rn.ws, List.mem_cons, List.not_mem_nil, or_false] at hw
      rcases hw with rfl | rfl | rfl
      · exact a1 _ (by simp)
      · exact nT_len h.1.1 (by omega)
      · exact nT_len (by omega) h.2.2
  have := sum_le (f := (·.length)) this
  omega
def rowT : D → Option D
  | .tup (.str w :: .int i :: r) => some (.str (Txt.join " " (w :: nT i :: (match r with
    | .int j :: _ => [nT j]
    | _ => []))))
  | _ => none
theorem rowT_d (r : Rn) : rowT r.d = some (.str r.t) := by cases r <;> rfl
theorem rows_T (rs : List Rn) : (rs.map Rn.d).filterMap rowT = (rs.map Rn.t).map D.str := by
  rw [List.map_map, List.filterMap_map, ← List.filterMap_eq_map]
  congr 1
  funext r
  exact rowT_d r
/-- slots: 0 drill, 1 lines, 2 run, 3 item -/
def B_text_of : DS :=
  (sSeq (sSet 1 (dDat (dBin gAdd (dLst (dCons (dDat (dBin gAdd (dC (.str "gap ")) (dCB gStr (dCons (dDat (dBin gIx (dVar 0) (dC (.int 0)))) dNil)))) dNil)) (dComp (dSeq (dBin gIx (dVar 0) (dC (.int 1)))) (gNm 2) dYes (dM1 gJoin (dC (.str " ")) (dComp (dSeq (dVar 2)) (gNm 3) dYes (dCB gStr (dCons (dDat (dVar 3)) dNil)) [3])) [2]))))
  (sRet (dDat (dM1 gJoin (dC (.str "\n")) (dVar 1)))))
def S_text_of : DF := fun ss T Q _ => ∃ (g : Int) (rs : List Rn), ss = [.dat (drD g rs)] ∧ DrOk g rs ∧ Q (.dat (.str (drT g rs))) T
theorem h_text_of : ∀ (ss : List Sl) (T : List Ob) (Q : Sl → List Ob → Prop) (QX : Xn → List Ob → Prop), ss.length = 1 → S_text_of ss T Q QX → B_text_of (endsOf T.length Q QX) (startD 4 1 ss T) := by
  intro ss T Q QX hl h
  obtain ⟨g, rs, rfl, hd, h⟩ := h
  have g1 := hd.g1
  have g9 := hd.g9
  have l8 := hd.l8
  unfold B_text_of
  simp only [drD]
  walk_at "dl"
  refine ⟨big_log g (by omega) (by omega), ?_⟩
  walk_at "dl"
  have lg := nT_len (show 0 ≤ g by omega) (by omega)
  refine ⟨by rw [sizeLine_eq]; show 4 + (nT g).length ≤ _; omega, ?_⟩
  rw [dComp_eq]
  walk_at "dl"
  refine compK_pure rowT [some (.dat (.tup [.int g, .tup (rs.map Rn.d)])), none, none, none] rfl rfl rfl (by rw [List.length_map, sizeLine_eq]; omega) ?_ ?_
  · intro d hd' acc R hR
    obtain ⟨r, hr, rfl⟩ := List.mem_map.mp hd'
    rw [rowT_d] at hR
    have rok := hd.ok r hr
    walk_at "dl"
    simp only [dM1]
    walk_at "dl"
    refine ⟨⟨_, rfl⟩, ?_⟩
    rw [dComp_eq, Rn.d_items]
    walk_at "dl"
    refine compK_pure itemT [some (.dat (.tup [.int g, .tup (rs.map Rn.d)])), none, some (.dat (.tup r.items)), none] rfl rfl rfl (by have := r.items_len; rw [sizeLine_eq]; omega) ?_ ?_
    · intro d hm acc2 R2 hR2
      rcases Rn.item rok hm with ⟨x, rfl⟩ | ⟨i, rfl, li⟩
      · walk_at "dl"
        simp only [gStr]
        exact hR2 _ rfl
      · walk_at "dl"
        simp only [gStr]
        exact ⟨li, hR2 _ rfl⟩
    · rw [Rn.items_ws]
      simp only [gJoin, strsOf_map]
      exact ⟨ws_sum rok, hR _ rfl⟩
  · rw [rows_T]
    walk_at "dl"
    refine ⟨by rw [sizeLine_eq]; omega, ?_⟩
    simp only [dM1]
    walk_at "dl"
    refine ⟨⟨_, rfl⟩, ?_⟩
    rw [show (D.str (Str.ofString "gap " ++ Str.ofString (toString g)) :: List.map D.str (List.map Rn.t rs)) = (gapT g :: rs.map Rn.t).map D.str from rfl]
    simp only [gJoin, strsOf_map]
    refine ⟨Nat.le_trans (parts_len hd) (by decide), ?_⟩
    walk_at "dl"
    exact h
/-- slots: 0 drill -/
def B_drill_text : DS :=
  (sSeq (sDrop (dCall 1 S_need_drill (dCons (dDat (dVar 0)) dNil)))
  (sRet (dDat (dVal (dCall 1 S_text_of (dCons (dDat (dVar 0)) dNil))))))
def S_drill_text : DF := fun ss T Q QX => (∃ (g : Int) (rs : List Rn), ss = [.dat (drD g rs)] ∧ DrOk g rs ∧ Q (.dat (.str (drT g rs))) T) ∨ ∃ d : D, ss = [.dat d] ∧ okd 60 d = true ∧ fitsB d = false ∧ QX ⟨"InvalidDrill", none⟩ T
theorem h_drill_text : ∀ (ss : List Sl) (T : List Ob) (Q : Sl → List Ob → Prop) (QX : Xn → List Ob → Prop), ss.length = 1 → S_drill_text ss T Q QX → B_drill_text (endsOf T.length Q QX) (startD 1 1 ss T) := by
  intro ss T Q QX hl h
  unfold B_drill_text
  rcases h with ⟨g, rs, rfl, hd, h⟩ | ⟨d, rfl, ok, nf, h⟩
  · walk_at "dl"
    simp only [S_need_drill]
    refine ⟨okd_drD g rs 57, .inl ⟨hd.fits, ?_⟩⟩
    walk_at "dl"
    refine ⟨g, rs, rfl, hd, ?_⟩
    walk_at "dl"
    exact h
  · walk_at "dl"
    simp only [S_need_drill]
    refine ⟨ok, .inr ⟨nf, ?_⟩⟩
    rw [List.take_length]
    exact h
end DL
set_option Elab.async false
set_option linter.all false
set_option maxRecDepth 100000
set_option maxHeartbeats 4000000
set_option autoImplicit false
/-! Law k12: a text bent. -/
namespace DL
open PySem PySem.Spec PyProof.Rows L2 TL
local macro_rules | `(tactic| walk_at "dl") => `(tactic| (try simp only [sSeq, sSet, sRet, sRetN, sIf, sNil, sDrop, sFor, sTo, sPar2, sPar3, sNever, sRaise, sSetIx, dVar, dC, dVarL, dDat, dVal, valK_dat, valK_ob, dBin, dUn, dNil, dCons, dats, dTup, dLst, dNew, dNewOf, dTest, dtAnd, dtOr, dtNot, dAnd, dOr, dNot, dIf, dChain, dCB, dSl, dNo, dSo, sApp, dIxO, dLenO, dMaxD, dGetP, dCall, dSeq, dRng1, dRng2, dZip, dEnum, gNm, gTp, gCs, gNl, dYes,
  startD, endsOf, retD, wipeS, gAdd, gSub, gMul, gMulA, gMulB, gDiv, gMod, gPow, gNeg, gLt, gLe, gGt, gGe, gEq, gNe, gIn, gIx, gSl, gIsi, tyD, isiD, gLen, gAbs, gInt, gMax2, gMin2, gTuple, gList, gIsN, isNon, gIsB, gNotB,
  List.getElem?_cons_zero, List.getElem?_cons_succ, List.getElem?_nil, List.set_cons_zero, List.set_cons_succ, List.map_cons, List.map_nil, List.cons_append, List.nil_append, List.length_cons, List.length_nil, List.replicate_succ, List.replicate_zero, Option.map_some, Nat.reduceSub, Nat.reduceAdd, Nat.reduceLeDiff,
  List.take_length, beq_self_eq_true, String.reduceBEq, Bool.or_true, Bool.true_or, Bool.or_false, Bool.false_or, Bool.and_true, Bool.and_false, Bool.true_and, Bool.false_and, Bool.or_self, Bool.and_self, decide_true, decide_false, dmem, List.any_cons, List.any_nil, okd_non, okd_bl, okd_int, okd_str, okds_nil, okds_cons, okd_60t, okd_59t, okd_58t, okd_60l, okd_59l, okd_58l, st_tk, st_tb, st_tf, st_kt, st_kb, st_kf, st_bt, st_bk, st_bf, st_ft, st_fk, st_fb, nat_num, Int.reduceBEq, Int.reduceBNe, Int.reduceEq, Int.reduceLT, Int.reduceLE, Int.reduceAdd, Int.reduceSub, Int.reduceMul, Int.reduceNeg, Int.reduceToNat, Int.reducePow, atI_0, atI_1, atI_2, set_last, get_last, take_last, deq_str, deq_int, deq_non, deq_bl, deq_tt, deq_ll, deqs_nn, deqs_cc, deqs_nc, deqs_cn, Nat.lt_irrefl, List.set_set, ixN_20, ixN_21, tupI, okds_ints, atI_map', List.length_map, cutL_map, eq_self, if_true, if_false, ite_true, ite_false, Bool.false_eq_true, decide_eq_true_eq, true_and, and_true, and_self, Bool.not_true, Bool.not_false, true_or, or_true, false_or, or_false, Option.some.injEq, reduceCtorEq]))
theorem cutS_len (z : Str) (lo hi : Option Int) : (cutS z lo hi).length ≤ z.length := cutS_length z lo hi
theorem cut_900 (z : Str) : (cutS z none (some 900)).length ≤ 1000 := by
  by_cases q : z.length ≤ 1000
  · exact Nat.le_trans (cutS_length z _ _) q
  · have e : (cutS z none (some 900)).length = (cutL z.cps.toList none (some 900)).length := by
      simp [cutS, cutL, Str.length]
    rw [e, cut_to _ (by decide) (by simp [Str.length] at q; simp; omega), List.length_take]
    exact Nat.le_trans (Nat.min_le_left _ _) (by decide)
theorem gJoin2 {a : Str} {xs ys : List Str} {P : D → Prop} (l : ((xs ++ ys).map (·.length)).sum + (xs ++ ys).length * a.length ≤ 16777216) (h : P (.str (Txt.join a (xs ++ ys)))) : gJoin (.str a) (.lst (xs.map D.str ++ ys.map D.str)) P := by
  rw [← List.map_append]
  simp only [gJoin, strsOf_map]
  exact ⟨l, h⟩
theorem app_len (a b : Str) : (a ++ b).length = a.length + b.length := by rw [len_tl, tl_append, List.length_append, ← len_tl, ← len_tl]
/-- lines joined again -/
theorem lines_sum {ls : List Str} {m n : Nat} (hn : ls.length ≤ n) (hm : ∀ l ∈ ls, l.length ≤ m) : (ls.map (·.length)).sum + ls.length * (Str.ofString "\n").length ≤ n * (m + 1) := by
  have := sum_le (f := (·.length)) hm
  rw [show (Str.ofString "\n").length = 1 from rfl]
  have e : ls.length * m + ls.length * 1 = ls.length * (m + 1) := by rw [Nat.mul_add]
  have := Nat.mul_le_mul_right (m + 1) hn
  omega
theorem cut_mem {α : Type} {xs : List α} {lo hi : Option Int} {x : α} (h : x ∈ cutL xs lo hi) : x ∈ xs := by
  unfold cutL at h
  exact List.mem_of_mem_drop (List.mem_of_mem_take h)
/-- slots: 0 _law_cart, 1 _law_text, 2 _law_signs, 3 _law_at, 4 _law_lines, 5 _law_here, 6 _law_some -/
def B_l_bent : DS :=
  (sSeq (sSet 2 (dDat (dLst (dCons (dDat (dC (.str " "))) (dCons (dDat (dC (.str "\n"))) (dCons (dDat (dC (.str "0"))) (dCons (dDat (dC (.str "1"))) (dCons (dDat (dC (.str "3"))) (dCons (dDat (dC (.str "4"))) (dCons (dDat (dC (.str "-"))) (dCons (dDat (dC (.str "gap 2"))) (dCons (dDat (dC (.str "to 5"))) (dCons (dDat (dC (.str ""))) (dCons (dDat (dC (.str "\nbark 1"))) (dCons (dDat (dC (.str "back"))) (dCons (dDat (dC (.str "front 1"))) (dCons (dDat (dC (.str "01"))) (dCons (dDat (dC (.str "x"))) dNil))))))))))))))))))
  (sSeq (sSet 3 (dDat (dVal (dCall 2 S_l_take (dCons (dVarL 0) (dCons (dDat (dBin gAdd (dCB gLen (dCons (dDat (dVar 1)) dNil)) (dC (.int 1)))) dNil))))))
  (sSeq (sSet 1 (dDat (dBin gAdd (dBin gAdd (dSl (dVar 1) dNo (dSo (dVar 3))) (dVal (dCall 2 S_l_any (dCons (dVarL 0) (dCons (dDat (dVar 2)) dNil))))) (dSl (dVar 1) (dSo (dBin gAdd (dVar 3) (dVal (dCall 2 S_l_take (dCons (dVarL 0) (dCons (dDat (dC (.int 3))) dNil)))))) dNo))))
  (sSeq (sSet 4 (dDat (dM1 gSplit (dVar 1) (dC (.str "\n")))))
  (sSeq (sSet 5 (dDat (dVal (dCall 2 S_l_take (dCons (dVarL 0) (dCons (dDat (dCB gLen (dCons (dDat (dVar 4)) dNil))) dNil))))))
  (sSeq (sSet 6 (dDat (dLst (dCons (dDat (dVar 1)) (dCons (dDat (dVar 1)) (dCons (dDat (dM1 gJoin (dC (.str "\n")) (dBin gAdd (dSl (dVar 4) dNo (dSo (dVar 5))) (dSl (dVar 4) (dSo (dBin gAdd (dVar 5) (dC (.int 1)))) dNo)))) (dCons (dDat (dM1 gJoin (dC (.str "\n")) (dBin gAdd (dSl (dVar 4) (dSo (dVar 5)) dNo) (dSl (dVar 4) dNo (dSo (dVar 5)))))) dNil)))))))
  (sRet (dDat (dSl (dVal (dCall 2 S_l_any (dCons (dVarL 0) (dCons (dDat (dBin gAdd (dVar 6) (dLst (dCons (dDat (dM1 gJoin (dC (.str "\n")) (dBin gAdd (dSl (dVar 4) dNo (dSo (dBin gAdd (dVar 5) (dC (.int 1))))) (dSl (dVar 4) (dSo (dVar 5)) dNo)))) dNil)))) dNil)))) dNo (dSo (dC (.int 900))))))))))))
def S_l_bent : DF := fun ss T Q _ => ∃ (k : Nat) (x : Str), ss = [.ob k, .dat (.str x)] ∧ Cart T k ∧ x.length ≤ 1000 ∧ ∀ (y : Str) T', y.length ≤ 1000 → CartTo T T' k → Q (.dat (.str y)) T'
theorem h_l_bent : ∀ (ss : List Sl) (T : List Ob) (Q : Sl → List Ob → Prop) (QX : Xn → List Ob → Prop), ss.length = 2 → S_l_bent ss T Q QX → B_l_bent (endsOf T.length Q QX) (startD 7 2 ss T) := by
  intro ss T Q QX hl h
  obtain ⟨k, x, rfl, c, lx, h⟩ := h
  unfold B_l_bent
  walk_at "dl"
  refine ⟨by rw [sizeLine_eq]; omega, ?_⟩
  simp only [S_l_take]
  refine ⟨k, _, rfl, c, by omega, by simp only [Int.reducePow]; omega, fun at0 T1 a0 a1 ct1 => ?_⟩
  have c1 := ct1.cart c
  walk_at "dl"
  refine ⟨by rw [sizeLine_eq]; omega, ?_⟩
  simp only [S_l_any]
  refine ⟨k, _, _, rfl, .inl rfl, c1, by simp, by simp, fun sg T2 hs ct2 => ?_⟩
  have c2 := ct2.cart c1
  obtain ⟨g, rfl, lg⟩ : ∃ g : Str, sg = .str g ∧ g.length ≤ 8 := by
    simp only [List.mem_cons, List.not_mem_nil, or_false] at hs
    rcases hs with rfl | rfl | rfl | rfl | rfl | rfl | rfl | rfl | rfl | rfl | rfl | rfl | rfl | rfl | rfl <;> exact ⟨_, rfl, by decide⟩
  walk_at "dl"
  have m1 := cutS_len x none (some at0)
  refine ⟨by rw [sizeLine_eq]; omega, ?_⟩
  simp only [S_l_take]
  refine ⟨k, _, rfl, c2, by decide, by decide, fun o T3 o0 o1 ct3 => ?_⟩
  have c3 := ct3.cart c2
  walk_at "dl"
  refine ⟨by rw [sizeLine_eq]; omega, ?_⟩
  have m2 := cutS_len x (some (at0 + o)) none
  refine ⟨by rw [sizeLine_eq, app_len]; omega, ?_⟩
  obtain ⟨y, ey⟩ : ∃ y, y = cutS x none (some at0) ++ g ++ cutS x (some (at0 + o)) none := ⟨_, rfl⟩
  have ly : y.length ≤ 2008 := by rw [ey, app_len, app_len]; omega
  rw [← ey]
  simp only [dM1]
  walk_at "dl"
  have nl : (Txt.split y "\n").length ≤ y.length + 2 := split_le y "\n"
  obtain ⟨⟨l0, ls, e⟩, hlen⟩ := split_facts (x := y) (y := "\n") (by decide) (by first | rfl | decide +kernel)
  refine ⟨⟨_, rfl⟩, ⟨by decide, by rw [sizeLine_eq]; omega⟩, ?_⟩
  have n0 : 0 < (Txt.split y "\n").length := by rw [e]; simp
  clear e
  generalize Txt.split y (Str.ofString "\n") = L at *
  walk_at "dl"
  simp only [S_l_take]
  refine ⟨k, _, rfl, c3, by omega, by simp only [Int.reducePow]; omega, fun h0 T4 h00 h01 ct4 => ?_⟩
  have c4 := ct4.cart c3
  clear hs ey m1 m2 lg
  have cl : ∀ a b c d, (cutL L a b ++ cutL L c d).length ≤ 2 * sizeLine ∧ ((cutL L a b ++ cutL L c d).map (·.length)).sum + (cutL L a b ++ cutL L c d).length * (Str.ofString "\n").length ≤ 16777216 := by
    intro a b c d
    have l1 := cutL_len L a b
    have l2 := cutL_len L c d
    have := lines_sum (ls := cutL L a b ++ cutL L c d) (m := 2008) (n := 4020) (by rw [List.length_append]; omega) (by
      intro l hl'
      rcases List.mem_append.mp hl' with m | m
      · exact Nat.le_trans (hlen _ (cut_mem m)) ly
      · exact Nat.le_trans (hlen _ (cut_mem m)) ly)
    exact ⟨by rw [List.length_append, sizeLine_eq]; omega, Nat.le_trans this (by decide)⟩
  have cs : ∀ a b c d, (cutL L a b).length + (cutL L c d).length ≤ sizeLine := by
    intro a b c d
    have l1 := cutL_len L a b
    have l2 := cutL_len L c d
    rw [sizeLine_eq]
    omega
  walk_at "dl"
  simp only [dM1]
  walk_at "dl"
  refine ⟨⟨_, rfl⟩, cs _ _ _ _, ?_⟩
  refine gJoin2 (cl _ _ _ _).2 ?_
  walk_at "dl"
  refine ⟨⟨_, rfl⟩, cs _ _ _ _, ?_⟩
  refine gJoin2 (cl _ _ _ _).2 ?_
  walk_at "dl"
  refine ⟨⟨_, rfl⟩, cs _ _ _ _, ?_⟩
  refine gJoin2 (cl _ _ _ _).2 ?_
  walk_at "dl"
  refine ⟨by rw [sizeLine_eq]; decide, ?_⟩
  simp only [S_l_any]
  refine ⟨k, _, _, rfl, .inl rfl, c4, by simp, by simp, fun z0 T5 hz ct5 => ?_⟩
  have jl : ∀ a b c d, (Txt.join (Str.ofString "\n") (cutL L a b ++ cutL L c d)).length ≤ 16777216 := fun a b c d => Nat.le_trans (join_len _ _) (cl a b c d).2
  obtain ⟨z, rfl, lz⟩ : ∃ z : Str, z0 = .str z ∧ z.length ≤ sizeLine := by
    have sz : 16777216 ≤ sizeLine := by rw [sizeLine_eq]; decide
    simp only [List.mem_cons, List.not_mem_nil, or_false] at hz
    rcases hz with rfl | rfl | rfl | rfl | rfl
    · exact ⟨_, rfl, by omega⟩
    · exact ⟨_, rfl, by omega⟩
    · exact ⟨_, rfl, Nat.le_trans (jl _ _ _ _) sz⟩
    · exact ⟨_, rfl, Nat.le_trans (jl _ _ _ _) sz⟩
    · exact ⟨_, rfl, Nat.le_trans (jl _ _ _ _) sz⟩
  walk_at "dl"
  refine ⟨lz, ?_⟩
  have ct := (((ct1.trans ct2).trans ct3).trans ct4).trans ct5
  rw [List.take_of_length_le (by rw [ct.len]; exact Nat.le_refl _)]
  exact h _ _ (cut_900 z) ct
end DL
set_option Elab.async false
set_option linter.all false
set_option maxRecDepth 100000
set_option maxHeartbeats 4000000
set_option autoImplicit false
/-! Law k12 at data level. -/
namespace DL
open PySem PySem.Spec PyProof.Rows L2 TL
local macro_rules | `(tactic| walk_at "dl") => `(tactic| (try simp only [sSeq, sSet, sRet, sRetN, sIf, sNil, sDrop, sFor, sTo, sPar2, sPar3, sNever, sRaise, sSetIx, dVar, dC, dVarL, dDat, dVal, valK_dat, valK_ob, dBin, dUn, dNil, dCons, dats, dTup, dLst, dNew, dNewOf, dTest, dtAnd, dtOr, dtNot, dAnd, dOr, dNot, dIf, dChain, dCB, dSl, dNo, dSo, sApp, dIxO, dLenO, dMaxD, dGetP, dCall, dSeq, dRng1, dRng2, dZip, dEnum, gNm, gTp, gCs, gNl, dYes,
  startD, endsOf, retD, wipeS, gAdd, gSub, gMul, gMulA, gMulB, gDiv, gMod, gPow, gNeg, gLt, gLe, gGt, gGe, gEq, gNe, gIn, gIx, gSl, gIsi, tyD, isiD, gLen, gAbs, gInt, gMax2, gMin2, gTuple, gList, gIsN, isNon, gIsB, gNotB,
  List.getElem?_cons_zero, List.getElem?_cons_succ, List.getElem?_nil, List.set_cons_zero, List.set_cons_succ, List.map_cons, List.map_nil, List.cons_append, List.nil_append, List.length_cons, List.length_nil, List.replicate_succ, List.replicate_zero, Option.map_some, Nat.reduceSub, Nat.reduceAdd, Nat.reduceLeDiff,
  List.take_length, beq_self_eq_true, String.reduceBEq, Bool.or_true, Bool.true_or, Bool.or_false, Bool.false_or, Bool.and_true, Bool.and_false, Bool.true_and, Bool.false_and, Bool.or_self, Bool.and_self, decide_true, decide_false, dmem, List.any_cons, List.any_nil, okd_non, okd_bl, okd_int, okd_str, okds_nil, okds_cons, okd_60t, okd_59t, okd_58t, okd_60l, okd_59l, okd_58l, st_tk, st_tb, st_tf, st_kt, st_kb, st_kf, st_bt, st_bk, st_bf, st_ft, st_fk, st_fb, nat_num, Int.reduceBEq, Int.reduceBNe, Int.reduceEq, Int.reduceLT, Int.reduceLE, Int.reduceAdd, Int.reduceSub, Int.reduceMul, Int.reduceNeg, Int.reduceToNat, Int.reducePow, atI_0, atI_1, atI_2, set_last, get_last, take_last, deq_str, deq_int, deq_non, deq_bl, deq_tt, deq_ll, deqs_nn, deqs_cc, deqs_nc, deqs_cn, Nat.lt_irrefl, List.set_set, ixN_20, ixN_21, tupI, okds_ints, atI_map', List.length_map, cutL_map, eq_self, if_true, if_false, ite_true, ite_false, Bool.false_eq_true, decide_eq_true_eq, true_and, and_true, and_self, Bool.not_true, Bool.not_false, true_or, or_true, false_or, or_false, Option.some.injEq, reduceCtorEq]))
def lineOf : Nat ⊕ D → Nat
  | .inl n => n
  | .inr _ => 0
theorem said_line {x : Str} {n : Nat} (h : lineOf (drillR (rowsD x)) = n + 1) {w : Str} (e : textN (n + 1) = w) : triedD (.str x) = .str w := by
  rw [triedD]
  cases q : drillR (rowsD x) with
  | inl m =>
    rw [q] at h
    rw [saidD, show m = n + 1 from h, e]
  | inr d => rw [q] at h; cases h
theorem tried_odd {d : D} (h : strD d = false) : triedD d = .str "text0" := by
  cases d with
  | str x => cases h
  | _ => rfl
theorem tried_back {g : Int} {rs : List Rn} (h : DrOk g rs) : triedD (.str (drT g rs)) = drD g rs := by
  rw [triedD, drill_back h, saidD]
theorem okd_tried (d : D) : okd 60 (triedD d) = true := by
  cases d with
  | str x =>
    rw [triedD]
    cases q : drillR (rowsD x) with
    | inl m => exact okd_str _ _
    | inr d => exact okd_le (drillR_row (rowsD_row x) q) (by decide)
  | _ => exact okd_str _ _
theorem deq_tried (d : D) : deq (triedD d) (triedD d) = true := deq_refl 60 (okd_tried d)
/-- slots: 0 _law_script, 1 _law_k, 2 _law_rows, 3 _law_cart, 4 _law_turn, 5 _law_odd, 6 _law_work_here, 7 _law_lines, 8 _law_first, 9 _law_text, 10 _law_again, 11 _law_run, 12 _law_word_here, 13 _law_item -/
def B_law (Rs : List Str) : DS :=
  (sSeq (sFor (dRng1 (dCons (dDat (dBin gAdd (dC (.int 1)) (dCB gMin2 (dCons (dDat (dCB gLen (dCons (dDat (dVar 0)) dNil))) (dCons (dDat (dC (.int 8))) dNil))))) dNil)) (gNm 1) (sSeq (sSet 3 (dCall 2 S_l_cart_of (dCons (dDat (dVar 0)) (dCons (dDat (dVar 1)) dNil))))
  (sSeq (sFor (dRng1 (dCons (dDat (dC (.int 2))) dNil)) (gNm 4) (sSeq (sSet 6 (dDat (dVal (dCall 2 S_l_work (dCons (dVarL 3) (dCons (dDat (dC (.int 8))) dNil))))))
  (sSeq (sSet 7 (dDat (dComp (dSeq (dBin gIx (dVar 6) (dC (.int 1)))) (gNm 11) dYes (dM1 gJoin (dC (.str " ")) (dComp (dSeq (dVar 11)) (gNm 13) dYes (dCB gStr (dCons (dDat (dVar 13)) dNil)) [13])) [11])))
  (sSeq (sSet 8 (dDat (dM1 gJoin (dC (.str "\n")) (dBin gAdd (dLst (dCons (dDat (dBin gAdd (dC (.str "gap ")) (dCB gStr (dCons (dDat (dBin gIx (dVar 6) (dC (.int 0)))) dNil)))) dNil)) (dVar 7)))))
  (sSeq (sIf (dtOr (dTest (dBin gNe (dVal (dCall 1 S_drill_text (dCons (dDat (dVar 6)) dNil))) (dVar 8))) (dTest (dBin gNe (dVal (dCall 1 (S_l_tried Rs) (dCons (dDat (dVar 8)) dNil))) (dVar 6)))) (sRet (dDat (dC (.bl false)))) sNil)
  (sSeq (sSet 9 (dDat (dVar 8)))
  (sFor (dRng1 (dCons (dDat (dC (.int 16))) dNil)) (gNm 10) (sSeq (sSet 9 (dDat (dVal (dCall 2 S_l_bent (dCons (dVarL 3) (dCons (dDat (dIf (dTest (dBin gEq (dBin gMod (dVar 10) (dC (.int 3))) (dC (.int 0)))) (dVar 8) (dVar 9))) dNil))))))
  (sIf (dTest (dBin gNe (dVal (dCall 1 (S_l_tried Rs) (dCons (dDat (dVar 9)) dNil))) (dVal (dCall 1 S_l_due (dCons (dDat (dVar 9)) dNil))))) (sRet (dDat (dC (.bl false)))) sNil)))))))))
  (sFor (dSeq (dLst (dCons (dDat (dC .non)) (dCons (dDat (dC (.int 5))) (dCons (dDat (dTup (dCons (dDat (dVar 8)) dNil))) (dCons (dDat (dLst (dCons (dDat (dVar 8)) dNil))) (dCons (dDat (dC (.bl true))) (dCons (dDat (dVar 6)) dNil)))))))) (gNm 5) (sIf (dTest (dBin gNe (dVal (dCall 1 (S_l_tried Rs) (dCons (dDat (dVar 5)) dNil))) (dC (.str "text0")))) (sRet (dDat (dC (.bl false)))) sNil)))))
  (sSeq (sSet 2 (dDat (dLst (dCons (dDat (dTup (dCons (dDat (dC (.str ""))) (dCons (dDat (dC (.str "text1"))) dNil)))) (dCons (dDat (dTup (dCons (dDat (dC (.str "gap 0"))) (dCons (dDat (dC (.str "text1"))) dNil)))) (dCons (dDat (dTup (dCons (dDat (dC (.str "gap 10"))) (dCons (dDat (dC (.str "text1"))) dNil)))) (dCons (dDat (dTup (dCons (dDat (dC (.str "gap 2\n"))) (dCons (dDat (dC (.str "text2"))) dNil)))) (dCons (dDat (dTup (dCons (dDat (dC (.str "to 5"))) (dCons (dDat (dC (.str "text2"))) dNil)))) dNil))))))))
  (sSeq (sSet 2 (dDat (dBin gAdd (dVar 2) (dLst (dCons (dDat (dTup (dCons (dDat (dC (.str "gap 2\ngap 2"))) (dCons (dDat (dC (.str "text3"))) dNil)))) (dCons (dDat (dTup (dCons (dDat (dC (.str "to 5\ngap 2"))) (dCons (dDat (dC (.str "text3"))) dNil)))) (dCons (dDat (dTup (dCons (dDat (dC (.str "gap 2 "))) (dCons (dDat (dC (.str "text1"))) dNil)))) (dCons (dDat (dTup (dCons (dDat (dC (.str "gap  2"))) (dCons (dDat (dC (.str "text1"))) dNil)))) dNil))))))))
  (sSeq (sSet 2 (dDat (dBin gAdd (dVar 2) (dLst (dCons (dDat (dTup (dCons (dDat (dC (.str "gap 2\nback 4 1"))) (dCons (dDat (dC (.str "text2"))) dNil)))) (dCons (dDat (dTup (dCons (dDat (dC (.str "gap 2\nback 1"))) (dCons (dDat (dC (.str "text2"))) dNil)))) (dCons (dDat (dTup (dCons (dDat (dC (.str "gap 2\nto 1000000000001"))) (dCons (dDat (dC (.str "text2"))) dNil)))) dNil)))))))
  (sSeq (sSet 2 (dDat (dBin gAdd (dVar 2) (dLst (dCons (dDat (dTup (dCons (dDat (dC (.str "gap 02"))) (dCons (dDat (dC (.str "text1"))) dNil)))) (dCons (dDat (dTup (dCons (dDat (dC (.str "gap 2\nTo 5"))) (dCons (dDat (dC (.str "text2"))) dNil)))) (dCons (dDat (dTup (dCons (dDat (dBin gAdd (dC (.str "gap 1")) (dBin gMulS (dC (.str "\nbark 1")) (dC (.int 9))))) (dCons (dDat (dC (.str "text11"))) dNil)))) dNil)))))))
  (sSeq (sIf (dTest (dBin gNe (dComp (dSeq (dVar 2)) (gTp 2 (gCs (gNm 9) (gCs (gNm 12) gNl))) (dTest (dBin gNe (dVal (dCall 1 (S_l_tried Rs) (dCons (dDat (dVar 9)) dNil))) (dVar 12))) (dVar 9) [9, 12]) (dLst dNil))) (sRet (dDat (dC (.bl false)))) sNil)
  (sRet (dDat (dBin gEq (dVal (dCall 1 (S_l_tried Rs) (dCons (dDat (dC (.str "gap 9\nfront 0 1000000000000\nto 0"))) dNil))) (dTup (dCons (dDat (dC (.int 9))) (dCons (dDat (dTup (dCons (dDat (dTup (dCons (dDat (dC (.str "front"))) (dCons (dDat (dC (.int 0))) (dCons (dDat (dBin gPow (dC (.int 10)) (dC (.int 12)))) dNil))))) (dCons (dDat (dTup (dCons (dDat (dC (.str "to"))) (dCons (dDat (dC (.int 0))) dNil)))) dNil)))) dNil))))))))))))
def S_law (Rs : List Str) : DF := fun ss T Q _ => ∃ ns : List Int, ss = [.dat (.scr ns)] ∧ ns.length ≤ 63 ∧ Rs.contains "InvalidText" = true ∧ ∀ T', Q (.dat (.bl true)) T'
theorem h_law (Rs : List Str) : ∀ (ss : List Sl) (T : List Ob) (Q : Sl → List Ob → Prop) (QX : Xn → List Ob → Prop), ss.length = 1 → S_law Rs ss T Q QX → B_law Rs (endsOf T.length Q QX) (startD 14 1 ss T) := by
  intro ss T Q QX hl h
  obtain ⟨ns, rfl, hn, hR, h⟩ := h
  have hR0 := hR
  unfold B_law
  walk_at "dl"
  refine ⟨by split <;> omega, ?_⟩
  refine loop_inv (fun ds ρ => (∀ d ∈ ds, ∃ i : Int, d = .int i ∧ 0 ≤ i ∧ i < 9) ∧ ∃ (T' : List Ob) (x3 : Option Sl) (x1 x2 x4 x5 x6 x7 x8 x9 x10 : Option D), lowS T'.length [x3] = true ∧ ρ = ⟨T', [some (.dat (.scr ns)), dsl x1, dsl x2, x3, dsl x4, dsl x5, dsl x6, dsl x7, dsl x8, dsl x9, dsl x10, none, none, none]⟩) ?_ ?_ _ _ ?_
  · rintro d ds ρ ⟨hd, T', x3, x1, x2, x4, x5, x6, x7, x8, x9, x10, lo, rfl⟩ N hN
    have hd' := hd
    obtain ⟨i, rfl, i0, i9⟩ := hd d (by simp)
    walk_at "dl"
    refine ⟨ns, i, rfl, i0, by omega, by omega, fun a b ok => ?_⟩
    walk_at "dl"
    refine loop_inv (fun ds ρ => ∃ (T2 : List Ob) (k : Nat) (y2 y4 y5 y6 y7 y8 y9 y10 : Option D), Cart T2 k ∧ (ds.length = 2 ∨ ∃ g rs, DrOk g rs ∧ y6 = some (drD g rs) ∧ y8 = some (.str (drT g rs))) ∧ ρ = ⟨T2, [some (.dat (.scr ns)), some (.dat (.int i)), dsl y2, some (.ob k), dsl y4, dsl y5, dsl y6, dsl y7, dsl y8, dsl y9, dsl y10, none, none, none]⟩) ?_ ?_ _ _ ?_
    · rintro d ds' ρ ⟨T2, k, y2, y4, y5, y6, y7, y8, y9, y10, c, _, rfl⟩ N2 hN2
      walk_at "dl"
      refine ⟨k, 8, rfl, c, by decide, by decide, fun g rs T3 g1 g4 hr rok c3 => ?_⟩
      have k3 := c3.cart c
      have hd : DrOk g rs := ⟨g1, by omega, by omega, rok⟩
      have l8 := hd.l8
      have g9 := hd.g9
      rw [show drD g rs = .tup [.int g, .tup (rs.map Rn.d)] from rfl]
      walk_at "dl"
      rw [dComp_eq]
      walk_at "dl"
      refine compK_pure rowT [some (.dat (.scr ns)), some (.dat (.int i)), dsl y2, some (.ob k), some (.dat d), dsl y5, some (.dat (.tup [.int g, .tup (rs.map Rn.d)])), dsl y7, dsl y8, dsl y9, dsl y10, none, none, none] rfl rfl ?_ (by rw [List.length_map, sizeLine_eq]; omega) ?_ ?_
      · simp only [low_nil, low_dsl, low_dat, low_none, low_ob k3.lt]
      · intro d1 hd1 acc R hR
        obtain ⟨r, hr', rfl⟩ := List.mem_map.mp hd1
        rw [rowT_d] at hR
        have rrok := hd.ok r hr'
        walk_at "dl"
        simp only [dM1]
        walk_at "dl"
        refine ⟨⟨_, rfl⟩, ?_⟩
        rw [dComp_eq, Rn.d_items]
        walk_at "dl"
        refine compK_pure itemT [some (.dat (.scr ns)), some (.dat (.int i)), dsl y2, some (.ob k), some (.dat d), dsl y5, some (.dat (.tup [.int g, .tup (rs.map Rn.d)])), dsl y7, dsl y8, dsl y9, dsl y10, some (.dat (.tup r.items)), none, none] rfl rfl ?_ (by have := r.items_len; rw [sizeLine_eq]; omega) ?_ ?_
        · have : k < (T3 ++ [Ob.lst acc]).length := by have := k3.lt; simp; omega
          simp only [low_nil, low_dsl, low_dat, low_none, low_ob this]
        · intro d hm acc2 R2 hR2
          rcases Rn.item rrok hm with ⟨x, rfl⟩ | ⟨i, rfl, li⟩
          · walk_at "dl"
            simp only [gStr]
            exact hR2 _ rfl
          · walk_at "dl"
            simp only [gStr]
            exact ⟨li, hR2 _ rfl⟩
        · rw [Rn.items_ws]
          simp only [gJoin, strsOf_map]
          exact ⟨ws_sum rrok, hR _ rfl⟩
      rw [rows_T]
      walk_at "dl"
      simp only [dM1]
      walk_at "dl"
      have lg := nT_len (show 0 ≤ g by omega) (by omega)
      refine ⟨⟨_, rfl⟩, ?_⟩
      simp only [gStr]
      refine ⟨big_log g (by omega) (by omega), ?_⟩
      walk_at "dl"
      refine ⟨by rw [sizeLine_eq]; show 4 + (nT g).length ≤ _; omega, by rw [sizeLine_eq]; omega, ?_⟩
      rw [show (D.str (Str.ofString "gap " ++ Str.ofString (toString g)) :: List.map D.str (List.map Rn.t rs)) = (gapT g :: rs.map Rn.t).map D.str from rfl]
      simp only [gJoin, strsOf_map]
      refine ⟨Nat.le_trans (parts_len hd) (by decide), ?_⟩
      rw [show Txt.join (Str.ofString "\n") (gapT g :: rs.map Rn.t) = drT g rs from rfl]
      have ld := drT_len hd
      rw [show D.tup [.int g, .tup (rs.map Rn.d)] = drD g rs from rfl]
      walk_at "dl"
      refine .inl ⟨g, rs, rfl, hd, ?_⟩
      walk_at "dl"
      refine ⟨hR, .str (drT g rs), rfl, .inl ⟨_, rfl, by omega⟩, ?_⟩
      rw [tried_back hd]
      walk_at "dl"
      refine ⟨okd_drD g rs 57, okd_drD g rs 57, ?_⟩
      rw [deq_refl 60 (okd_drD g rs 57)]
      walk_at "dl"
      refine loop_inv (fun ds ρ => (∀ d ∈ ds, ∃ i : Int, d = .int i ∧ 0 ≤ i) ∧ ∃ (T5 : List Ob) (x : Str) (z10 : Option D), Cart T5 k ∧ x.length ≤ 1000 ∧ ρ = ⟨T5, [some (.dat (.scr ns)), some (.dat (.int i)), dsl y2, some (.ob k), some (.dat d), dsl y5, some (.dat (drD g rs)), some (.dat (.lst ((rs.map Rn.t).map D.str))), some (.dat (.str (drT g rs))), some (.dat (.str x)), dsl z10, none, none, none]⟩) ?_ ?_ _ _ ?_
      · rintro d5 ds5 ρ ⟨hd5, T5, x, z10, c5, lx, rfl⟩ N5 hN5
        obtain ⟨i5, rfl, i50⟩ := hd5 d5 (by simp)
        walk_at "dl"
        have go : ∀ (y : Str) T6, y.length ≤ 1000 → CartTo T5 T6 k → N5 ⟨T6, [some (.dat (.scr ns)), some (.dat (.int i)), dsl y2, some (.ob k), some (.dat d), dsl y5, some (.dat (drD g rs)), some (.dat (.lst ((rs.map Rn.t).map D.str))), some (.dat (.str (drT g rs))), some (.dat (.str y)), some (.dat (.int i5)), none, none, none]⟩ :=
          fun y T6 ly c6 => hN5 _ ⟨fun d h => hd5 d (by simp [h]), T6, y, some _, c6.cart c5, ly, rfl⟩
        split
        all_goals
          refine ⟨k, _, rfl, c5, by first | omega | exact lx, fun y T6 ly c6 => ?_⟩
          walk_at "dl"
          refine ⟨hR, .str y, rfl, .inl ⟨_, rfl, ly⟩, ?_⟩
          walk_at "dl"
          refine ⟨y, rfl, ly, ?_⟩
          walk_at "dl"
          refine ⟨okd_tried _, okd_tried _, ?_⟩
          rw [deq_tried]
          walk_at "dl"
          exact go y T6 ly c6
      · rintro ρ ⟨_, T5, x, z10, c5, lx, rfl⟩
        exact hN2 _ ⟨T5, k, y2, some d, y5, some (drD g rs), some _, some (.str (drT g rs)), some (.str x), z10, c5, .inr ⟨g, rs, hd, rfl, rfl⟩, rfl⟩
      · refine ⟨fun d hd => ?_, T3, drT g rs, y10, k3, by omega, rfl⟩
        obtain ⟨i, rfl, i0, i1⟩ := range_mem hd
        exact ⟨i, rfl, i0⟩
    · rintro ρ ⟨T2, k, y2, y4, y5, y6, y7, y8, y9, y10, c, hy, rfl⟩
      obtain ⟨g, rs, hd, rfl, rfl⟩ : ∃ g rs, DrOk g rs ∧ y6 = some (drD g rs) ∧ y8 = some (D.str (drT g rs)) := by
        rcases hy with hy | hy
        · cases hy
        · exact hy
      rw [show dsl (some (drD g rs)) = some (.dat (drD g rs)) from rfl, show dsl (some (D.str (drT g rs))) = some (.dat (.str (drT g rs))) from rfl]
      walk_at "dl"
      refine loop_inv (fun ds ρ => (∀ d ∈ ds, okd 60 d = true ∧ strD d = false) ∧ ∃ z5 : Option D, ρ = ⟨T2, [some (.dat (.scr ns)), some (.dat (.int i)), dsl y2, some (.ob k), dsl y4, dsl z5, some (.dat (drD g rs)), dsl y7, some (.dat (.str (drT g rs))), dsl y9, dsl y10, none, none, none]⟩) ?_ ?_ _ _ ?_
      · rintro d1 ds1 ρ ⟨hd1, z5, rfl⟩ N3 hN3
        obtain ⟨ok1, no1⟩ := hd1 d1 (by simp)
        walk_at "dl"
        refine ⟨hR, d1, rfl, .inr ⟨ok1, no1⟩, ?_⟩
        rw [tried_odd no1]
        walk_at "dl"
        exact hN3 _ ⟨fun d h => hd1 d (by simp [h]), some _, rfl⟩
      · rintro ρ ⟨_, z5, rfl⟩
        exact hN _ ⟨fun d h => hd' d (by simp [h]), T2, some (.ob k), some (.int i), y2, y4, z5, some _, y7, some _, y9, y10, low_ob c.lt [], rfl⟩
      · refine ⟨fun d h => ?_, y5, rfl⟩
        simp only [List.mem_cons, List.not_mem_nil, or_false] at h
        rcases h with rfl | rfl | rfl | rfl | rfl | rfl
        · exact ⟨okd_non _, rfl⟩
        · exact ⟨okd_int _ _, rfl⟩
        · exact ⟨by simp [okd, okds], rfl⟩
        · exact ⟨by simp [okd, okds], rfl⟩
        · exact ⟨okd_bl _ _, rfl⟩
        · exact ⟨okd_drD g rs 57, rfl⟩
    · exact ⟨_, T'.length, x2, x4, x5, x6, x7, x8, x9, x10, ⟨a, b, get_last _ _, ok⟩, .inl rfl, rfl⟩
  · rintro ρ ⟨_, T', x3, x1, x2, x4, x5, x6, x7, x8, x9, x10, lo, rfl⟩
    walk_at "dl"
    simp only [gMulS]
    refine ⟨by rw [sizeLine_eq]; decide, by rw [sizeLine_eq]; decide, ⟨by decide, by decide, by decide, by decide⟩, ?_⟩
    walk_at "dl"
    refine ⟨by rw [sizeLine_eq]; decide +kernel, by rw [sizeLine_eq]; decide, ?_⟩
    rw [dComp_eq]
    walk_at "dl"
    refine compK_pure (fun _ => none) [some (.dat (.scr ns)), dsl x1, _, x3, dsl x4, dsl x5, dsl x6, dsl x7, dsl x8, none, dsl x10, none, none, none] rfl rfl ?_ ?_ ?_ ?_
    · simp only [low_nil, low_dsl, low_dat, low_none, low_any lo]
    · rw [sizeLine_eq]
      simp
    · intro d hd acc R hR
      have key : ∃ (x w : Str), d = .tup [.str x, .str w] ∧ x.length ≤ 1000 ∧ triedD (.str x) = .str w := by
        simp only [List.mem_cons, List.not_mem_nil, or_false] at hd
        rcases hd with rfl | rfl | rfl | rfl | rfl | rfl | rfl | rfl | rfl | rfl | rfl | rfl | rfl | rfl | rfl
        · exact ⟨_, _, rfl, by decide, said_line (n := 0) (by decide +kernel) (by decide +kernel)⟩
        · exact ⟨_, _, rfl, by decide, said_line (n := 0) (by decide +kernel) (by decide +kernel)⟩
        · exact ⟨_, _, rfl, by decide, said_line (n := 0) (by decide +kernel) (by decide +kernel)⟩
        · exact ⟨_, _, rfl, by decide, said_line (n := 1) (by decide +kernel) (by decide +kernel)⟩
        · exact ⟨_, _, rfl, by decide, said_line (n := 1) (by decide +kernel) (by decide +kernel)⟩
        · exact ⟨_, _, rfl, by decide, said_line (n := 2) (by decide +kernel) (by decide +kernel)⟩
        · exact ⟨_, _, rfl, by decide, said_line (n := 2) (by decide +kernel) (by decide +kernel)⟩
        · exact ⟨_, _, rfl, by decide, said_line (n := 0) (by decide +kernel) (by decide +kernel)⟩
        · exact ⟨_, _, rfl, by decide, said_line (n := 0) (by decide +kernel) (by decide +kernel)⟩
        · exact ⟨_, _, rfl, by decide, said_line (n := 1) (by decide +kernel) (by decide +kernel)⟩
        · exact ⟨_, _, rfl, by decide, said_line (n := 1) (by decide +kernel) (by decide +kernel)⟩
        · exact ⟨_, _, rfl, by decide, said_line (n := 1) (by decide +kernel) (by decide +kernel)⟩
        · exact ⟨_, _, rfl, by decide, said_line (n := 0) (by decide +kernel) (by decide +kernel)⟩
        · exact ⟨_, _, rfl, by decide, said_line (n := 1) (by decide +kernel) (by decide +kernel)⟩
        · exact ⟨_, _, rfl, by decide +kernel, said_line (n := 10) (by decide +kernel) (by decide +kernel)⟩
      obtain ⟨x, w, rfl, lx, e⟩ := key
      walk_at "dl"
      refine ⟨hR0, .str x, rfl, .inl ⟨_, rfl, lx⟩, ?_⟩
      rw [e]
      walk_at "dl"
      exact hR _ rfl
    · rw [show ∀ l : List D, l.filterMap (fun _ => (none : Option D)) = [] from fun l => by simp]
      walk_at "dl"
      have hd : DrOk 9 [.front 0 1000000000000, .to 0] := ⟨by decide, by decide, by decide, by simp [Rn.ok]⟩
      refine ⟨hR0, .str (drT 9 [.front 0 1000000000000, .to 0]), ?_, .inl ⟨_, rfl, by have := drT_len hd; omega⟩, ?_⟩
      · rw [show Str.ofString "gap 9\nfront 0 1000000000000\nto 0" = drT 9 [.front 0 1000000000000, .to 0] from by decide +kernel]
      rw [tried_back hd]
      simp only [drD, Rn.d]
      walk_at "dl"
      refine ⟨by unfold CPow; decide, by rw [Rn.okd _ 57, Rn.okd _ 57]; rfl, ?_⟩
      rw [show deq (Rn.front 0 1000000000000).d (D.tup [D.str (Str.ofString "front"), D.int 0, D.int 1000000000000]) = true from deq_refl 60 (Rn.okd _ 59), show deq (Rn.to 0).d (D.tup [D.str (Str.ofString "to"), D.int 0]) = true from deq_refl 60 (Rn.okd _ 59)]
      exact h _
  · refine ⟨fun d hd => ?_, T, none, none, none, none, none, none, none, none, none, none, rfl, rfl⟩
    obtain ⟨i, rfl, i0, i1⟩ := range_mem hd
    refine ⟨i, rfl, i0, ?_⟩
    split at i1 <;> omega
end DL
set_option Elab.async false
set_option linter.all false
set_option maxRecDepth 100000
set_option maxHeartbeats 4000000
set_option autoImplicit false
/-! The program's text keeps what the data level promises. -/
namespace DL
open PySem PySem.Spec PyProof.Rows L2
def topS (i : Nat) : Stmt := PySem.Challenge.pw_dogruns_k12_texts_of_drills.main.body.getD i (.Pass ⟨0, 0, 0, 0⟩)
theorem exm_mk {K : PySem.W.Frag} {cls : Value} {C : Addr} {b : Bool} (h1 : PySem.W.subIn K (.ref C) (.type "BaseException") = some true) (h2 : PySem.W.isClsIn K C = true) (h3 : PySem.W.typeIn K (.ref C) = some (.type "type")) (h4 : PySem.W.subIn K cls (.ref C) = some b) : PySem.W.exmOne K cls (.ref C) = some b := by
  unfold PySem.W.exmOne
  rw [h1, if_pos (by decide)]
  show (if ((PySem.W.clsIn K C).isSome && PySem.W.typeIn K (.ref C) == some (.type "type")) = true then PySem.W.subIn K cls (.ref C) else none) = some b
  rw [show (PySem.W.clsIn K C).isSome = true from h2, h3, if_pos (by decide)]
  exact h4
theorem tab_mk {K : PySem.W.Frag} {x : Str} {f c P : Addr} {oc oc2 : Value} {od od2 : Option Addr} {fd : FuncData} {sl sl2 : Array (Option Value)} {vs : Array Value} (h1 : PySem.W.nsIn K mainGlobals x = some (some (.ref f))) (h2 : K.lookup f = some ⟨oc, od, .func fd, sl⟩) (h3 : fd.code = .ref c) (h4 : K.lookup c = some ⟨oc2, od2, .fields vs, sl2⟩) (h5 : vs[11]? = some (.ref P)) : PySem.W.tabIn K x = some (c, P) := by
  unfold PySem.W.tabIn
  simp only [h1, h2, h3, h4, h5]
theorem tab_no {K : PySem.W.Frag} {x : Str} (h : PySem.W.nsIn K mainGlobals x = some none) : PySem.W.tabIn K x = none := by
  unfold PySem.W.tabIn
  simp only [h]
abbrev s_is_int : Stmt := topS 18
theorem sc_is_int : FnScope ["value", "low", "high"] ["value", "low", "high"] (defScope s_is_int) := ⟨rfl, rfl, rfl, by decide +kernel, rfl, by decide +kernel, by decide +kernel⟩
abbrev s_is_a_run : Stmt := topS 19
theorem sc_is_a_run : FnScope ["value"] ["value"] (defScope s_is_a_run) := ⟨rfl, rfl, rfl, by decide +kernel, rfl, by decide +kernel, by decide +kernel⟩
abbrev s_fits : Stmt := topS 20
theorem sc_fits : FnScope ["value", "run"] ["value"] (defScope s_fits) := ⟨rfl, rfl, rfl, by decide +kernel, rfl, by decide +kernel, by decide +kernel⟩
abbrev s_need_drill : Stmt := topS 21
theorem sc_need_drill : FnScope ["value"] ["value"] (defScope s_need_drill) := ⟨rfl, rfl, rfl, by decide +kernel, rfl, by decide +kernel, by decide +kernel⟩
abbrev s_text_of : Stmt := topS 23
theorem sc_text_of : FnScope ["drill", "lines", "run", "item"] ["drill"] (defScope s_text_of) := ⟨rfl, rfl, rfl, by decide +kernel, rfl, by decide +kernel, by decide +kernel⟩
abbrev s_number_in : Stmt := topS 24
theorem sc_number_in : FnScope ["word", "sign"] ["word"] (defScope s_number_in) := ⟨rfl, rfl, rfl, by decide +kernel, rfl, by decide +kernel, by decide +kernel⟩
abbrev s_line_in : Stmt := topS 25
theorem sc_line_in : FnScope ["line", "words", "found", "word"] ["line"] (defScope s_line_in) := ⟨rfl, rfl, rfl, by decide +kernel, rfl, by decide +kernel, by decide +kernel⟩
abbrev s_drill_in : Stmt := topS 26
theorem sc_drill_in : FnScope ["value", "rows", "found", "line", "row"] ["value"] (defScope s_drill_in) := ⟨rfl, rfl, rfl, by decide +kernel, rfl, by decide +kernel, by decide +kernel⟩
abbrev s_drill_text : Stmt := topS 27
theorem sc_drill_text : FnScope ["drill"] ["drill"] (defScope s_drill_text) := ⟨rfl, rfl, rfl, by decide +kernel, rfl, by decide +kernel, by decide +kernel⟩
abbrev s_read_drill : Stmt := topS 28
theorem sc_read_drill : FnScope ["value"] ["value"] (defScope s_read_drill) := ⟨rfl, rfl, rfl, by decide +kernel, rfl, by decide +kernel, by decide +kernel⟩
abbrev s_l_cart_of : Stmt := topS 30
theorem sc_l_cart_of : FnScope ["_law_script", "_law_k", "_law_cell"] ["_law_script", "_law_k"] (defScope s_l_cart_of) := ⟨rfl, rfl, rfl, by decide +kernel, rfl, by decide +kernel, by decide +kernel⟩
abbrev s_l_take : Stmt := topS 31
theorem sc_l_take : FnScope ["_law_cart", "_law_many", "_law_found", "_law_wide"] ["_law_cart", "_law_many"] (defScope s_l_take) := ⟨rfl, rfl, rfl, by decide +kernel, rfl, by decide +kernel, by decide +kernel⟩
abbrev s_l_any : Stmt := topS 32
theorem sc_l_any : FnScope ["_law_cart", "_law_things"] ["_law_cart", "_law_things"] (defScope s_l_any) := ⟨rfl, rfl, rfl, by decide +kernel, rfl, by decide +kernel, by decide +kernel⟩
abbrev s_l_deed : Stmt := topS 33
theorem sc_l_deed : FnScope ["_law_cart", "_law_wide", "_law_word_here", "_law_most"] ["_law_cart", "_law_wide"] (defScope s_l_deed) := ⟨rfl, rfl, rfl, by decide +kernel, rfl, by decide +kernel, by decide +kernel⟩
abbrev s_l_deeds : Stmt := topS 34
theorem sc_l_deeds : FnScope ["_law_cart", "_law_most", "_law_wide", "_law_turn"] ["_law_cart", "_law_most", "_law_wide"] (defScope s_l_deeds) := ⟨rfl, rfl, rfl, by decide +kernel, rfl, by decide +kernel, by decide +kernel⟩
abbrev s_l_work : Stmt := topS 35
theorem sc_l_work : FnScope ["_law_cart", "_law_most"] ["_law_cart", "_law_most"] (defScope s_l_work) := ⟨rfl, rfl, rfl, by decide +kernel, rfl, by decide +kernel, by decide +kernel⟩
abbrev s_l_word : Stmt := topS 36
theorem sc_l_word : FnScope ["_law_call", "_law_found", "e"] ["_law_call"] (defScope s_l_word) := ⟨rfl, rfl, rfl, by decide +kernel, rfl, by decide +kernel, by decide +kernel⟩
abbrev s_l_number : Stmt := topS 37
theorem sc_l_number : FnScope ["_law_word_here", "_law_least", "_law_most"] ["_law_word_here", "_law_least", "_law_most"] (defScope s_l_number) := ⟨rfl, rfl, rfl, by decide +kernel, rfl, by decide +kernel, by decide +kernel⟩
abbrev s_l_line : Stmt := topS 38
theorem sc_l_line : FnScope ["_law_line_here", "_law_words", "_law_least", "_law_word_here", "_law_bounds_so", "_law_found", "_law_pair", "_law_number_here"] ["_law_line_here"] (defScope s_l_line) := ⟨rfl, rfl, rfl, by decide +kernel, rfl, by decide +kernel, by decide +kernel⟩
abbrev s_l_due : Stmt := topS 39
theorem sc_l_due : FnScope ["_law_value", "_law_rows", "_law_gaps", "_law_line_here", "_law_row"] ["_law_value"] (defScope s_l_due) := ⟨rfl, rfl, rfl, by decide +kernel, rfl, by decide +kernel, by decide +kernel⟩
abbrev s_l_tried : Stmt := topS 40
theorem sc_l_tried : FnScope ["_law_value", "_law_word_here"] ["_law_value"] (defScope s_l_tried) := ⟨rfl, rfl, rfl, by decide +kernel, rfl, by decide +kernel, by decide +kernel⟩
abbrev s_l_bent : Stmt := topS 41
theorem sc_l_bent : FnScope ["_law_cart", "_law_text", "_law_signs", "_law_at", "_law_lines", "_law_here", "_law_some"] ["_law_cart", "_law_text"] (defScope s_l_bent) := ⟨rfl, rfl, rfl, by decide +kernel, rfl, by decide +kernel, by decide +kernel⟩
abbrev s_law : Stmt := topS 42
theorem sc_law : FnScope ["_law_script", "_law_k", "_law_rows", "_law_cart", "_law_turn", "_law_odd", "_law_work_here", "_law_lines", "_law_first", "_law_text", "_law_again", "_law_run", "_law_word_here", "_law_item"] ["_law_script"] (defScope s_law) := ⟨rfl, rfl, rfl, by decide +kernel, rfl, by decide +kernel, by decide +kernel⟩
abbrev s_ini_InvalidText : Stmt := match topS 12 with
  | .ClassDef _ _ _ b _ _ _ _ _ _ _ => b.getD 0 (.Pass ⟨0, 0, 0, 0⟩)
  | _ => .Pass ⟨0, 0, 0, 0⟩
theorem sc_ini_InvalidText : FnScope ["self", "line"] ["self", "line"] (defScope s_ini_InvalidText) := ⟨rfl, rfl, rfl, by decide +kernel, rfl, by decide +kernel, by decide +kernel⟩
structure Md (K : PySem.W.Frag) (mg : Str → Option Value) where
  f_is_int : Addr
  d_is_int : FuncData
  F_is_int : Fun K "is_int" "is_int" s_is_int f_is_int d_is_int
  g_is_int : mg "is_int" = some (.ref f_is_int)
  n_is_int : PySem.W.nsIn K mainGlobals "is_int" = some (some (.ref f_is_int))
  b_is_int : Binds K d_is_int ["value", "low", "high"] []
  f_is_a_run : Addr
  d_is_a_run : FuncData
  F_is_a_run : Fun K "is_a_run" "is_a_run" s_is_a_run f_is_a_run d_is_a_run
  g_is_a_run : mg "is_a_run" = some (.ref f_is_a_run)
  n_is_a_run : PySem.W.nsIn K mainGlobals "is_a_run" = some (some (.ref f_is_a_run))
  b_is_a_run : Binds K d_is_a_run ["value"] []
  f_fits : Addr
  d_fits : FuncData
  F_fits : Fun K "fits" "fits" s_fits f_fits d_fits
  g_fits : mg "fits" = some (.ref f_fits)
  n_fits : PySem.W.nsIn K mainGlobals "fits" = some (some (.ref f_fits))
  b_fits : Binds K d_fits ["value"] []
  f_need_drill : Addr
  d_need_drill : FuncData
  F_need_drill : Fun K "need_drill" "need_drill" s_need_drill f_need_drill d_need_drill
  g_need_drill : mg "need_drill" = some (.ref f_need_drill)
  n_need_drill : PySem.W.nsIn K mainGlobals "need_drill" = some (some (.ref f_need_drill))
  b_need_drill : Binds K d_need_drill ["value"] []
  f_text_of : Addr
  d_text_of : FuncData
  F_text_of : Fun K "text_of" "text_of" s_text_of f_text_of d_text_of
  g_text_of : mg "text_of" = some (.ref f_text_of)
  n_text_of : PySem.W.nsIn K mainGlobals "text_of" = some (some (.ref f_text_of))
  b_text_of : Binds K d_text_of ["drill"] []
  f_number_in : Addr
  d_number_in : FuncData
  F_number_in : Fun K "number_in" "number_in" s_number_in f_number_in d_number_in
  g_number_in : mg "number_in" = some (.ref f_number_in)
  n_number_in : PySem.W.nsIn K mainGlobals "number_in" = some (some (.ref f_number_in))
  b_number_in : Binds K d_number_in ["word"] []
  f_line_in : Addr
  d_line_in : FuncData
  F_line_in : Fun K "line_in" "line_in" s_line_in f_line_in d_line_in
  g_line_in : mg "line_in" = some (.ref f_line_in)
  n_line_in : PySem.W.nsIn K mainGlobals "line_in" = some (some (.ref f_line_in))
  b_line_in : Binds K d_line_in ["line"] []
  f_drill_in : Addr
  d_drill_in : FuncData
  F_drill_in : Fun K "drill_in" "drill_in" s_drill_in f_drill_in d_drill_in
  g_drill_in : mg "drill_in" = some (.ref f_drill_in)
  n_drill_in : PySem.W.nsIn K mainGlobals "drill_in" = some (some (.ref f_drill_in))
  b_drill_in : Binds K d_drill_in ["value"] []
  f_drill_text : Addr
  d_drill_text : FuncData
  F_drill_text : Fun K "drill_text" "drill_text" s_drill_text f_drill_text d_drill_text
  g_drill_text : mg "drill_text" = some (.ref f_drill_text)
  n_drill_text : PySem.W.nsIn K mainGlobals "drill_text" = some (some (.ref f_drill_text))
  b_drill_text : Binds K d_drill_text ["drill"] []
  f_read_drill : Addr
  d_read_drill : FuncData
  F_read_drill : Fun K "read_drill" "read_drill" s_read_drill f_read_drill d_read_drill
  g_read_drill : mg "read_drill" = some (.ref f_read_drill)
  n_read_drill : PySem.W.nsIn K mainGlobals "read_drill" = some (some (.ref f_read_drill))
  b_read_drill : Binds K d_read_drill ["value"] []
  f_l_cart_of : Addr
  d_l_cart_of : FuncData
  F_l_cart_of : Fun K "_law_cart_of" "_law_cart_of" s_l_cart_of f_l_cart_of d_l_cart_of
  g_l_cart_of : mg "_law_cart_of" = some (.ref f_l_cart_of)
  n_l_cart_of : PySem.W.nsIn K mainGlobals "_law_cart_of" = some (some (.ref f_l_cart_of))
  b_l_cart_of : Binds K d_l_cart_of ["_law_script", "_law_k"] []
  f_l_take : Addr
  d_l_take : FuncData
  F_l_take : Fun K "_law_take" "_law_take" s_l_take f_l_take d_l_take
  g_l_take : mg "_law_take" = some (.ref f_l_take)
  n_l_take : PySem.W.nsIn K mainGlobals "_law_take" = some (some (.ref f_l_take))
  b_l_take : Binds K d_l_take ["_law_cart", "_law_many"] []
  f_l_any : Addr
  d_l_any : FuncData
  F_l_any : Fun K "_law_any" "_law_any" s_l_any f_l_any d_l_any
  g_l_any : mg "_law_any" = some (.ref f_l_any)
  n_l_any : PySem.W.nsIn K mainGlobals "_law_any" = some (some (.ref f_l_any))
  b_l_any : Binds K d_l_any ["_law_cart", "_law_things"] []
  f_l_deed : Addr
  d_l_deed : FuncData
  F_l_deed : Fun K "_law_deed" "_law_deed" s_l_deed f_l_deed d_l_deed
  g_l_deed : mg "_law_deed" = some (.ref f_l_deed)
  n_l_deed : PySem.W.nsIn K mainGlobals "_law_deed" = some (some (.ref f_l_deed))
  b_l_deed : Binds K d_l_deed ["_law_cart", "_law_wide"] []
  f_l_deeds : Addr
  d_l_deeds : FuncData
  F_l_deeds : Fun K "_law_deeds" "_law_deeds" s_l_deeds f_l_deeds d_l_deeds
  g_l_deeds : mg "_law_deeds" = some (.ref f_l_deeds)
  n_l_deeds : PySem.W.nsIn K mainGlobals "_law_deeds" = some (some (.ref f_l_deeds))
  b_l_deeds : Binds K d_l_deeds ["_law_cart", "_law_most", "_law_wide"] []
  f_l_work : Addr
  d_l_work : FuncData
  F_l_work : Fun K "_law_work" "_law_work" s_l_work f_l_work d_l_work
  g_l_work : mg "_law_work" = some (.ref f_l_work)
  n_l_work : PySem.W.nsIn K mainGlobals "_law_work" = some (some (.ref f_l_work))
  b_l_work : Binds K d_l_work ["_law_cart", "_law_most"] []
  f_l_word : Addr
  d_l_word : FuncData
  F_l_word : Fun K "_law_word" "_law_word" s_l_word f_l_word d_l_word
  g_l_word : mg "_law_word" = some (.ref f_l_word)
  n_l_word : PySem.W.nsIn K mainGlobals "_law_word" = some (some (.ref f_l_word))
  b_l_word : Binds K d_l_word ["_law_call"] []
  f_l_number : Addr
  d_l_number : FuncData
  F_l_number : Fun K "_law_number" "_law_number" s_l_number f_l_number d_l_number
  g_l_number : mg "_law_number" = some (.ref f_l_number)
  n_l_number : PySem.W.nsIn K mainGlobals "_law_number" = some (some (.ref f_l_number))
  b_l_number : Binds K d_l_number ["_law_word_here", "_law_least", "_law_most"] []
  f_l_line : Addr
  d_l_line : FuncData
  F_l_line : Fun K "_law_line" "_law_line" s_l_line f_l_line d_l_line
  g_l_line : mg "_law_line" = some (.ref f_l_line)
  n_l_line : PySem.W.nsIn K mainGlobals "_law_line" = some (some (.ref f_l_line))
  b_l_line : Binds K d_l_line ["_law_line_here"] []
  f_l_due : Addr
  d_l_due : FuncData
  F_l_due : Fun K "_law_due" "_law_due" s_l_due f_l_due d_l_due
  g_l_due : mg "_law_due" = some (.ref f_l_due)
  n_l_due : PySem.W.nsIn K mainGlobals "_law_due" = some (some (.ref f_l_due))
  b_l_due : Binds K d_l_due ["_law_value"] []
  f_l_tried : Addr
  d_l_tried : FuncData
  F_l_tried : Fun K "_law_tried" "_law_tried" s_l_tried f_l_tried d_l_tried
  g_l_tried : mg "_law_tried" = some (.ref f_l_tried)
  n_l_tried : PySem.W.nsIn K mainGlobals "_law_tried" = some (some (.ref f_l_tried))
  b_l_tried : Binds K d_l_tried ["_law_value"] []
  c_l_tried : Addr
  P_l_tried : Addr
  (o1_l_tried o2_l_tried o3_l_tried o4_l_tried o5_l_tried : Value)
  (u1_l_tried u2_l_tried : Option Addr)
  us_l_tried : Array (Option Value)
  lk_l_tried : K.lookup f_l_tried = some ⟨o1_l_tried, u1_l_tried, .func (PySem.W.fnOf "_law_tried" "_law_tried" (defArgs s_l_tried) (defBody s_l_tried) (defScope s_l_tried) .none o2_l_tried o3_l_tried o4_l_tried u2_l_tried (.ref c_l_tried) o5_l_tried), us_l_tried⟩
  cd_l_tried : PySem.W.codeIn K (.ref c_l_tried) "_law_tried" = true
  db_l_tried : d_l_tried = PySem.W.fnOf "_law_tried" "_law_tried" (defArgs s_l_tried) (defBody s_l_tried) (defScope s_l_tried) .none o2_l_tried o3_l_tried o4_l_tried u2_l_tried (.ref c_l_tried) o5_l_tried
  tm_l_tried : (P_l_tried, (("_law_tried" : Str) ++ ".<locals>." ++ "<lambda>")) ∈ tabsOf K
  tu_l_tried : ∀ p ∈ tabsOf K, p.1 = P_l_tried → p.2 = (("_law_tried" : Str) ++ ".<locals>." ++ "<lambda>")
  f_l_bent : Addr
  d_l_bent : FuncData
  F_l_bent : Fun K "_law_bent" "_law_bent" s_l_bent f_l_bent d_l_bent
  g_l_bent : mg "_law_bent" = some (.ref f_l_bent)
  n_l_bent : PySem.W.nsIn K mainGlobals "_law_bent" = some (some (.ref f_l_bent))
  b_l_bent : Binds K d_l_bent ["_law_cart", "_law_text"] []
  f_law : Addr
  d_law : FuncData
  F_law : Fun K "law" "law" s_law f_law d_law
  g_law : mg "law" = some (.ref f_law)
  n_law : PySem.W.nsIn K mainGlobals "law" = some (some (.ref f_law))
  b_law : Binds K d_law ["_law_script"] []
  C_InvalidDrill : Addr
  e_InvalidDrill : ExcC K mg "InvalidDrill" C_InvalidDrill
  C_InvalidBeginning : Addr
  e_InvalidBeginning : ExcC K mg "InvalidBeginning" C_InvalidBeginning
  C_InvalidMany : Addr
  e_InvalidMany : ExcC K mg "InvalidMany" C_InvalidMany
  C_InvalidSheep : Addr
  e_InvalidSheep : ExcC K mg "InvalidSheep" C_InvalidSheep
  C_InvalidPlace : Addr
  e_InvalidPlace : ExcC K mg "InvalidPlace" C_InvalidPlace
  C_InvalidRun : Addr
  e_InvalidRun : ExcC K mg "InvalidRun" C_InvalidRun
  C_InvalidIndex : Addr
  e_InvalidIndex : ExcC K mg "InvalidIndex" C_InvalidIndex
  C_Unlike : Addr
  e_Unlike : ExcC K mg "Unlike" C_Unlike
  C_NothingToUndo : Addr
  e_NothingToUndo : ExcC K mg "NothingToUndo" C_NothingToUndo
  C_DogError : Addr
  e_DogError : ExcC K mg "DogError" C_DogError
  C_TooMany : Addr
  c_TooMany : mg "TooMany" = some (.ref C_TooMany)
  C_InvalidText : Addr
  c_InvalidText : mg "InvalidText" = some (.ref C_InvalidText)
  n_TooMany : PySem.W.nsIn K mainGlobals "TooMany" = some (some (.ref C_TooMany))
  n_InvalidText : PySem.W.nsIn K mainGlobals "InvalidText" = some (some (.ref C_InvalidText))
  T_InvalidText : OexC K C_InvalidText
  I_InvalidText : Addr
  iC_InvalidText : PySem.W.findIn K (.ref C_InvalidText) "__init__" = some (some (.ref I_InvalidText))
  tI_InvalidText : PySem.W.typeIn K (.ref I_InvalidText) = some (.type "function")
  (oi1_InvalidText oi2_InvalidText oi3_InvalidText oi4_InvalidText oi5_InvalidText oi6_InvalidText : Value)
  (ui1_InvalidText ui2_InvalidText : Option Addr)
  usi_InvalidText : Array (Option Value)
  lkI_InvalidText : K.lookup I_InvalidText = some ⟨oi1_InvalidText, ui1_InvalidText, .func (PySem.W.fnOf "__init__" "InvalidText.__init__" (defArgs s_ini_InvalidText) (defBody s_ini_InvalidText) (defScope s_ini_InvalidText) .none oi2_InvalidText oi3_InvalidText oi4_InvalidText ui2_InvalidText oi5_InvalidText oi6_InvalidText), usi_InvalidText⟩
  cdI_InvalidText : PySem.W.codeIn K oi5_InvalidText "InvalidText.__init__" = true
  no_InvalidText : PySem.W.findIn K (.ref C_InvalidText) "line" = some none
  bI_InvalidText : Binds K (PySem.W.fnOf "__init__" "InvalidText.__init__" (defArgs s_ini_InvalidText) (defBody s_ini_InvalidText) (defScope s_ini_InvalidText) .none oi2_InvalidText oi3_InvalidText oi4_InvalidText ui2_InvalidText oi5_InvalidText oi6_InvalidText) ["self", "line"] []
  B_DogError : BaseC K mg "DogError" C_DogError
  FA : ∀ q ∈ fldN, ∀ C, PySem.W.nsIn K mainGlobals q.1 = some (some (.ref C)) → XfC K C ∧ PySem.W.findIn K (.ref C) q.2 = some none
  x_InvalidDrill_InvalidDrill : PySem.W.exmOne K (.ref C_InvalidDrill) (.ref C_InvalidDrill) = some true
  x_InvalidDrill_InvalidBeginning : PySem.W.exmOne K (.ref C_InvalidDrill) (.ref C_InvalidBeginning) = some false
  x_InvalidDrill_InvalidMany : PySem.W.exmOne K (.ref C_InvalidDrill) (.ref C_InvalidMany) = some false
  x_InvalidDrill_InvalidSheep : PySem.W.exmOne K (.ref C_InvalidDrill) (.ref C_InvalidSheep) = some false
  x_InvalidDrill_InvalidPlace : PySem.W.exmOne K (.ref C_InvalidDrill) (.ref C_InvalidPlace) = some false
  x_InvalidDrill_InvalidRun : PySem.W.exmOne K (.ref C_InvalidDrill) (.ref C_InvalidRun) = some false
  x_InvalidDrill_InvalidIndex : PySem.W.exmOne K (.ref C_InvalidDrill) (.ref C_InvalidIndex) = some false
  x_InvalidDrill_Unlike : PySem.W.exmOne K (.ref C_InvalidDrill) (.ref C_Unlike) = some false
  x_InvalidDrill_NothingToUndo : PySem.W.exmOne K (.ref C_InvalidDrill) (.ref C_NothingToUndo) = some false
  x_InvalidDrill_DogError : PySem.W.exmOne K (.ref C_InvalidDrill) (.ref C_DogError) = some true
  x_InvalidDrill_TooMany : PySem.W.exmOne K (.ref C_InvalidDrill) (.ref C_TooMany) = some false
  x_InvalidDrill_InvalidText : PySem.W.exmOne K (.ref C_InvalidDrill) (.ref C_InvalidText) = some false
  x_InvalidText_InvalidDrill : PySem.W.exmOne K (.ref C_InvalidText) (.ref C_InvalidDrill) = some false
  x_InvalidText_InvalidBeginning : PySem.W.exmOne K (.ref C_InvalidText) (.ref C_InvalidBeginning) = some false
  x_InvalidText_InvalidMany : PySem.W.exmOne K (.ref C_InvalidText) (.ref C_InvalidMany) = some false
  x_InvalidText_InvalidSheep : PySem.W.exmOne K (.ref C_InvalidText) (.ref C_InvalidSheep) = some false
  x_InvalidText_InvalidPlace : PySem.W.exmOne K (.ref C_InvalidText) (.ref C_InvalidPlace) = some false
  x_InvalidText_InvalidRun : PySem.W.exmOne K (.ref C_InvalidText) (.ref C_InvalidRun) = some false
  x_InvalidText_InvalidIndex : PySem.W.exmOne K (.ref C_InvalidText) (.ref C_InvalidIndex) = some false
  x_InvalidText_Unlike : PySem.W.exmOne K (.ref C_InvalidText) (.ref C_Unlike) = some false
  x_InvalidText_NothingToUndo : PySem.W.exmOne K (.ref C_InvalidText) (.ref C_NothingToUndo) = some false
  x_InvalidText_DogError : PySem.W.exmOne K (.ref C_InvalidText) (.ref C_DogError) = some true
  x_InvalidText_TooMany : PySem.W.exmOne K (.ref C_InvalidText) (.ref C_TooMany) = some false
  x_InvalidText_InvalidText : PySem.W.exmOne K (.ref C_InvalidText) (.ref C_InvalidText) = some true
  v_l_word : Value
  w_word : LWord K mg "_law_word" "_law_call" s_l_word ["_law_call", "_law_found", "e"] f_l_word v_l_word
  t_FAR : Tok
  g_FAR : mg "FAR" = some (.int 1000000000000 t_FAR)
  t_MOST_RUNS : Tok
  g_MOST_RUNS : mg "MOST_RUNS" = some (.int 8 t_MOST_RUNS)
  t_WIDEST : Tok
  g_WIDEST : mg "WIDEST" = some (.int 9 t_WIDEST)
  t_DEEPEST : Tok
  g_DEEPEST : mg "DEEPEST" = some (.int 3 t_DEEPEST)
  z_abs : mg "abs" = none
  z_bool : mg "bool" = none
  z_int : mg "int" = none
  z_isinstance : mg "isinstance" = none
  z_len : mg "len" = none
  z_min : mg "min" = none
  z_range : mg "range" = none
  z_str : mg "str" = none
  z_tuple : mg "tuple" = none
  z_zip : mg "zip" = none
section
variable {P : Program} {w : World} {K : PySem.W.Frag} {mg : Str → Option Value} {base : Heap}
theorem hu65 {A : Around} {k : Nat} (hr : Room k A) : A.units + 65 < cLine := by have := hr.un; omega
theorem ok_ini_InvalidText (M : Md K mg) : FnOk P w K mg base (L2.CX P w) 1 M.I_InvalidText (PySem.W.fnOf "__init__" "InvalidText.__init__" (defArgs s_ini_InvalidText) (defBody s_ini_InvalidText) (defScope s_ini_InvalidText) .none M.oi2_InvalidText M.oi3_InvalidText M.oi4_InvalidText M.ui2_InvalidText M.oi5_InvalidText M.oi6_InvalidText) ["self", "line"] (spI "line" M.C_InvalidText) :=
  fn_ini M.lkI_InvalidText M.cdI_InvalidText sc_ini_InvalidText rfl M.T_InvalidText M.no_InvalidText "no such text" (fun A outer s H E hr => pss_cons (ps_expr (pe_baseinit M.B_DogError (pa_cons (pe_var rfl (by first | exact Or.inl rfl | exact Or.inr (Or.inl rfl))) (pa_cons pe_str pa_nil)))) (pss_one (ps_ost (pe_var rfl (by first | exact Or.inl rfl | exact Or.inr (Or.inl rfl))) (pe_var rfl (by first | exact Or.inl rfl | exact Or.inr (Or.inl rfl))))))
theorem give_word {X : Cx} (M : Md X.K X.mg) (q : Str) (cdg : Value) : LamX.GivesTo X ["_law_call", "_law_found", "e"] "_law_word" (defScope s_l_word) M.f_l_word cdg (defBody s_l_word) "_law_call" q (TTd X.K (S_l_word ["InvalidDrill", "InvalidText"])) :=
  gives_D (n := 3) rfl (fun s H f G0 la0 c act => (dss_cons (ds_set 1 sc_l_word.nd (dl_dat de_str))
  (dss_cons (ds_tryF rfl rfl takes0 (fun W pn xe tk _ => dss_one (ds_expr (act W pn xe _ _ tk))) (.only ⟨rfl, by decide, .inl M.e_InvalidDrill.g⟩ (exq_cons M.e_InvalidDrill.n M.x_InvalidDrill_InvalidDrill (by decide) (exq_cons M.n_InvalidText M.x_InvalidText_InvalidDrill (by decide) exq_nil)) (fun _ _ _ => (dss_one (ds_set 1 sc_l_word.nd (dl_dat de_str)))) (.only ⟨rfl, by decide, .inl M.e_InvalidBeginning.g⟩ (exq_cons M.e_InvalidDrill.n M.x_InvalidDrill_InvalidBeginning (by decide) (exq_cons M.n_InvalidText M.x_InvalidText_InvalidBeginning (by decide) exq_nil)) (fun _ _ _ => (dss_one (ds_set 1 sc_l_word.nd (dl_dat de_str)))) (.only ⟨rfl, by decide, .inl M.e_InvalidMany.g⟩ (exq_cons M.e_InvalidDrill.n M.x_InvalidDrill_InvalidMany (by decide) (exq_cons M.n_InvalidText M.x_InvalidText_InvalidMany (by decide) exq_nil)) (fun _ _ _ => (dss_one (ds_set 1 sc_l_word.nd (dl_dat de_str)))) (.only ⟨rfl, by decide, .inl M.e_InvalidSheep.g⟩ (exq_cons M.e_InvalidDrill.n M.x_InvalidDrill_InvalidSheep (by decide) (exq_cons M.n_InvalidText M.x_InvalidText_InvalidSheep (by decide) exq_nil)) (fun _ _ _ => (dss_one (ds_set 1 sc_l_word.nd (dl_dat de_str)))) (.only ⟨rfl, by decide, .inl M.e_InvalidPlace.g⟩ (exq_cons M.e_InvalidDrill.n M.x_InvalidDrill_InvalidPlace (by decide) (exq_cons M.n_InvalidText M.x_InvalidText_InvalidPlace (by decide) exq_nil)) (fun _ _ _ => (dss_one (ds_set 1 sc_l_word.nd (dl_dat de_str)))) (.only ⟨rfl, by decide, .inl M.e_InvalidRun.g⟩ (exq_cons M.e_InvalidDrill.n M.x_InvalidDrill_InvalidRun (by decide) (exq_cons M.n_InvalidText M.x_InvalidText_InvalidRun (by decide) exq_nil)) (fun _ _ _ => (dss_one (ds_set 1 sc_l_word.nd (dl_dat de_str)))) (.only ⟨rfl, by decide, .inl M.e_InvalidIndex.g⟩ (exq_cons M.e_InvalidDrill.n M.x_InvalidDrill_InvalidIndex (by decide) (exq_cons M.n_InvalidText M.x_InvalidText_InvalidIndex (by decide) exq_nil)) (fun _ _ _ => (dss_one (ds_set 1 sc_l_word.nd (dl_dat de_str)))) (.only ⟨rfl, by decide, .inl M.e_Unlike.g⟩ (exq_cons M.e_InvalidDrill.n M.x_InvalidDrill_Unlike (by decide) (exq_cons M.n_InvalidText M.x_InvalidText_Unlike (by decide) exq_nil)) (fun _ _ _ => (dss_one (ds_set 1 sc_l_word.nd (dl_dat de_str)))) (.only ⟨rfl, by decide, .inl M.e_NothingToUndo.g⟩ (exq_cons M.e_InvalidDrill.n M.x_InvalidDrill_NothingToUndo (by decide) (exq_cons M.n_InvalidText M.x_InvalidText_NothingToUndo (by decide) exq_nil)) (fun _ _ _ => (dss_one (ds_set 1 sc_l_word.nd (dl_dat de_str)))) (.named (i := 2) (j := 1) (w := "full") (f := "limit") ⟨rfl, by decide, .inl M.c_TooMany⟩ sc_l_word.nd rfl rfl (exq_cons M.e_InvalidDrill.n M.x_InvalidDrill_TooMany (by decide) (exq_cons M.n_InvalidText M.x_InvalidText_TooMany (by decide) exq_nil)) M.n_TooMany rfl (fun a o cls d pn z f => pss_one (ps_set sc_l_word.nd rfl (by first | exact Or.inl rfl | exact Or.inr rfl) (pe_op op_add_str pe_str (pe_callTy call_str_int rfl M.z_str bt_str (pa_cons (pe_xf (M.FA ("TooMany", "limit") (by simp [fldN]) _ M.n_TooMany).1 (M.FA ("TooMany", "limit") (by simp [fldN]) _ M.n_TooMany).2 z f (pe_var rfl (by first | exact Or.inl rfl | exact Or.inr (Or.inl rfl) | exact Or.inr (Or.inr rfl)))) pa_nil))))) (.named (i := 2) (j := 1) (w := "text") (f := "line") ⟨rfl, by decide, .inl M.c_InvalidText⟩ sc_l_word.nd rfl rfl (exq_cons M.e_InvalidDrill.n M.x_InvalidDrill_InvalidText (by decide) (exq_cons M.n_InvalidText M.x_InvalidText_InvalidText (by decide) exq_nil)) M.n_InvalidText rfl (fun a o cls d pn z f => pss_one (ps_set sc_l_word.nd rfl (by first | exact Or.inl rfl | exact Or.inr rfl) (pe_op op_add_str pe_str (pe_callTy call_str_int rfl M.z_str bt_str (pa_cons (pe_xf (M.FA ("InvalidText", "line") (by simp [fldN]) _ M.n_InvalidText).1 (M.FA ("InvalidText", "line") (by simp [fldN]) _ M.n_InvalidText).2 z f (pe_var rfl (by first | exact Or.inl rfl | exact Or.inr (Or.inl rfl) | exact Or.inr (Or.inr rfl)))) pa_nil))))) (.only ⟨rfl, by decide, .inl M.e_DogError.g⟩ (exq_cons M.e_InvalidDrill.n M.x_InvalidDrill_DogError (by decide) (exq_cons M.n_InvalidText M.x_InvalidText_DogError (by decide) exq_nil)) (fun _ _ _ => (dss_one (ds_set 1 sc_l_word.nd (dl_dat de_str)))) .nil)))))))))))))
  (dss_one (ds_ret (dl_dat (de_var 1))))))) (fun f G0 la0 c T Q h => h_l_word _ f G0 la0 c T Q h)
theorem ok_is_int (M : Md K mg) : FnOk P w K mg base (L2.CX P w) 1 M.f_is_int M.d_is_int ["value", "low", "high"] (spD K 3 S_is_int) :=
  fn_D M.F_is_int sc_is_int rfl (fun cdv A outer s H E hr => (dss_one (ds_ret (dl_dat (de_and (de_cb call_isi c_isi M.z_isinstance bt_isinstance (da_cons (dl_dat (de_var 0)) (da_cons (dl_dat (de_ty M.z_int bt_int)) da_nil))) (de_and (de_not (de_cb call_isi c_isi M.z_isinstance bt_isinstance (da_cons (dl_dat (de_var 0)) (da_cons (dl_dat (de_ty M.z_bool bt_bool)) da_nil)))) (de_one (de_chain op_le op_le g_le g_le (de_var 1) (de_var 0) (de_var 2))))))))) h_is_int
theorem ok_text_of (M : Md K mg) : FnOk P w K mg base (L2.CX P w) 1 M.f_text_of M.d_text_of ["drill"] (spD K 1 S_text_of) :=
  fn_D M.F_text_of sc_text_of rfl (fun cdv A outer s H E hr => (dss_cons (ds_set 1 sc_text_of.nd (dl_dat (de_bin op_addA g_add (de_lst (da_cons (dl_dat (de_bin op_addA g_add de_str (de_cty cr_str c_str M.z_str bt_str (da_cons (dl_dat (de_ix (de_var 0) de_int)) da_nil)))) da_nil)) (de_comp (own := [("run", 2)]) rfl sc_text_of.nd (di_seq (de_ix (de_var 0) de_int)) (by kernel_rfl) (fun _ _ _ _ _ => (dg_name 2 sc_text_of.nd)) (fun _ _ _ _ _ => dts_nil) (fun _ _ _ _ _ => (de_join de_str (de_comp (own := [("item", 3)]) rfl sc_text_of.nd (di_seq (de_var 2)) (by kernel_rfl) (fun _ _ _ _ _ => (dg_name 3 sc_text_of.nd)) (fun _ _ _ _ _ => dts_nil) (fun _ _ _ _ _ => (de_cty cr_str c_str M.z_str bt_str (da_cons (dl_dat (de_var 3)) da_nil))))))))))
  (dss_one (ds_ret (dl_dat (de_join de_str (de_var 1))))))) h_text_of
theorem ok_number_in (M : Md K mg) : FnOk P w K mg base (L2.CX P w) 1 M.f_number_in M.d_number_in ["word"] (spD K 1 S_number_in) :=
  fn_D M.F_number_in sc_number_in rfl (fun cdv A outer s H E hr => (dss_cons (ds_if (dw (dw_or (dt_cmp (op_eqP hr.units) g_eq (de_var 0) de_str (nomark _)) (dw_or (dt_cmp op_gt g_gt (de_len M.z_len (da_cons (dl_dat (de_var 0)) da_nil)) de_int (nomark _)) (dw_or1 (dt_cmp (op_neP hr.units) g_ne (de_comp (own := [("sign", 1)]) rfl sc_number_in.nd (di_sgn (de_var 0)) (by kernel_rfl) (fun _ _ _ _ _ => (dg_name 1 sc_number_in.nd)) (fun _ _ _ _ _ => (dts_one (dt_cmp op_notIn_sign g_ninS (de_var 1) de_str (by with_unfolding_all rfl)))) (fun _ _ _ _ _ => (de_var 1))) (de_lst da_nil) (nomark _)))))) (dss_one (ds_ret (dl_dat de_non))) dss_nil)
  (dss_one (ds_ret (dl_dat (de_if (dt_cmp (op_eqP hr.units) g_eq (de_cty cr_str c_str M.z_str bt_str (da_cons (dl_dat (de_cty call_int_str c_intS M.z_int bt_int (da_cons (dl_dat (de_var 0)) da_nil))) da_nil)) (de_var 0) (nomark _)) (de_cty call_int_str c_intS M.z_int bt_int (da_cons (dl_dat (de_var 0)) da_nil)) de_non)))))) h_number_in
theorem ok_l_cart_of (M : Md K mg) : FnOk P w K mg base (L2.CX P w) 1 M.f_l_cart_of M.d_l_cart_of ["_law_script", "_law_k"] (spD K 2 S_l_cart_of) :=
  fn_D M.F_l_cart_of sc_l_cart_of rfl (fun cdv A outer s H E hr => (dss_cons (ds_set 2 sc_l_cart_of.nd (dl_dat (de_bin op_addA g_add (de_bin op_mulB g_mulB de_int (de_var 1)) de_int)))
  (dss_cons (ds_if (dt_cmp op_lt g_lt (de_var 1) (de_len M.z_len (da_cons (dl_dat (de_var 0)) da_nil)) (nomark _)) (dss_one (ds_set 2 sc_l_cart_of.nd (dl_dat (de_bin op_mod g_mod (de_cb call_abs c_abs M.z_abs bt_abs (da_cons (dl_dat (de_cty call_int1 c_int M.z_int bt_int (da_cons (dl_dat (de_ix (de_var 0) (de_var 1))) da_nil))) da_nil)) (de_bin op_mulB g_mulB (de_bin op_mulB g_mulB (de_bin op_mulB g_mulB (de_bin op_pow g_pow de_int de_int) (de_bin op_pow g_pow de_int de_int)) (de_bin op_pow g_pow de_int de_int)) (de_bin op_pow g_pow de_int de_int)))))) (dss_one (ds_if (dt_cmp op_gt g_gt (de_len M.z_len (da_cons (dl_dat (de_var 0)) da_nil)) de_int (nomark _)) (dss_one (ds_set 2 sc_l_cart_of.nd (dl_dat (de_bin op_addA g_add (de_var 2) (de_bin op_mod g_mod (de_cb call_abs c_abs M.z_abs bt_abs (da_cons (dl_dat (de_cty call_int1 c_int M.z_int bt_int (da_cons (dl_dat (de_ix (de_var 0) de_int)) da_nil))) da_nil)) de_int))))) dss_nil)))
  (dss_one (ds_ret (dl_new (da_cons (dl_dat (de_if (dt_cmp op_ge g_ge (de_var 2) (de_bin op_pow g_pow de_int de_int) (nomark _)) (de_var 2) de_int)) (da_cons (dl_dat (de_bin op_addA g_add (de_bin op_mod g_mod (de_cty call_int1 c_int M.z_int bt_int (da_cons (dl_dat (de_bin op_addA g_add (de_bin op_addA g_add (de_bin op_mulB g_mulB (de_bin op_mod g_mod (de_var 2) de_int) de_int) (de_bin op_mulB g_mulB de_int (de_var 1))) de_int)) da_nil)) de_int) de_int)) da_nil)))))))) h_l_cart_of
theorem ok_l_take (M : Md K mg) : FnOk P w K mg base (L2.CX P w) 1 M.f_l_take M.d_l_take ["_law_cart", "_law_many"] (spD K 2 S_l_take) :=
  fn_D M.F_l_take sc_l_take rfl (fun cdv A outer s H E hr => (dss_cons (ds_if (dt_cmp op_gt g_gt (de_ixO 0 de_int) de_int (nomark _)) (dss_cons (ds_set 2 sc_l_take.nd (dl_dat (de_bin op_mod g_mod (de_cty call_int1 c_int M.z_int bt_int (da_cons (dl_dat (de_ixO 0 de_int)) da_nil)) (de_var 1))))
  (dss_cons (ds_setix 0 (de_bin op_fdivW g_div (de_ixO 0 de_int) (de_var 1)) de_int)
  (dss_one (ds_ret (dl_dat (de_var 2)))))) dss_nil)
  (dss_cons (ds_to (de_tup (da_cons (dl_dat de_int) (da_cons (dl_dat de_int) da_nil))) (dg_tup rfl (dgs_cons (dg_name 2 sc_l_take.nd) (dgs_cons (dg_name 3 sc_l_take.nd) dgs_nil))))
  (dss_cons (ds_while (passes_of rfl) (dw (dw_or (dt_cmp op_lt g_lt (de_var 3) (de_var 1) (nomark _)) (dw_or1 (dt_cmp (op_eqP hr.units) g_eq (de_var 3) de_int (nomark _))))) (dss_cons (ds_setix 0 (de_bin op_mod g_mod (de_cty call_int1 c_int M.z_int bt_int (da_cons (dl_dat (de_bin op_addA g_add (de_bin op_mulB g_mulB (de_ixO 0 de_int) de_int) de_int)) da_nil)) de_int) de_int)
  (dss_cons (ds_set 2 sc_l_take.nd (dl_dat (de_bin op_addA g_add (de_bin op_mulB g_mulB (de_var 2) de_int) (de_bin op_mod g_mod (de_cty call_int1 c_int M.z_int bt_int (da_cons (dl_dat (de_bin op_fdivW g_div (de_ixO 0 de_int) de_int)) da_nil)) de_int))))
  (dss_one (ds_set 3 sc_l_take.nd (dl_dat (de_bin op_mulB g_mulB (de_var 3) de_int)))))))
  (dss_one (ds_ret (dl_dat (de_bin op_mod g_mod (de_cty call_int1 c_int M.z_int bt_int (da_cons (dl_dat (de_var 2)) da_nil)) (de_var 1))))))))) h_l_take
theorem ok_l_number (M : Md K mg) : FnOk P w K mg base (L2.CX P w) 1 M.f_l_number M.d_l_number ["_law_word_here", "_law_least", "_law_most"] (spD K 3 S_l_number) :=
  fn_D M.F_l_number sc_l_number rfl (fun cdv A outer s H E hr => (dss_cons (ds_if (dw (dw_or (dt_not (dt_chain op_le op_le g_le g_le de_int (de_len M.z_len (da_cons (dl_dat (de_var 0)) da_nil)) de_int)) (dw_or (dt_cmp (op_neP hr.units) g_ne (de_strip (de_var 0) de_str) de_str (nomark _)) (dw_or1 (dw (dw_and (dt_cmp (op_eqP hr.units) g_eq (de_ix (de_var 0) de_int) de_str (nomark _)) (dw_and1 (dt_cmp (op_neP hr.units) g_ne (de_var 0) de_str (nomark _))))))))) (dss_one (ds_ret (dl_dat de_non))) dss_nil)
  (dss_one (ds_ret (dl_dat (de_if (dt_chain op_le op_le g_le g_le (de_var 1) (de_cty call_int_str c_intS M.z_int bt_int (da_cons (dl_dat (de_var 0)) da_nil)) (de_var 2)) (de_cty call_int_str c_intS M.z_int bt_int (da_cons (dl_dat (de_var 0)) da_nil)) de_non)))))) h_l_number
theorem ok_is_a_run (M : Md K mg) : FnOk P w K mg base (L2.CX P w) 2 M.f_is_a_run M.d_is_a_run ["value"] (spD K 1 S_is_a_run) :=
  fn_D M.F_is_a_run sc_is_a_run rfl (fun cdv A outer s H E hr => (dss_cons (ds_if (dw (dw_or (dt_not (dt_of (de_cb call_isi c_isi M.z_isinstance bt_isinstance (da_cons (dl_dat (de_var 0)) (da_cons (dl_dat (de_ty M.z_tuple bt_tuple)) da_nil))))) (dw_or (dt_cmp (op_eqP hr.units) g_eq (de_var 0) (de_tup da_nil) (nomark _)) (dw_or1 (dt_not (dt_of (de_cb call_isi c_isi M.z_isinstance bt_isinstance (da_cons (dl_dat (de_ix (de_var 0) de_int)) (da_cons (dl_dat (de_ty M.z_str bt_str)) da_nil))))))))) (dss_one (ds_ret (dl_dat de_bl))) dss_nil)
  (dss_cons (ds_if (dt_cmp (op_eqP hr.units) g_eq (de_ix (de_var 0) de_int) de_str (nomark _)) (dss_one (ds_ret (dl_dat (de_and (de_cmp (op_eqP hr.units) g_eq (de_len M.z_len (da_cons (dl_dat (de_var 0)) da_nil)) de_int (nomark _)) (de_one (de_val (dl_call (ok_is_int M) (hr.mono (by decide)) M.g_is_int M.F_is_int.kp M.b_is_int (takes_of rfl rfl rfl rfl) (da_cons (dl_dat (de_ix (de_var 0) de_int)) (da_cons (dl_dat de_int) (da_cons (dl_dat (de_gint M.g_FAR)) da_nil)))))))))) dss_nil)
  (dss_cons (ds_if (dt_cmp (op_eqP hr.units) g_eq (de_ix (de_var 0) de_int) de_str (nomark _)) (dss_one (ds_ret (dl_dat (de_and (de_cmp (op_eqP hr.units) g_eq (de_len M.z_len (da_cons (dl_dat (de_var 0)) da_nil)) de_int (nomark _)) (de_one (de_val (dl_call (ok_is_int M) (hr.mono (by decide)) M.g_is_int M.F_is_int.kp M.b_is_int (takes_of rfl rfl rfl rfl) (da_cons (dl_dat (de_ix (de_var 0) de_int)) (da_cons (dl_dat de_int) (da_cons (dl_dat (de_gint M.g_FAR)) da_nil)))))))))) dss_nil)
  (dss_cons (ds_if (dw (dw_or (dt_cmp (op_ninP hr.units) (g_in true) (de_ix (de_var 0) de_int) (de_tup (da_cons (dl_dat de_str) (da_cons (dl_dat de_str) da_nil))) (by with_unfolding_all rfl)) (dw_or1 (dt_cmp (op_neP hr.units) g_ne (de_len M.z_len (da_cons (dl_dat (de_var 0)) da_nil)) de_int (nomark _))))) (dss_one (ds_ret (dl_dat de_bl))) dss_nil)
  (dss_one (ds_ret (dl_dat (de_and (de_val (dl_call (ok_is_int M) (hr.mono (by decide)) M.g_is_int M.F_is_int.kp M.b_is_int (takes_of rfl rfl rfl rfl) (da_cons (dl_dat (de_ix (de_var 0) de_int)) (da_cons (dl_dat de_int) (da_cons (dl_dat (de_gint M.g_DEEPEST)) da_nil))))) (de_one (de_val (dl_call (ok_is_int M) (hr.mono (by decide)) M.g_is_int M.F_is_int.kp M.b_is_int (takes_of rfl rfl rfl rfl) (da_cons (dl_dat (de_ix (de_var 0) de_int)) (da_cons (dl_dat de_int) (da_cons (dl_dat (de_gint M.g_FAR)) da_nil))))))))))))))) h_is_a_run
theorem ok_l_any (M : Md K mg) : FnOk P w K mg base (L2.CX P w) 2 M.f_l_any M.d_l_any ["_law_cart", "_law_things"] (spD K 2 S_l_any) :=
  fn_D M.F_l_any sc_l_any rfl (fun cdv A outer s H E hr => (dss_one (ds_ret (dl_dat (de_ix (de_var 1) (de_val (dl_call (ok_l_take M) (hr.mono (by decide)) M.g_l_take M.F_l_take.kp M.b_l_take (takes_of rfl rfl rfl rfl) (da_cons (dl_var 0) (da_cons (dl_dat (de_len M.z_len (da_cons (dl_dat (de_var 1)) da_nil))) da_nil))))))))) h_l_any
theorem ok_l_line (M : Md K mg) : FnOk P w K mg base (L2.CX P w) 2 M.f_l_line M.d_l_line ["_law_line_here"] (spD K 1 S_l_line) :=
  fn_D M.F_l_line sc_l_line rfl (fun cdv A outer s H E hr => (dss_cons (ds_set 1 sc_l_line.nd (dl_dat (de_split (de_var 0) de_str)))
  (dss_cons (ds_set 2 sc_l_line.nd (dl_dict (kfs := [("gap", (dLst (dCons (dDat (dTup (dCons (dDat (dC (.int 1))) (dCons (dDat (dC (.int 9))) dNil)))) dNil))), ("to", (dLst (dCons (dDat (dTup (dCons (dDat (dC (.int 0))) (dCons (dDat (dBin gPow (dC (.int 10)) (dC (.int 12)))) dNil)))) dNil))), ("bark", (dLst (dCons (dDat (dTup (dCons (dDat (dC (.int 1))) (dCons (dDat (dBin gPow (dC (.int 10)) (dC (.int 12)))) dNil)))) dNil)))]) (pps_cons pe_str (de_lst (da_cons (dl_dat (de_tup (da_cons (dl_dat de_int) (da_cons (dl_dat de_int) da_nil)))) da_nil)) (pps_cons pe_str (de_lst (da_cons (dl_dat (de_tup (da_cons (dl_dat de_int) (da_cons (dl_dat (de_bin op_pow g_pow de_int de_int)) da_nil)))) da_nil)) (pps_cons pe_str (de_lst (da_cons (dl_dat (de_tup (da_cons (dl_dat de_int) (da_cons (dl_dat (de_bin op_pow g_pow de_int de_int)) da_nil)))) da_nil)) pps_nil)))))
  (dss_cons (ds_for (passes_of rfl) rfl (di_seq (de_lst (da_cons (dl_dat de_str) (da_cons (dl_dat de_str) da_nil)))) (dg_name 3 sc_l_line.nd) (dss_one (ds_setD 2 (hu_of hr) (de_lst (da_cons (dl_dat (de_tup (da_cons (dl_dat de_int) (da_cons (dl_dat de_int) da_nil)))) (da_cons (dl_dat (de_tup (da_cons (dl_dat de_int) (da_cons (dl_dat (de_bin op_pow g_pow de_int de_int)) da_nil)))) da_nil))) (de_var 3))))
  (dss_cons (ds_set 4 sc_l_line.nd (dl_dat (de_getD 2 (hu_of hr) (de_ix (de_var 1) de_int) de_non)))
  (dss_cons (ds_if (dw (dw_or (dt_cmp op_isN g_isN (de_var 4) de_non (nomark _)) (dw_or1 (dt_cmp (op_neP hr.units) g_ne (de_len M.z_len (da_cons (dl_dat (de_var 1)) da_nil)) (de_bin op_addA g_add (de_len M.z_len (da_cons (dl_dat (de_var 4)) da_nil)) de_int) (nomark _))))) (dss_one (ds_ret (dl_dat de_non))) dss_nil)
  (dss_cons (ds_set 5 sc_l_line.nd (dl_dat (de_tup (da_cons (dl_dat (de_ix (de_var 1) de_int)) da_nil))))
  (dss_cons (ds_for (passes_of rfl) rfl (di_zip M.z_zip (da_cons (dl_dat (de_sl (de_var 1) (do_some de_int) do_none)) (da_cons (dl_dat (de_var 4)) da_nil))) (dg_tup rfl (dgs_cons (dg_name 3 sc_l_line.nd) (dgs_cons (dg_name 6 sc_l_line.nd) dgs_nil))) (dss_cons (ds_set 7 sc_l_line.nd (dl_dat (de_val (dl_call (ok_l_number M) (hr.mono (by decide)) M.g_l_number M.F_l_number.kp M.b_l_number (takes_of rfl rfl rfl rfl) (da_cons (dl_dat (de_var 3)) (da_cons (dl_dat (de_ix (de_var 6) de_int)) (da_cons (dl_dat (de_ix (de_var 6) de_int)) da_nil)))))))
  (dss_cons (ds_if (dt_cmp op_isN g_isN (de_var 7) de_non (nomark _)) (dss_one (ds_ret (dl_dat de_non))) dss_nil)
  (dss_one (ds_set 5 sc_l_line.nd (dl_dat (de_bin op_addA g_add (de_var 5) (de_tup (da_cons (dl_dat (de_var 7)) da_nil)))))))))
  (dss_one (ds_ret (dl_dat (de_var 5)))))))))))) h_l_line
theorem ok_fits (M : Md K mg) : FnOk P w K mg base (L2.CX P w) 3 M.f_fits M.d_fits ["value"] (spD K 1 S_fits) :=
  fn_D M.F_fits sc_fits rfl (fun cdv A outer s H E hr => (dss_cons (ds_if (dw (dw_or (dt_not (dt_of (de_cb call_isi c_isi M.z_isinstance bt_isinstance (da_cons (dl_dat (de_var 0)) (da_cons (dl_dat (de_ty M.z_tuple bt_tuple)) da_nil))))) (dw_or (dt_cmp (op_neP hr.units) g_ne (de_len M.z_len (da_cons (dl_dat (de_var 0)) da_nil)) de_int (nomark _)) (dw_or1 (dt_not (dt_of (de_val (dl_call (ok_is_int M) (hr.mono (by decide)) M.g_is_int M.F_is_int.kp M.b_is_int (takes_of rfl rfl rfl rfl) (da_cons (dl_dat (de_ix (de_var 0) de_int)) (da_cons (dl_dat de_int) (da_cons (dl_dat (de_gint M.g_WIDEST)) da_nil))))))))))) (dss_one (ds_ret (dl_dat de_bl))) dss_nil)
  (dss_cons (ds_if (dw (dw_or (dt_not (dt_of (de_cb call_isi c_isi M.z_isinstance bt_isinstance (da_cons (dl_dat (de_ix (de_var 0) de_int)) (da_cons (dl_dat (de_ty M.z_tuple bt_tuple)) da_nil))))) (dw_or1 (dt_cmp op_gt g_gt (de_len M.z_len (da_cons (dl_dat (de_ix (de_var 0) de_int)) da_nil)) (de_gint M.g_MOST_RUNS) (nomark _))))) (dss_one (ds_ret (dl_dat de_bl))) dss_nil)
  (dss_one (ds_ret (dl_dat (de_cmp (op_eqP hr.units) g_eq (de_comp (own := [("run", 1)]) rfl sc_fits.nd (di_seq (de_ix (de_var 0) de_int)) (by kernel_rfl) (fun _ _ _ _ _ => (dg_name 1 sc_fits.nd)) (fun _ _ _ _ _ => (dts_one (dt_not (dt_of (de_val (dl_call (ok_is_a_run M) (hr.mono (by decide)) M.g_is_a_run M.F_is_a_run.kp M.b_is_a_run takes0' (da_cons (dl_dat (de_var 1)) da_nil))))))) (fun _ _ _ _ _ => (de_var 1))) (de_lst da_nil) (nomark _)))))))) h_fits
theorem ok_l_deed (M : Md K mg) : FnOk P w K mg base (L2.CX P w) 3 M.f_l_deed M.d_l_deed ["_law_cart", "_law_wide"] (spD K 2 S_l_deed) :=
  fn_D M.F_l_deed sc_l_deed rfl (fun cdv A outer s H E hr => (dss_cons (ds_par2 2 3 rfl sc_l_deed.nd (da_cons (dl_dat (de_val (dl_call (ok_l_any M) (hr.mono (by decide)) M.g_l_any M.F_l_any.kp M.b_l_any (takes_of rfl rfl rfl rfl) (da_cons (dl_var 0) (da_cons (dl_dat (de_lst (da_cons (dl_dat de_str) (da_cons (dl_dat de_str) (da_cons (dl_dat de_str) (da_cons (dl_dat de_str) (da_cons (dl_dat de_str) (da_cons (dl_dat de_str) da_nil)))))))) da_nil))))) (da_cons (dl_dat (de_val (dl_call (ok_l_any M) (hr.mono (by decide)) M.g_l_any M.F_l_any.kp M.b_l_any (takes_of rfl rfl rfl rfl) (da_cons (dl_var 0) (da_cons (dl_dat (de_lst (da_cons (dl_dat de_int) (da_cons (dl_dat de_int) (da_cons (dl_dat (de_var 1)) da_nil))))) da_nil))))) da_nil)))
  (dss_cons (ds_if (dt_cmp (op_eqP hr.units) g_eq (de_var 2) de_str (nomark _)) (dss_one (ds_ret (dl_dat (de_tup (da_cons (dl_dat (de_var 2)) (da_cons (dl_dat (de_val (dl_call (ok_l_take M) (hr.mono (by decide)) M.g_l_take M.F_l_take.kp M.b_l_take (takes_of rfl rfl rfl rfl) (da_cons (dl_var 0) (da_cons (dl_dat (de_bin op_addA g_add (de_var 3) de_int)) da_nil))))) da_nil)))))) dss_nil)
  (dss_cons (ds_if (dt_cmp (op_eqP hr.units) g_eq (de_var 2) de_str (nomark _)) (dss_one (ds_ret (dl_dat (de_tup (da_cons (dl_dat (de_var 2)) (da_cons (dl_dat (de_bin op_addA g_add de_int (de_val (dl_call (ok_l_take M) (hr.mono (by decide)) M.g_l_take M.F_l_take.kp M.b_l_take (takes_of rfl rfl rfl rfl) (da_cons (dl_var 0) (da_cons (dl_dat (de_var 3)) da_nil)))))) da_nil)))))) dss_nil)
  (dss_one (ds_ret (dl_dat (de_tup (da_cons (dl_dat (de_var 2)) (da_cons (dl_dat (de_val (dl_call (ok_l_any M) (hr.mono (by decide)) M.g_l_any M.F_l_any.kp M.b_l_any (takes_of rfl rfl rfl rfl) (da_cons (dl_var 0) (da_cons (dl_dat (de_lst (da_cons (dl_dat de_int) (da_cons (dl_dat de_int) (da_cons (dl_dat de_int) (da_cons (dl_dat de_int) (da_cons (dl_dat de_int) (da_cons (dl_dat de_int) da_nil)))))))) da_nil))))) (da_cons (dl_dat (de_bin op_addA g_add de_int (de_val (dl_call (ok_l_take M) (hr.mono (by decide)) M.g_l_take M.F_l_take.kp M.b_l_take (takes_of rfl rfl rfl rfl) (da_cons (dl_var 0) (da_cons (dl_dat (de_var 3)) da_nil)))))) da_nil))))))))))) h_l_deed
theorem ok_l_due (M : Md K mg) : FnOk P w K mg base (L2.CX P w) 3 M.f_l_due M.d_l_due ["_law_value"] (spD K 1 S_l_due) :=
  fn_D M.F_l_due sc_l_due rfl (fun cdv A outer s H E hr => (dss_cons (ds_if (dt_not (dt_of (de_cb call_isi c_isi M.z_isinstance bt_isinstance (da_cons (dl_dat (de_var 0)) (da_cons (dl_dat (de_ty M.z_str bt_str)) da_nil))))) (dss_one (ds_ret (dl_dat de_str))) dss_nil)
  (dss_cons (ds_setC (own := [("_law_line_here", 3)]) 1 rfl sc_l_due.nd (di_seq (de_split (de_var 0) de_str)) (by kernel_rfl) (fun _ _ _ _ _ => (dg_name 3 sc_l_due.nd)) (fun _ _ _ _ _ => dts_nil) (fun _ _ _ _ _ => (de_val (dl_call (ok_l_line M) (hr.mono (by decide)) M.g_l_line M.F_l_line.kp M.b_l_line takes0' (da_cons (dl_dat (de_var 3)) da_nil)))))
  (dss_cons (ds_if (dt_cmp (op_inP hr.units) (g_in false) de_non (de_var 1) (by with_unfolding_all rfl)) (dss_one (ds_ret (dl_dat (de_bin op_addA g_add de_str (de_cty cr_str c_str M.z_str bt_str (da_cons (dl_dat (de_bin op_addA g_add (de_index (hu65 hr) (de_var 1) de_non) de_int)) da_nil)))))) dss_nil)
  (dss_cons (ds_set 2 sc_l_due.nd (dl_dat (de_count (de_comp (own := [("_law_row", 4)]) rfl sc_l_due.nd (di_seq (de_var 1)) (by kernel_rfl) (fun _ _ _ _ _ => (dg_name 4 sc_l_due.nd)) (fun _ _ _ _ _ => dts_nil) (fun _ _ _ _ _ => (de_ix (de_var 4) de_int))) de_str)))
  (dss_cons (ds_if (dw (dw_or (dt_cmp (op_neP hr.units) g_ne (de_ix (de_ix (de_var 1) de_int) de_int) de_str (nomark _)) (dw_or (dt_cmp (op_neP hr.units) g_ne (de_var 2) de_int (nomark _)) (dw_or1 (dt_cmp op_gt g_gt (de_len M.z_len (da_cons (dl_dat (de_var 1)) da_nil)) de_int (nomark _)))))) (dss_one (ds_ret (dl_dat (de_bin op_addA g_add de_str (de_cty cr_str c_str M.z_str bt_str (da_cons (dl_dat (de_bin op_addA g_add (de_len M.z_len (da_cons (dl_dat (de_var 1)) da_nil)) de_int)) da_nil)))))) dss_nil)
  (dss_one (ds_ret (dl_dat (de_tup (da_cons (dl_dat (de_ix (de_ix (de_var 1) de_int) de_int)) (da_cons (dl_dat (de_cty call_tuple_of c_tuple M.z_tuple bt_tuple (da_cons (dl_dat (de_sl (de_var 1) (do_some de_int) do_none)) da_nil))) da_nil)))))))))))) h_l_due
theorem ok_l_bent (M : Md K mg) : FnOk P w K mg base (L2.CX P w) 3 M.f_l_bent M.d_l_bent ["_law_cart", "_law_text"] (spD K 2 S_l_bent) :=
  fn_D M.F_l_bent sc_l_bent rfl (fun cdv A outer s H E hr => (dss_cons (ds_set 2 sc_l_bent.nd (dl_dat (de_lst (da_cons (dl_dat de_str) (da_cons (dl_dat de_str) (da_cons (dl_dat de_str) (da_cons (dl_dat de_str) (da_cons (dl_dat de_str) (da_cons (dl_dat de_str) (da_cons (dl_dat de_str) (da_cons (dl_dat de_str) (da_cons (dl_dat de_str) (da_cons (dl_dat de_str) (da_cons (dl_dat de_str) (da_cons (dl_dat de_str) (da_cons (dl_dat de_str) (da_cons (dl_dat de_str) (da_cons (dl_dat de_str) da_nil))))))))))))))))))
  (dss_cons (ds_set 3 sc_l_bent.nd (dl_dat (de_val (dl_call (ok_l_take M) (hr.mono (by decide)) M.g_l_take M.F_l_take.kp M.b_l_take (takes_of rfl rfl rfl rfl) (da_cons (dl_var 0) (da_cons (dl_dat (de_bin op_addA g_add (de_len M.z_len (da_cons (dl_dat (de_var 1)) da_nil)) de_int)) da_nil))))))
  (dss_cons (ds_set 1 sc_l_bent.nd (dl_dat (de_bin op_addA g_add (de_bin op_addA g_add (de_sl (de_var 1) do_none (do_some (de_var 3))) (de_val (dl_call (ok_l_any M) (hr.mono (by decide)) M.g_l_any M.F_l_any.kp M.b_l_any (takes_of rfl rfl rfl rfl) (da_cons (dl_var 0) (da_cons (dl_dat (de_var 2)) da_nil))))) (de_sl (de_var 1) (do_some (de_bin op_addA g_add (de_var 3) (de_val (dl_call (ok_l_take M) (hr.mono (by decide)) M.g_l_take M.F_l_take.kp M.b_l_take (takes_of rfl rfl rfl rfl) (da_cons (dl_var 0) (da_cons (dl_dat de_int) da_nil)))))) do_none))))
  (dss_cons (ds_set 4 sc_l_bent.nd (dl_dat (de_split (de_var 1) de_str)))
  (dss_cons (ds_set 5 sc_l_bent.nd (dl_dat (de_val (dl_call (ok_l_take M) (hr.mono (by decide)) M.g_l_take M.F_l_take.kp M.b_l_take (takes_of rfl rfl rfl rfl) (da_cons (dl_var 0) (da_cons (dl_dat (de_len M.z_len (da_cons (dl_dat (de_var 4)) da_nil))) da_nil))))))
  (dss_cons (ds_set 6 sc_l_bent.nd (dl_dat (de_lst (da_cons (dl_dat (de_var 1)) (da_cons (dl_dat (de_var 1)) (da_cons (dl_dat (de_join de_str (de_bin op_addA g_add (de_sl (de_var 4) do_none (do_some (de_var 5))) (de_sl (de_var 4) (do_some (de_bin op_addA g_add (de_var 5) de_int)) do_none)))) (da_cons (dl_dat (de_join de_str (de_bin op_addA g_add (de_sl (de_var 4) (do_some (de_var 5)) do_none) (de_sl (de_var 4) do_none (do_some (de_var 5)))))) da_nil)))))))
  (dss_one (ds_ret (dl_dat (de_sl (de_val (dl_call (ok_l_any M) (hr.mono (by decide)) M.g_l_any M.F_l_any.kp M.b_l_any (takes_of rfl rfl rfl rfl) (da_cons (dl_var 0) (da_cons (dl_dat (de_bin op_addA g_add (de_var 6) (de_lst (da_cons (dl_dat (de_join de_str (de_bin op_addA g_add (de_sl (de_var 4) do_none (do_some (de_bin op_addA g_add (de_var 5) de_int))) (de_sl (de_var 4) (do_some (de_var 5)) do_none)))) da_nil)))) da_nil)))) do_none (do_some de_int)))))))))))) h_l_bent
theorem ok_need_drill (M : Md K mg) : FnOk P w K mg base (L2.CX P w) 4 M.f_need_drill M.d_need_drill ["value"] (spD K 1 S_need_drill) :=
  fn_D M.F_need_drill sc_need_drill rfl (fun cdv A outer s H E hr => (dss_one (ds_if (dt_not (dt_of (de_val (dl_call (ok_fits M) (hr.mono (by decide)) M.g_fits M.F_fits.kp M.b_fits (takes_of rfl rfl rfl rfl) (da_cons (dl_dat (de_var 0)) da_nil))))) (dss_one (ds_raise rfl (takes_of rfl rfl rfl rfl) M.e_InvalidDrill)) dss_nil))) h_need_drill
theorem ok_line_in (M : Md K mg) : FnOk P w K mg base (L2.CX P w) 4 M.f_line_in M.d_line_in ["line"] (spD K 1 S_line_in) :=
  fn_D M.F_line_in sc_line_in rfl (fun cdv A outer s H E hr => (dss_cons (ds_set 1 sc_line_in.nd (dl_dat (de_split (de_var 0) de_str)))
  (dss_cons (ds_set 2 sc_line_in.nd (dl_dat (de_bin op_addA g_add (de_tup (da_cons (dl_dat (de_ix (de_var 1) de_int)) da_nil)) (de_cty call_tuple_of c_tuple M.z_tuple bt_tuple (da_cons (dl_dat (de_comp (own := [("word", 3)]) rfl sc_line_in.nd (di_seq (de_sl (de_var 1) (do_some de_int) do_none)) (by kernel_rfl) (fun _ _ _ _ _ => (dg_name 3 sc_line_in.nd)) (fun _ _ _ _ _ => dts_nil) (fun _ _ _ _ _ => (de_val (dl_call (ok_number_in M) (hr.mono (by decide)) M.g_number_in M.F_number_in.kp M.b_number_in takes0' (da_cons (dl_dat (de_var 3)) da_nil)))))) da_nil)))))
  (dss_cons (ds_if (dt_cmp (op_eqP hr.units) g_eq (de_ix (de_var 1) de_int) de_str (nomark _)) (dss_one (ds_ret (dl_dat (de_if (dw (dw_and (dt_cmp (op_eqP hr.units) g_eq (de_len M.z_len (da_cons (dl_dat (de_var 2)) da_nil)) de_int (nomark _)) (dw_and1 (dt_of (de_val (dl_call (ok_fits M) (hr.mono (by decide)) M.g_fits M.F_fits.kp M.b_fits (takes_of rfl rfl rfl rfl) (da_cons (dl_dat (de_tup (da_cons (dl_dat (de_ix (de_var 2) de_int)) (da_cons (dl_dat (de_tup da_nil)) da_nil)))) da_nil))))))) (de_var 2) de_non)))) dss_nil)
  (dss_one (ds_ret (dl_dat (de_if (dt_of (de_val (dl_call (ok_fits M) (hr.mono (by decide)) M.g_fits M.F_fits.kp M.b_fits (takes_of rfl rfl rfl rfl) (da_cons (dl_dat (de_tup (da_cons (dl_dat de_int) (da_cons (dl_dat (de_tup (da_cons (dl_dat (de_var 2)) da_nil))) da_nil)))) da_nil)))) (de_var 2) de_non)))))))) h_line_in
theorem ok_l_deeds (M : Md K mg) : FnOk P w K mg base (L2.CX P w) 4 M.f_l_deeds M.d_l_deeds ["_law_cart", "_law_most", "_law_wide"] (spD K 3 S_l_deeds) :=
  fn_D M.F_l_deeds sc_l_deeds rfl (fun cdv A outer s H E hr => (dss_one (ds_ret (dl_dat (de_cty call_tuple_of c_tuple M.z_tuple bt_tuple (da_cons (dl_dat (de_comp (own := [("_law_turn", 3)]) rfl sc_l_deeds.nd (di_range1 M.z_range (da_cons (dl_dat (de_val (dl_call (ok_l_take M) (hr.mono (by decide)) M.g_l_take M.F_l_take.kp M.b_l_take (takes_of rfl rfl rfl rfl) (da_cons (dl_var 0) (da_cons (dl_dat (de_bin op_addA g_add (de_var 1) de_int)) da_nil))))) da_nil)) (by kernel_rfl) (fun _ _ _ _ _ => (dg_name 3 sc_l_deeds.nd)) (fun _ _ _ _ _ => dts_nil) (fun _ _ _ _ _ => (de_val (dl_call (ok_l_deed M) (hr.mono (by decide)) M.g_l_deed M.F_l_deed.kp M.b_l_deed takes0' (da_cons (dl_var 0) (da_cons (dl_dat (de_var 2)) da_nil))))))) da_nil)))))) h_l_deeds
theorem ok_drill_in (M : Md K mg) : FnOk P w K mg base (L2.CX P w) 5 M.f_drill_in M.d_drill_in ["value"] (spD K 1 S_drill_in) :=
  fn_D M.F_drill_in sc_drill_in rfl (fun cdv A outer s H E hr => (dss_cons (ds_if (dt_not (dt_of (de_cb call_isi c_isi M.z_isinstance bt_isinstance (da_cons (dl_dat (de_var 0)) (da_cons (dl_dat (de_ty M.z_str bt_str)) da_nil))))) (dss_one (ds_raiseF rfl (takes_of rfl rfl rfl rfl) M.T_InvalidText M.iC_InvalidText M.tI_InvalidText (ok_ini_InvalidText M) (hr.mono (by decide)) M.bI_InvalidText M.c_InvalidText M.n_InvalidText de_int)) dss_nil)
  (dss_cons (ds_setC (own := [("line", 3)]) 1 rfl sc_drill_in.nd (di_seq (de_split (de_var 0) de_str)) (by kernel_rfl) (fun _ _ _ _ _ => (dg_name 3 sc_drill_in.nd)) (fun _ _ _ _ _ => dts_nil) (fun _ _ _ _ _ => (de_val (dl_call (ok_line_in M) (hr.mono (by decide)) M.g_line_in M.F_line_in.kp M.b_line_in takes0' (da_cons (dl_dat (de_var 3)) da_nil)))))
  (dss_cons (ds_if (dt_cmp (op_inP hr.units) (g_in false) de_non (de_var 1) (by with_unfolding_all rfl)) (dss_one (ds_raiseF rfl (takes_of rfl rfl rfl rfl) M.T_InvalidText M.iC_InvalidText M.tI_InvalidText (ok_ini_InvalidText M) (hr.mono (by decide)) M.bI_InvalidText M.c_InvalidText M.n_InvalidText (de_bin op_addA g_add (de_index (hu65 hr) (de_var 1) de_non) de_int))) dss_nil)
  (dss_cons (ds_set 2 sc_drill_in.nd (dl_dat (de_tup (da_cons (dl_dat (de_ix (de_ix (de_var 1) de_int) de_int)) (da_cons (dl_dat (de_cty call_tuple_of c_tuple M.z_tuple bt_tuple (da_cons (dl_dat (de_sl (de_var 1) (do_some de_int) do_none)) da_nil))) da_nil)))))
  (dss_cons (ds_if (dw (dw_or (dt_cmp (op_neP hr.units) g_ne (de_ix (de_ix (de_var 1) de_int) de_int) de_str (nomark _)) (dw_or (dt_cmp (op_inP hr.units) (g_in false) de_str (de_comp (own := [("row", 4)]) rfl sc_drill_in.nd (di_seq (de_sl (de_var 1) (do_some de_int) do_none)) (by kernel_rfl) (fun _ _ _ _ _ => (dg_name 4 sc_drill_in.nd)) (fun _ _ _ _ _ => dts_nil) (fun _ _ _ _ _ => (de_ix (de_var 4) de_int))) (by with_unfolding_all rfl)) (dw_or1 (dt_not (dt_of (de_val (dl_call (ok_fits M) (hr.mono (by decide)) M.g_fits M.F_fits.kp M.b_fits (takes_of rfl rfl rfl rfl) (da_cons (dl_dat (de_var 2)) da_nil))))))))) (dss_one (ds_raiseF rfl (takes_of rfl rfl rfl rfl) M.T_InvalidText M.iC_InvalidText M.tI_InvalidText (ok_ini_InvalidText M) (hr.mono (by decide)) M.bI_InvalidText M.c_InvalidText M.n_InvalidText (de_bin op_addA g_add (de_len M.z_len (da_cons (dl_dat (de_var 1)) da_nil)) de_int))) dss_nil)
  (dss_one (ds_ret (dl_dat (de_var 2)))))))))) h_drill_in
theorem ok_drill_text (M : Md K mg) : FnOk P w K mg base (L2.CX P w) 5 M.f_drill_text M.d_drill_text ["drill"] (spD K 1 S_drill_text) :=
  fn_D M.F_drill_text sc_drill_text rfl (fun cdv A outer s H E hr => (dss_cons (ds_expr (dl_call (ok_need_drill M) (hr.mono (by decide)) M.g_need_drill M.F_need_drill.kp M.b_need_drill (takes_of rfl rfl rfl rfl) (da_cons (dl_dat (de_var 0)) da_nil)))
  (dss_one (ds_ret (dl_dat (de_val (dl_call (ok_text_of M) (hr.mono (by decide)) M.g_text_of M.F_text_of.kp M.b_text_of (takes_of rfl rfl rfl rfl) (da_cons (dl_dat (de_var 0)) da_nil)))))))) h_drill_text
theorem ok_l_work (M : Md K mg) : FnOk P w K mg base (L2.CX P w) 5 M.f_l_work M.d_l_work ["_law_cart", "_law_most"] (spD K 2 S_l_work) :=
  fn_D M.F_l_work sc_l_work rfl (fun cdv A outer s H E hr => (dss_one (ds_ret (dl_dat (de_tup (da_cons (dl_dat (de_bin op_addA g_add de_int (de_val (dl_call (ok_l_take M) (hr.mono (by decide)) M.g_l_take M.F_l_take.kp M.b_l_take (takes_of rfl rfl rfl rfl) (da_cons (dl_var 0) (da_cons (dl_dat de_int) da_nil)))))) (da_cons (dl_dat (de_val (dl_call (ok_l_deeds M) (hr.mono (by decide)) M.g_l_deeds M.F_l_deeds.kp M.b_l_deeds (takes_of rfl rfl rfl rfl) (da_cons (dl_var 0) (da_cons (dl_dat (de_var 1)) (da_cons (dl_dat (de_val (dl_call (ok_l_any M) (hr.mono (by decide)) M.g_l_any M.F_l_any.kp M.b_l_any (takes_of rfl rfl rfl rfl) (da_cons (dl_var 0) (da_cons (dl_dat (de_lst (da_cons (dl_dat de_int) (da_cons (dl_dat de_int) (da_cons (dl_dat (de_bin op_pow g_pow de_int de_int)) da_nil))))) da_nil))))) da_nil)))))) da_nil))))))) h_l_work
theorem ok_read_drill (M : Md K mg) : FnOk P w K mg base (L2.CX P w) 6 M.f_read_drill M.d_read_drill ["value"] (spD K 1 S_read_drill) :=
  fn_D M.F_read_drill sc_read_drill rfl (fun cdv A outer s H E hr => (dss_one (ds_ret (dl_dat (de_val (dl_call (ok_drill_in M) (hr.mono (by decide)) M.g_drill_in M.F_drill_in.kp M.b_drill_in (takes_of rfl rfl rfl rfl) (da_cons (dl_dat (de_var 0)) da_nil))))))) h_read_drill
theorem ok_l_tried (M : Md K mg) (TB_l_tried : LamX.TabB base mg M.c_l_tried M.P_l_tried) : FnOk P w K mg base (L2.CX P w) 9 M.f_l_tried M.d_l_tried ["_law_value"] (spD K 1 (S_l_tried ["InvalidDrill", "InvalidText"])) := by
  rw [M.db_l_tried]
  exact fn_DC M.lk_l_tried M.cd_l_tried sc_l_tried rfl (fun A outer s H E hr => (dss_cons (ds_set 1 sc_l_tried.nd (dl_dat (de_val (dl_lam (k := 6) M.w_word (by apply give_word) TB_l_tried rfl M.tm_l_tried M.tu_l_tried (hr.mono (by decide)) (LamX.lamS_by (sc := defScope s_l_tried) (by decide +kernel)) (fun A outer s H E f c hr => (dl_call (ok_read_drill M) (hr.mono (by decide)) M.g_read_drill M.F_read_drill.kp M.b_read_drill (takes_of rfl rfl rfl rfl) (da_cons (dl_dat (de_var 0)) da_nil)))))))
  (dss_one (ds_ret (dl_dat (de_if (dt_cmp (op_eqP hr.units) g_eq (de_var 1) de_str (nomark _)) (de_val (dl_call (ok_read_drill M) (hr.mono (by decide)) M.g_read_drill M.F_read_drill.kp M.b_read_drill (takes_of rfl rfl rfl rfl) (da_cons (dl_dat (de_var 0)) da_nil))) (de_var 1))))))) (h_l_tried ["InvalidDrill", "InvalidText"])
theorem ok_law (M : Md K mg) (TB_l_tried : LamX.TabB base mg M.c_l_tried M.P_l_tried) : FnOk P w K mg base (L2.CX P w) 10 M.f_law M.d_law ["_law_script"] (spD K 1 (S_law ["InvalidDrill", "InvalidText"])) :=
  fn_D M.F_law sc_law rfl (fun cdv A outer s H E hr => (dss_cons (ds_for (passes_of rfl) rfl (di_range1 M.z_range (da_cons (dl_dat (de_bin op_addA g_add de_int (de_cb (call_min2 rfl) c_min2 M.z_min bt_min (da_cons (dl_dat (de_len M.z_len (da_cons (dl_dat (de_var 0)) da_nil))) (da_cons (dl_dat de_int) da_nil))))) da_nil)) (dg_name 1 sc_law.nd) (dss_cons (ds_set 3 sc_law.nd (dl_call (ok_l_cart_of M) (hr.mono (by decide)) M.g_l_cart_of M.F_l_cart_of.kp M.b_l_cart_of (takes_of rfl rfl rfl rfl) (da_cons (dl_dat (de_var 0)) (da_cons (dl_dat (de_var 1)) da_nil))))
  (dss_cons (ds_for (passes_of rfl) rfl (di_range1 M.z_range (da_cons (dl_dat de_int) da_nil)) (dg_name 4 sc_law.nd) (dss_cons (ds_set 6 sc_law.nd (dl_dat (de_val (dl_call (ok_l_work M) (hr.mono (by decide)) M.g_l_work M.F_l_work.kp M.b_l_work (takes_of rfl rfl rfl rfl) (da_cons (dl_var 3) (da_cons (dl_dat de_int) da_nil))))))
  (dss_cons (ds_setC (own := [("_law_run", 11)]) 7 rfl sc_law.nd (di_seq (de_ix (de_var 6) de_int)) (by kernel_rfl) (fun _ _ _ _ _ => (dg_name 11 sc_law.nd)) (fun _ _ _ _ _ => dts_nil) (fun _ _ _ _ _ => (de_join de_str (de_comp (own := [("_law_item", 13)]) rfl sc_law.nd (di_seq (de_var 11)) (by kernel_rfl) (fun _ _ _ _ _ => (dg_name 13 sc_law.nd)) (fun _ _ _ _ _ => dts_nil) (fun _ _ _ _ _ => (de_cty cr_str c_str M.z_str bt_str (da_cons (dl_dat (de_var 13)) da_nil)))))))
  (dss_cons (ds_set 8 sc_law.nd (dl_dat (de_join de_str (de_bin op_addA g_add (de_lst (da_cons (dl_dat (de_bin op_addA g_add de_str (de_cty cr_str c_str M.z_str bt_str (da_cons (dl_dat (de_ix (de_var 6) de_int)) da_nil)))) da_nil)) (de_var 7)))))
  (dss_cons (ds_if (dw (dw_or (dt_cmp (op_neP hr.units) g_ne (de_val (dl_call (ok_drill_text M) (hr.mono (by decide)) M.g_drill_text M.F_drill_text.kp M.b_drill_text (takes_of rfl rfl rfl rfl) (da_cons (dl_dat (de_var 6)) da_nil))) (de_var 8) (nomark _)) (dw_or1 (dt_cmp (op_neP hr.units) g_ne (de_val (dl_call (ok_l_tried M TB_l_tried) (hr.mono (by decide)) M.g_l_tried M.F_l_tried.kp M.b_l_tried (takes_of rfl rfl rfl rfl) (da_cons (dl_dat (de_var 8)) da_nil))) (de_var 6) (nomark _))))) (dss_one (ds_ret (dl_dat de_bl))) dss_nil)
  (dss_cons (ds_set 9 sc_law.nd (dl_dat (de_var 8)))
  (dss_one (ds_for (passes_of rfl) rfl (di_range1 M.z_range (da_cons (dl_dat de_int) da_nil)) (dg_name 10 sc_law.nd) (dss_cons (ds_set 9 sc_law.nd (dl_dat (de_val (dl_call (ok_l_bent M) (hr.mono (by decide)) M.g_l_bent M.F_l_bent.kp M.b_l_bent (takes_of rfl rfl rfl rfl) (da_cons (dl_var 3) (da_cons (dl_dat (de_if (dt_cmp (op_eqP hr.units) g_eq (de_bin op_mod g_mod (de_var 10) de_int) de_int (nomark _)) (de_var 8) (de_var 9))) da_nil))))))
  (dss_one (ds_if (dt_cmp (op_neP hr.units) g_ne (de_val (dl_call (ok_l_tried M TB_l_tried) (hr.mono (by decide)) M.g_l_tried M.F_l_tried.kp M.b_l_tried (takes_of rfl rfl rfl rfl) (da_cons (dl_dat (de_var 9)) da_nil))) (de_val (dl_call (ok_l_due M) (hr.mono (by decide)) M.g_l_due M.F_l_due.kp M.b_l_due (takes_of rfl rfl rfl rfl) (da_cons (dl_dat (de_var 9)) da_nil))) (nomark _)) (dss_one (ds_ret (dl_dat de_bl))) dss_nil)))))))))))
  (dss_one (ds_for (passes_of rfl) rfl (di_seq (de_lst (da_cons (dl_dat de_non) (da_cons (dl_dat de_int) (da_cons (dl_dat (de_tup (da_cons (dl_dat (de_var 8)) da_nil))) (da_cons (dl_dat (de_lst (da_cons (dl_dat (de_var 8)) da_nil))) (da_cons (dl_dat de_bl) (da_cons (dl_dat (de_var 6)) da_nil)))))))) (dg_name 5 sc_law.nd) (dss_one (ds_if (dt_cmp (op_neP hr.units) g_ne (de_val (dl_call (ok_l_tried M TB_l_tried) (hr.mono (by decide)) M.g_l_tried M.F_l_tried.kp M.b_l_tried (takes_of rfl rfl rfl rfl) (da_cons (dl_dat (de_var 5)) da_nil))) de_str (nomark _)) (dss_one (ds_ret (dl_dat de_bl))) dss_nil)))))))
  (dss_cons (ds_set 2 sc_law.nd (dl_dat (de_lst (da_cons (dl_dat (de_tup (da_cons (dl_dat de_str) (da_cons (dl_dat de_str) da_nil)))) (da_cons (dl_dat (de_tup (da_cons (dl_dat de_str) (da_cons (dl_dat de_str) da_nil)))) (da_cons (dl_dat (de_tup (da_cons (dl_dat de_str) (da_cons (dl_dat de_str) da_nil)))) (da_cons (dl_dat (de_tup (da_cons (dl_dat de_str) (da_cons (dl_dat de_str) da_nil)))) (da_cons (dl_dat (de_tup (da_cons (dl_dat de_str) (da_cons (dl_dat de_str) da_nil)))) da_nil))))))))
  (dss_cons (ds_set 2 sc_law.nd (dl_dat (de_bin op_addA g_add (de_var 2) (de_lst (da_cons (dl_dat (de_tup (da_cons (dl_dat de_str) (da_cons (dl_dat de_str) da_nil)))) (da_cons (dl_dat (de_tup (da_cons (dl_dat de_str) (da_cons (dl_dat de_str) da_nil)))) (da_cons (dl_dat (de_tup (da_cons (dl_dat de_str) (da_cons (dl_dat de_str) da_nil)))) (da_cons (dl_dat (de_tup (da_cons (dl_dat de_str) (da_cons (dl_dat de_str) da_nil)))) da_nil))))))))
  (dss_cons (ds_set 2 sc_law.nd (dl_dat (de_bin op_addA g_add (de_var 2) (de_lst (da_cons (dl_dat (de_tup (da_cons (dl_dat de_str) (da_cons (dl_dat de_str) da_nil)))) (da_cons (dl_dat (de_tup (da_cons (dl_dat de_str) (da_cons (dl_dat de_str) da_nil)))) (da_cons (dl_dat (de_tup (da_cons (dl_dat de_str) (da_cons (dl_dat de_str) da_nil)))) da_nil)))))))
  (dss_cons (ds_set 2 sc_law.nd (dl_dat (de_bin op_addA g_add (de_var 2) (de_lst (da_cons (dl_dat (de_tup (da_cons (dl_dat de_str) (da_cons (dl_dat de_str) da_nil)))) (da_cons (dl_dat (de_tup (da_cons (dl_dat de_str) (da_cons (dl_dat de_str) da_nil)))) (da_cons (dl_dat (de_tup (da_cons (dl_dat (de_bin op_addA g_add de_str (de_bin op_mulS g_mulS de_str de_int))) (da_cons (dl_dat de_str) da_nil)))) da_nil)))))))
  (dss_cons (ds_if (dt_cmp (op_neP hr.units) g_ne (de_comp (own := [("_law_text", 9), ("_law_word_here", 12)]) rfl sc_law.nd (di_seq (de_var 2)) (by kernel_rfl) (fun _ _ _ _ _ => (dg_tup rfl (dgs_cons (dg_name 9 sc_law.nd) (dgs_cons (dg_name 12 sc_law.nd) dgs_nil)))) (fun _ _ _ _ _ => (dts_one (dt_cmp (op_neP hr.units) g_ne (de_val (dl_call (ok_l_tried M TB_l_tried) (hr.mono (by decide)) M.g_l_tried M.F_l_tried.kp M.b_l_tried takes0' (da_cons (dl_dat (de_var 9)) da_nil))) (de_var 12) (nomark _)))) (fun _ _ _ _ _ => (de_var 9))) (de_lst da_nil) (nomark _)) (dss_one (ds_ret (dl_dat de_bl))) dss_nil)
  (dss_one (ds_ret (dl_dat (de_cmp (op_eqP hr.units) g_eq (de_val (dl_call (ok_l_tried M TB_l_tried) (hr.mono (by decide)) M.g_l_tried M.F_l_tried.kp M.b_l_tried (takes_of rfl rfl rfl rfl) (da_cons (dl_dat de_str) da_nil))) (de_tup (da_cons (dl_dat de_int) (da_cons (dl_dat (de_tup (da_cons (dl_dat (de_tup (da_cons (dl_dat de_str) (da_cons (dl_dat de_int) (da_cons (dl_dat (de_bin op_pow g_pow de_int de_int)) da_nil))))) (da_cons (dl_dat (de_tup (da_cons (dl_dat de_str) (da_cons (dl_dat de_int) da_nil)))) da_nil)))) da_nil))) (nomark _)))))))))))) (h_law ["InvalidDrill", "InvalidText"])
end
theorem law_in (ns : List Int) (T : List Ob) (Q : Sl → List Ob → Prop) (QX : Xn → List Ob → Prop) (h : ns.length ≤ 63) (q : ∀ T', Q (.dat (.bl true)) T') : (S_law ["InvalidDrill", "InvalidText"]) [.dat (.scr ns)] T Q QX := by
  refine ⟨ns, rfl, h, ?_⟩
  first | exact q | exact ⟨by decide, q⟩ | exact ⟨by decide, by decide, q⟩ | exact ⟨by decide, by decide, by decide, q⟩ | exact ⟨by decide, by decide, by decide, by decide, q⟩
set_option maxHeartbeats 0 in
theorem all_mk {l : PySem.W.OpenLaw} {w : World} {K : PySem.W.Frag} {h : Heap} {mg mb : Str → Option Value} {q : Program} {lo : List Str} {mean : ExcName → Option Value} {fa f0 f1 f2 f3 f4 f5 f6 f7 f8 f9 f10 f11 f12 f13 f14 f15 f16 f17 f18 f19 f20 f21 f22 cc22 cc20 pp22 pp20 C_InvalidDrill C_InvalidBeginning C_InvalidMany C_InvalidSheep C_InvalidPlace C_InvalidRun C_InvalidIndex C_Unlike C_NothingToUndo C_DogError C_TooMany C_InvalidText I_InvalidText : Addr} (X : K.In h) (T : Top q lo mean mg mb h) (hfa : mg "law" = some (.ref fa))
    {oi1_InvalidText oi2_InvalidText oi3_InvalidText oi4_InvalidText oi5_InvalidText oi6_InvalidText : Value} {ui1_InvalidText ui2_InvalidText : Option Addr} {usi_InvalidText : Array (Option Value)} {nm_InvalidText qn_InvalidText : Str} {N_InvalidText : Addr} {bs_InvalidText bm_InvalidText : List Value} {sn_InvalidText : List Str} {sub_InvalidText : List Value} {ab_InvalidText : Bool} {col_InvalidText : Option Bool} {dd_InvalidText : Option Addr} {k0_InvalidText k1_InvalidText k2_InvalidText k3_InvalidText k5_InvalidText : Option Value}
    {od0 od1 od2 od3 od4 od5 od6 od7 od8 od9 od10 od11 od12 od13 od14 od15 od16 od17 od18 od19 od20 od21 od22 an0 an1 an2 an3 an4 an5 an6 an7 an8 an9 an10 an11 an12 an13 an14 an15 an16 an17 an18 an19 an20 an21 an22 yd22 yd20 : Option Addr} {sl0 sl1 sl2 sl3 sl4 sl5 sl6 sl7 sl8 sl9 sl10 sl11 sl12 sl13 sl14 sl15 sl16 sl17 sl18 sl19 sl20 sl21 sl22 ys22 ys20 : Array (Option Value)} {yv22 yv20 : Array Value} {oc0 oc1 oc2 oc3 oc4 oc5 oc6 oc7 oc8 oc9 oc10 oc11 oc12 oc13 oc14 oc15 oc16 oc17 oc18 oc19 oc20 oc21 oc22 kV0 kV1 kV2 kV3 kV4 kV5 kV6 kV7 kV8 kV9 kV10 kV11 kV12 kV13 kV14 kV15 kV16 kV17 kV18 kV19 kV20 kV21 kV22 dc0 dc1 dc2 dc3 dc4 dc5 dc6 dc7 dc8 dc9 dc10 dc11 dc12 dc13 dc14 dc15 dc16 dc17 dc18 dc19 dc20 dc21 dc22 pm0 pm1 pm2 pm3 pm4 pm5 pm6 pm7 pm8 pm9 pm10 pm11 pm12 pm13 pm14 pm15 pm16 pm17 pm18 pm19 pm20 pm21 pm22 cd0 cd1 cd2 cd3 cd4 cd5 cd6 cd7 cd8 cd9 cd10 cd11 cd12 cd13 cd14 cd15 cd16 cd17 cd18 cd19 cd21 ct0 ct1 ct2 ct3 ct4 ct5 ct6 ct7 ct8 ct9 ct10 ct11 ct12 ct13 ct14 ct15 ct16 ct17 ct18 ct19 ct20 ct21 ct22 yc22 yc20 : Value} {qd22 qd20 : DefRec} {t_FAR t_MOST_RUNS t_WIDEST t_DEEPEST : Tok}
    (eg_InvalidDrill : PySem.W.nsIn K mainGlobals "InvalidDrill" = some (some (.ref C_InvalidDrill)))
    (eg_InvalidBeginning : PySem.W.nsIn K mainGlobals "InvalidBeginning" = some (some (.ref C_InvalidBeginning)))
    (eg_InvalidMany : PySem.W.nsIn K mainGlobals "InvalidMany" = some (some (.ref C_InvalidMany)))
    (eg_InvalidSheep : PySem.W.nsIn K mainGlobals "InvalidSheep" = some (some (.ref C_InvalidSheep)))
    (eg_InvalidPlace : PySem.W.nsIn K mainGlobals "InvalidPlace" = some (some (.ref C_InvalidPlace)))
    (eg_InvalidRun : PySem.W.nsIn K mainGlobals "InvalidRun" = some (some (.ref C_InvalidRun)))
    (eg_InvalidIndex : PySem.W.nsIn K mainGlobals "InvalidIndex" = some (some (.ref C_InvalidIndex)))
    (eg_Unlike : PySem.W.nsIn K mainGlobals "Unlike" = some (some (.ref C_Unlike)))
    (eg_NothingToUndo : PySem.W.nsIn K mainGlobals "NothingToUndo" = some (some (.ref C_NothingToUndo)))
    (eg_DogError : PySem.W.nsIn K mainGlobals "DogError" = some (some (.ref C_DogError)))
    (eg_TooMany : PySem.W.nsIn K mainGlobals "TooMany" = some (some (.ref C_TooMany)))
    (eg_InvalidText : PySem.W.nsIn K mainGlobals "InvalidText" = some (some (.ref C_InvalidText)))
    (a0 : PySem.W.nsIn K mainGlobals "is_int" = some (some (.ref f0)))
    (l0 : K.lookup f0 = some ⟨oc0, od0, .func (PySem.W.fnOf "is_int" "is_int" (defArgs s_is_int) (defBody s_is_int) (defScope s_is_int) .none kV0 dc0 pm0 an0 cd0 ct0), sl0⟩)
    (c0 : PySem.W.codeIn K cd0 "is_int" = true)
    (k0 : PySem.W.keepIn K (.ref f0) = true)
    (a1 : PySem.W.nsIn K mainGlobals "is_a_run" = some (some (.ref f1)))
    (l1 : K.lookup f1 = some ⟨oc1, od1, .func (PySem.W.fnOf "is_a_run" "is_a_run" (defArgs s_is_a_run) (defBody s_is_a_run) (defScope s_is_a_run) .none kV1 dc1 pm1 an1 cd1 ct1), sl1⟩)
    (c1 : PySem.W.codeIn K cd1 "is_a_run" = true)
    (k1 : PySem.W.keepIn K (.ref f1) = true)
    (a2 : PySem.W.nsIn K mainGlobals "fits" = some (some (.ref f2)))
    (l2 : K.lookup f2 = some ⟨oc2, od2, .func (PySem.W.fnOf "fits" "fits" (defArgs s_fits) (defBody s_fits) (defScope s_fits) .none kV2 dc2 pm2 an2 cd2 ct2), sl2⟩)
    (c2 : PySem.W.codeIn K cd2 "fits" = true)
    (k2 : PySem.W.keepIn K (.ref f2) = true)
    (a3 : PySem.W.nsIn K mainGlobals "need_drill" = some (some (.ref f3)))
    (l3 : K.lookup f3 = some ⟨oc3, od3, .func (PySem.W.fnOf "need_drill" "need_drill" (defArgs s_need_drill) (defBody s_need_drill) (defScope s_need_drill) .none kV3 dc3 pm3 an3 cd3 ct3), sl3⟩)
    (c3 : PySem.W.codeIn K cd3 "need_drill" = true)
    (k3 : PySem.W.keepIn K (.ref f3) = true)
    (a4 : PySem.W.nsIn K mainGlobals "text_of" = some (some (.ref f4)))
    (l4 : K.lookup f4 = some ⟨oc4, od4, .func (PySem.W.fnOf "text_of" "text_of" (defArgs s_text_of) (defBody s_text_of) (defScope s_text_of) .none kV4 dc4 pm4 an4 cd4 ct4), sl4⟩)
    (c4 : PySem.W.codeIn K cd4 "text_of" = true)
    (k4 : PySem.W.keepIn K (.ref f4) = true)
    (a5 : PySem.W.nsIn K mainGlobals "number_in" = some (some (.ref f5)))
    (l5 : K.lookup f5 = some ⟨oc5, od5, .func (PySem.W.fnOf "number_in" "number_in" (defArgs s_number_in) (defBody s_number_in) (defScope s_number_in) .none kV5 dc5 pm5 an5 cd5 ct5), sl5⟩)
    (c5 : PySem.W.codeIn K cd5 "number_in" = true)
    (k5 : PySem.W.keepIn K (.ref f5) = true)
    (a6 : PySem.W.nsIn K mainGlobals "line_in" = some (some (.ref f6)))
    (l6 : K.lookup f6 = some ⟨oc6, od6, .func (PySem.W.fnOf "line_in" "line_in" (defArgs s_line_in) (defBody s_line_in) (defScope s_line_in) .none kV6 dc6 pm6 an6 cd6 ct6), sl6⟩)
    (c6 : PySem.W.codeIn K cd6 "line_in" = true)
    (k6 : PySem.W.keepIn K (.ref f6) = true)
    (a7 : PySem.W.nsIn K mainGlobals "drill_in" = some (some (.ref f7)))
    (l7 : K.lookup f7 = some ⟨oc7, od7, .func (PySem.W.fnOf "drill_in" "drill_in" (defArgs s_drill_in) (defBody s_drill_in) (defScope s_drill_in) .none kV7 dc7 pm7 an7 cd7 ct7), sl7⟩)
    (c7 : PySem.W.codeIn K cd7 "drill_in" = true)
    (k7 : PySem.W.keepIn K (.ref f7) = true)
    (a8 : PySem.W.nsIn K mainGlobals "drill_text" = some (some (.ref f8)))
    (l8 : K.lookup f8 = some ⟨oc8, od8, .func (PySem.W.fnOf "drill_text" "drill_text" (defArgs s_drill_text) (defBody s_drill_text) (defScope s_drill_text) .none kV8 dc8 pm8 an8 cd8 ct8), sl8⟩)
    (c8 : PySem.W.codeIn K cd8 "drill_text" = true)
    (k8 : PySem.W.keepIn K (.ref f8) = true)
    (a9 : PySem.W.nsIn K mainGlobals "read_drill" = some (some (.ref f9)))
    (l9 : K.lookup f9 = some ⟨oc9, od9, .func (PySem.W.fnOf "read_drill" "read_drill" (defArgs s_read_drill) (defBody s_read_drill) (defScope s_read_drill) .none kV9 dc9 pm9 an9 cd9 ct9), sl9⟩)
    (c9 : PySem.W.codeIn K cd9 "read_drill" = true)
    (k9 : PySem.W.keepIn K (.ref f9) = true)
    (a10 : PySem.W.nsIn K mainGlobals "_law_cart_of" = some (some (.ref f10)))
    (l10 : K.lookup f10 = some ⟨oc10, od10, .func (PySem.W.fnOf "_law_cart_of" "_law_cart_of" (defArgs s_l_cart_of) (defBody s_l_cart_of) (defScope s_l_cart_of) .none kV10 dc10 pm10 an10 cd10 ct10), sl10⟩)
    (c10 : PySem.W.codeIn K cd10 "_law_cart_of" = true)
    (k10 : PySem.W.keepIn K (.ref f10) = true)
    (a11 : PySem.W.nsIn K mainGlobals "_law_take" = some (some (.ref f11)))
    (l11 : K.lookup f11 = some ⟨oc11, od11, .func (PySem.W.fnOf "_law_take" "_law_take" (defArgs s_l_take) (defBody s_l_take) (defScope s_l_take) .none kV11 dc11 pm11 an11 cd11 ct11), sl11⟩)
    (c11 : PySem.W.codeIn K cd11 "_law_take" = true)
    (k11 : PySem.W.keepIn K (.ref f11) = true)
    (a12 : PySem.W.nsIn K mainGlobals "_law_any" = some (some (.ref f12)))
    (l12 : K.lookup f12 = some ⟨oc12, od12, .func (PySem.W.fnOf "_law_any" "_law_any" (defArgs s_l_any) (defBody s_l_any) (defScope s_l_any) .none kV12 dc12 pm12 an12 cd12 ct12), sl12⟩)
    (c12 : PySem.W.codeIn K cd12 "_law_any" = true)
    (k12 : PySem.W.keepIn K (.ref f12) = true)
    (a13 : PySem.W.nsIn K mainGlobals "_law_deed" = some (some (.ref f13)))
    (l13 : K.lookup f13 = some ⟨oc13, od13, .func (PySem.W.fnOf "_law_deed" "_law_deed" (defArgs s_l_deed) (defBody s_l_deed) (defScope s_l_deed) .none kV13 dc13 pm13 an13 cd13 ct13), sl13⟩)
    (c13 : PySem.W.codeIn K cd13 "_law_deed" = true)
    (k13 : PySem.W.keepIn K (.ref f13) = true)
    (a14 : PySem.W.nsIn K mainGlobals "_law_deeds" = some (some (.ref f14)))
    (l14 : K.lookup f14 = some ⟨oc14, od14, .func (PySem.W.fnOf "_law_deeds" "_law_deeds" (defArgs s_l_deeds) (defBody s_l_deeds) (defScope s_l_deeds) .none kV14 dc14 pm14 an14 cd14 ct14), sl14⟩)
    (c14 : PySem.W.codeIn K cd14 "_law_deeds" = true)
    (k14 : PySem.W.keepIn K (.ref f14) = true)
    (a15 : PySem.W.nsIn K mainGlobals "_law_work" = some (some (.ref f15)))
    (l15 : K.lookup f15 = some ⟨oc15, od15, .func (PySem.W.fnOf "_law_work" "_law_work" (defArgs s_l_work) (defBody s_l_work) (defScope s_l_work) .none kV15 dc15 pm15 an15 cd15 ct15), sl15⟩)
    (c15 : PySem.W.codeIn K cd15 "_law_work" = true)
    (k15 : PySem.W.keepIn K (.ref f15) = true)
    (a16 : PySem.W.nsIn K mainGlobals "_law_word" = some (some (.ref f16)))
    (l16 : K.lookup f16 = some ⟨oc16, od16, .func (PySem.W.fnOf "_law_word" "_law_word" (defArgs s_l_word) (defBody s_l_word) (defScope s_l_word) .none kV16 dc16 pm16 an16 cd16 ct16), sl16⟩)
    (c16 : PySem.W.codeIn K cd16 "_law_word" = true)
    (k16 : PySem.W.keepIn K (.ref f16) = true)
    (a17 : PySem.W.nsIn K mainGlobals "_law_number" = some (some (.ref f17)))
    (l17 : K.lookup f17 = some ⟨oc17, od17, .func (PySem.W.fnOf "_law_number" "_law_number" (defArgs s_l_number) (defBody s_l_number) (defScope s_l_number) .none kV17 dc17 pm17 an17 cd17 ct17), sl17⟩)
    (c17 : PySem.W.codeIn K cd17 "_law_number" = true)
    (k17 : PySem.W.keepIn K (.ref f17) = true)
    (a18 : PySem.W.nsIn K mainGlobals "_law_line" = some (some (.ref f18)))
    (l18 : K.lookup f18 = some ⟨oc18, od18, .func (PySem.W.fnOf "_law_line" "_law_line" (defArgs s_l_line) (defBody s_l_line) (defScope s_l_line) .none kV18 dc18 pm18 an18 cd18 ct18), sl18⟩)
    (c18 : PySem.W.codeIn K cd18 "_law_line" = true)
    (k18 : PySem.W.keepIn K (.ref f18) = true)
    (a19 : PySem.W.nsIn K mainGlobals "_law_due" = some (some (.ref f19)))
    (l19 : K.lookup f19 = some ⟨oc19, od19, .func (PySem.W.fnOf "_law_due" "_law_due" (defArgs s_l_due) (defBody s_l_due) (defScope s_l_due) .none kV19 dc19 pm19 an19 cd19 ct19), sl19⟩)
    (c19 : PySem.W.codeIn K cd19 "_law_due" = true)
    (k19 : PySem.W.keepIn K (.ref f19) = true)
    (a20 : PySem.W.nsIn K mainGlobals "_law_tried" = some (some (.ref f20)))
    (l20 : K.lookup f20 = some ⟨oc20, od20, .func (PySem.W.fnOf "_law_tried" "_law_tried" (defArgs s_l_tried) (defBody s_l_tried) (defScope s_l_tried) .none kV20 dc20 pm20 an20 (.ref cc20) ct20), sl20⟩)
    (c20 : PySem.W.codeIn K (.ref cc20) "_law_tried" = true)
    (k20 : PySem.W.keepIn K (.ref f20) = true)
    (y20 : K.lookup cc20 = some ⟨yc20, yd20, .fields yv20, ys20⟩)
    (p20 : yv20[11]? = some (.ref pp20))
    (r20 : K.lookup pp20 = none)
    (q20 : (recsOf q).find? (fun e => e.name == ("_law_tried" : Str)) = some qd20)
    (a21 : PySem.W.nsIn K mainGlobals "_law_bent" = some (some (.ref f21)))
    (l21 : K.lookup f21 = some ⟨oc21, od21, .func (PySem.W.fnOf "_law_bent" "_law_bent" (defArgs s_l_bent) (defBody s_l_bent) (defScope s_l_bent) .none kV21 dc21 pm21 an21 cd21 ct21), sl21⟩)
    (c21 : PySem.W.codeIn K cd21 "_law_bent" = true)
    (k21 : PySem.W.keepIn K (.ref f21) = true)
    (a22 : PySem.W.nsIn K mainGlobals "law" = some (some (.ref f22)))
    (l22 : K.lookup f22 = some ⟨oc22, od22, .func (PySem.W.fnOf "law" "law" (defArgs s_law) (defBody s_law) (defScope s_law) .none kV22 dc22 pm22 an22 (.ref cc22) ct22), sl22⟩)
    (c22 : PySem.W.codeIn K (.ref cc22) "law" = true)
    (k22 : PySem.W.keepIn K (.ref f22) = true)
    (y22 : K.lookup cc22 = some ⟨yc22, yd22, .fields yv22, ys22⟩)
    (p22 : yv22[11]? = some (.ref pp22))
    (r22 : K.lookup pp22 = none)
    (q22 : (recsOf q).find? (fun e => e.name == ("law" : Str)) = some qd22)
    (j22_20 : pp22 ≠ pp20)
    (u__law_lots : PySem.W.nsIn K mainGlobals "_law_lots" = some none)
    (u__law_signs_right : PySem.W.nsIn K mainGlobals "_law_signs_right" = some none)
    (u__law_refused : PySem.W.nsIn K mainGlobals "_law_refused" = some none)
    (u__law_called : PySem.W.nsIn K mainGlobals "_law_called" = some none)
    (u__law_shows : PySem.W.nsIn K mainGlobals "_law_shows" = some none)
    (u__law_nested : PySem.W.nsIn K mainGlobals "_law_nested" = some none)
    (u__law_ended : PySem.W.nsIn K mainGlobals "_law_ended" = some none)
    (u__law_back : PySem.W.nsIn K mainGlobals "_law_back" = some none)
    (u__law_full_right : PySem.W.nsIn K mainGlobals "_law_full_right" = some none)
    (u__law_first_calls : PySem.W.nsIn K mainGlobals "_law_first_calls" = some none)
    (u__law_pair_calls : PySem.W.nsIn K mainGlobals "_law_pair_calls" = some none)
    (u__law_place_calls : PySem.W.nsIn K mainGlobals "_law_place_calls" = some none)
    (u__law_many_calls : PySem.W.nsIn K mainGlobals "_law_many_calls" = some none)
    (ex_InvalidDrill : PySem.W.excIn K C_InvalidDrill [.type "ValueError", .type "Exception", .type "BaseException", .type "object"] "ValueError.__new__" = true)
    (ek_InvalidDrill : PySem.W.keepIn K (.ref C_InvalidDrill) = true)
    (eb_InvalidDrill : PySem.W.subIn K (.ref C_InvalidDrill) (.type "BaseException") = some true)
    (et_InvalidDrill : PySem.W.typeIn K (.ref C_InvalidDrill) = some (.type "type"))
    (ex_InvalidBeginning : PySem.W.excIn K C_InvalidBeginning [.type "ValueError", .type "Exception", .type "BaseException", .type "object"] "ValueError.__new__" = true)
    (ek_InvalidBeginning : PySem.W.keepIn K (.ref C_InvalidBeginning) = true)
    (eb_InvalidBeginning : PySem.W.subIn K (.ref C_InvalidBeginning) (.type "BaseException") = some true)
    (et_InvalidBeginning : PySem.W.typeIn K (.ref C_InvalidBeginning) = some (.type "type"))
    (ex_InvalidMany : PySem.W.excIn K C_InvalidMany [.type "ValueError", .type "Exception", .type "BaseException", .type "object"] "ValueError.__new__" = true)
    (ek_InvalidMany : PySem.W.keepIn K (.ref C_InvalidMany) = true)
    (eb_InvalidMany : PySem.W.subIn K (.ref C_InvalidMany) (.type "BaseException") = some true)
    (et_InvalidMany : PySem.W.typeIn K (.ref C_InvalidMany) = some (.type "type"))
    (ex_InvalidSheep : PySem.W.excIn K C_InvalidSheep [.type "ValueError", .type "Exception", .type "BaseException", .type "object"] "ValueError.__new__" = true)
    (ek_InvalidSheep : PySem.W.keepIn K (.ref C_InvalidSheep) = true)
    (eb_InvalidSheep : PySem.W.subIn K (.ref C_InvalidSheep) (.type "BaseException") = some true)
    (et_InvalidSheep : PySem.W.typeIn K (.ref C_InvalidSheep) = some (.type "type"))
    (ex_InvalidPlace : PySem.W.excIn K C_InvalidPlace [.type "ValueError", .type "Exception", .type "BaseException", .type "object"] "ValueError.__new__" = true)
    (ek_InvalidPlace : PySem.W.keepIn K (.ref C_InvalidPlace) = true)
    (eb_InvalidPlace : PySem.W.subIn K (.ref C_InvalidPlace) (.type "BaseException") = some true)
    (et_InvalidPlace : PySem.W.typeIn K (.ref C_InvalidPlace) = some (.type "type"))
    (ex_InvalidRun : PySem.W.excIn K C_InvalidRun [.type "ValueError", .type "Exception", .type "BaseException", .type "object"] "ValueError.__new__" = true)
    (ek_InvalidRun : PySem.W.keepIn K (.ref C_InvalidRun) = true)
    (eb_InvalidRun : PySem.W.subIn K (.ref C_InvalidRun) (.type "BaseException") = some true)
    (et_InvalidRun : PySem.W.typeIn K (.ref C_InvalidRun) = some (.type "type"))
    (ex_InvalidIndex : PySem.W.excIn K C_InvalidIndex [.type "ValueError", .type "Exception", .type "BaseException", .type "object"] "ValueError.__new__" = true)
    (ek_InvalidIndex : PySem.W.keepIn K (.ref C_InvalidIndex) = true)
    (eb_InvalidIndex : PySem.W.subIn K (.ref C_InvalidIndex) (.type "BaseException") = some true)
    (et_InvalidIndex : PySem.W.typeIn K (.ref C_InvalidIndex) = some (.type "type"))
    (ex_Unlike : PySem.W.excIn K C_Unlike [.type "ValueError", .type "Exception", .type "BaseException", .type "object"] "ValueError.__new__" = true)
    (ek_Unlike : PySem.W.keepIn K (.ref C_Unlike) = true)
    (eb_Unlike : PySem.W.subIn K (.ref C_Unlike) (.type "BaseException") = some true)
    (et_Unlike : PySem.W.typeIn K (.ref C_Unlike) = some (.type "type"))
    (ex_NothingToUndo : PySem.W.excIn K C_NothingToUndo [.type "ValueError", .type "Exception", .type "BaseException", .type "object"] "ValueError.__new__" = true)
    (ek_NothingToUndo : PySem.W.keepIn K (.ref C_NothingToUndo) = true)
    (eb_NothingToUndo : PySem.W.subIn K (.ref C_NothingToUndo) (.type "BaseException") = some true)
    (et_NothingToUndo : PySem.W.typeIn K (.ref C_NothingToUndo) = some (.type "type"))
    (ex_DogError : PySem.W.excIn K C_DogError [.type "ValueError", .type "Exception", .type "BaseException", .type "object"] "ValueError.__new__" = true)
    (ek_DogError : PySem.W.keepIn K (.ref C_DogError) = true)
    (eb_DogError : PySem.W.subIn K (.ref C_DogError) (.type "BaseException") = some true)
    (et_DogError : PySem.W.typeIn K (.ref C_DogError) = some (.type "type"))
    (ik_InvalidText : PySem.W.keepIn K (.ref C_InvalidText) = true)
    (il_InvalidText : K.lookup C_InvalidText = some (excClassObj nm_InvalidText qn_InvalidText C_InvalidText N_InvalidText bs_InvalidText bm_InvalidText true sn_InvalidText sub_InvalidText ab_InvalidText col_InvalidText dd_InvalidText k0_InvalidText k1_InvalidText k2_InvalidText k3_InvalidText k5_InvalidText "ValueError.__new__"))
    (im_InvalidText : PySem.HandSPX.refsVE bm_InvalidText = true)
    (ia_InvalidText : PySem.W.findIn K (.ref C_InvalidText) "__setattr__" = some (some (.builtin "object.__setattr__")))
    (ii_InvalidText : PySem.W.findIn K (.ref C_InvalidText) "__init__" = some (some (.ref I_InvalidText)))
    (it_InvalidText : PySem.W.typeIn K (.ref I_InvalidText) = some (.type "function"))
    (ip_InvalidText : K.lookup I_InvalidText = some ⟨oi1_InvalidText, ui1_InvalidText, .func (PySem.W.fnOf "__init__" "InvalidText.__init__" (defArgs s_ini_InvalidText) (defBody s_ini_InvalidText) (defScope s_ini_InvalidText) .none oi2_InvalidText oi3_InvalidText oi4_InvalidText ui2_InvalidText oi5_InvalidText oi6_InvalidText), usi_InvalidText⟩)
    (ic_InvalidText : PySem.W.codeIn K oi5_InvalidText "InvalidText.__init__" = true)
    (in_InvalidText : PySem.W.findIn K (.ref C_InvalidText) "line" = some none)
    (bk_DogError : PySem.W.keepIn K (.ref C_DogError) = true)
    (br_DogError : PySem.W.readsIn K C_DogError (.type "type") = true)
    (ba_DogError : PySem.W.specialIn K (.ref C_DogError) "__getattribute__" = some (some (.builtin "type.__getattribute__")))
    (bi_DogError : PySem.W.findCls K (.ref C_DogError) (.type "type") "__init__" = some (.val (.builtin "ValueError.__init__")))
    (ea_DogError : PySem.W.isClsIn K C_DogError = true)
    (ec_DogError : PySem.W.findIn K (.ref C_DogError) "__getattribute__" = some (some (.builtin "BaseException.__getattribute__")))
    (ed_DogError : PySem.W.findIn K (.ref C_DogError) "__getattr__" = some none)
    (ee_DogError : PySem.W.subIn K (.ref C_DogError) (.type "BaseException") = some true)
    (ef_DogError : PySem.W.findIn K (.ref C_DogError) "__class__" = some (some (.builtin "object.__class__")))
    (eh_DogError : PySem.W.mroIn K C_DogError (.type "object") = some true)
    (ea_InvalidDrill : PySem.W.isClsIn K C_InvalidDrill = true)
    (ec_InvalidDrill : PySem.W.findIn K (.ref C_InvalidDrill) "__getattribute__" = some (some (.builtin "BaseException.__getattribute__")))
    (ed_InvalidDrill : PySem.W.findIn K (.ref C_InvalidDrill) "__getattr__" = some none)
    (ee_InvalidDrill : PySem.W.subIn K (.ref C_InvalidDrill) (.type "BaseException") = some true)
    (ef_InvalidDrill : PySem.W.findIn K (.ref C_InvalidDrill) "__class__" = some (some (.builtin "object.__class__")))
    (eh_InvalidDrill : PySem.W.mroIn K C_InvalidDrill (.type "object") = some true)
    (ea_InvalidBeginning : PySem.W.isClsIn K C_InvalidBeginning = true)
    (ec_InvalidBeginning : PySem.W.findIn K (.ref C_InvalidBeginning) "__getattribute__" = some (some (.builtin "BaseException.__getattribute__")))
    (ed_InvalidBeginning : PySem.W.findIn K (.ref C_InvalidBeginning) "__getattr__" = some none)
    (ee_InvalidBeginning : PySem.W.subIn K (.ref C_InvalidBeginning) (.type "BaseException") = some true)
    (ef_InvalidBeginning : PySem.W.findIn K (.ref C_InvalidBeginning) "__class__" = some (some (.builtin "object.__class__")))
    (eh_InvalidBeginning : PySem.W.mroIn K C_InvalidBeginning (.type "object") = some true)
    (ea_InvalidMany : PySem.W.isClsIn K C_InvalidMany = true)
    (ec_InvalidMany : PySem.W.findIn K (.ref C_InvalidMany) "__getattribute__" = some (some (.builtin "BaseException.__getattribute__")))
    (ed_InvalidMany : PySem.W.findIn K (.ref C_InvalidMany) "__getattr__" = some none)
    (ee_InvalidMany : PySem.W.subIn K (.ref C_InvalidMany) (.type "BaseException") = some true)
    (ef_InvalidMany : PySem.W.findIn K (.ref C_InvalidMany) "__class__" = some (some (.builtin "object.__class__")))
    (eh_InvalidMany : PySem.W.mroIn K C_InvalidMany (.type "object") = some true)
    (ea_InvalidSheep : PySem.W.isClsIn K C_InvalidSheep = true)
    (ec_InvalidSheep : PySem.W.findIn K (.ref C_InvalidSheep) "__getattribute__" = some (some (.builtin "BaseException.__getattribute__")))
    (ed_InvalidSheep : PySem.W.findIn K (.ref C_InvalidSheep) "__getattr__" = some none)
    (ee_InvalidSheep : PySem.W.subIn K (.ref C_InvalidSheep) (.type "BaseException") = some true)
    (ef_InvalidSheep : PySem.W.findIn K (.ref C_InvalidSheep) "__class__" = some (some (.builtin "object.__class__")))
    (eh_InvalidSheep : PySem.W.mroIn K C_InvalidSheep (.type "object") = some true)
    (ea_InvalidPlace : PySem.W.isClsIn K C_InvalidPlace = true)
    (ec_InvalidPlace : PySem.W.findIn K (.ref C_InvalidPlace) "__getattribute__" = some (some (.builtin "BaseException.__getattribute__")))
    (ed_InvalidPlace : PySem.W.findIn K (.ref C_InvalidPlace) "__getattr__" = some none)
    (ee_InvalidPlace : PySem.W.subIn K (.ref C_InvalidPlace) (.type "BaseException") = some true)
    (ef_InvalidPlace : PySem.W.findIn K (.ref C_InvalidPlace) "__class__" = some (some (.builtin "object.__class__")))
    (eh_InvalidPlace : PySem.W.mroIn K C_InvalidPlace (.type "object") = some true)
    (ea_InvalidRun : PySem.W.isClsIn K C_InvalidRun = true)
    (ec_InvalidRun : PySem.W.findIn K (.ref C_InvalidRun) "__getattribute__" = some (some (.builtin "BaseException.__getattribute__")))
    (ed_InvalidRun : PySem.W.findIn K (.ref C_InvalidRun) "__getattr__" = some none)
    (ee_InvalidRun : PySem.W.subIn K (.ref C_InvalidRun) (.type "BaseException") = some true)
    (ef_InvalidRun : PySem.W.findIn K (.ref C_InvalidRun) "__class__" = some (some (.builtin "object.__class__")))
    (eh_InvalidRun : PySem.W.mroIn K C_InvalidRun (.type "object") = some true)
    (ea_InvalidIndex : PySem.W.isClsIn K C_InvalidIndex = true)
    (ec_InvalidIndex : PySem.W.findIn K (.ref C_InvalidIndex) "__getattribute__" = some (some (.builtin "BaseException.__getattribute__")))
    (ed_InvalidIndex : PySem.W.findIn K (.ref C_InvalidIndex) "__getattr__" = some none)
    (ee_InvalidIndex : PySem.W.subIn K (.ref C_InvalidIndex) (.type "BaseException") = some true)
    (ef_InvalidIndex : PySem.W.findIn K (.ref C_InvalidIndex) "__class__" = some (some (.builtin "object.__class__")))
    (eh_InvalidIndex : PySem.W.mroIn K C_InvalidIndex (.type "object") = some true)
    (ea_Unlike : PySem.W.isClsIn K C_Unlike = true)
    (ec_Unlike : PySem.W.findIn K (.ref C_Unlike) "__getattribute__" = some (some (.builtin "BaseException.__getattribute__")))
    (ed_Unlike : PySem.W.findIn K (.ref C_Unlike) "__getattr__" = some none)
    (ee_Unlike : PySem.W.subIn K (.ref C_Unlike) (.type "BaseException") = some true)
    (ef_Unlike : PySem.W.findIn K (.ref C_Unlike) "__class__" = some (some (.builtin "object.__class__")))
    (eh_Unlike : PySem.W.mroIn K C_Unlike (.type "object") = some true)
    (ea_NothingToUndo : PySem.W.isClsIn K C_NothingToUndo = true)
    (ec_NothingToUndo : PySem.W.findIn K (.ref C_NothingToUndo) "__getattribute__" = some (some (.builtin "BaseException.__getattribute__")))
    (ed_NothingToUndo : PySem.W.findIn K (.ref C_NothingToUndo) "__getattr__" = some none)
    (ee_NothingToUndo : PySem.W.subIn K (.ref C_NothingToUndo) (.type "BaseException") = some true)
    (ef_NothingToUndo : PySem.W.findIn K (.ref C_NothingToUndo) "__class__" = some (some (.builtin "object.__class__")))
    (eh_NothingToUndo : PySem.W.mroIn K C_NothingToUndo (.type "object") = some true)
    (ea_TooMany : PySem.W.isClsIn K C_TooMany = true)
    (ec_TooMany : PySem.W.findIn K (.ref C_TooMany) "__getattribute__" = some (some (.builtin "BaseException.__getattribute__")))
    (ed_TooMany : PySem.W.findIn K (.ref C_TooMany) "__getattr__" = some none)
    (ee_TooMany : PySem.W.subIn K (.ref C_TooMany) (.type "BaseException") = some true)
    (ef_TooMany : PySem.W.findIn K (.ref C_TooMany) "__class__" = some (some (.builtin "object.__class__")))
    (eh_TooMany : PySem.W.mroIn K C_TooMany (.type "object") = some true)
    (ea_InvalidText : PySem.W.isClsIn K C_InvalidText = true)
    (ec_InvalidText : PySem.W.findIn K (.ref C_InvalidText) "__getattribute__" = some (some (.builtin "BaseException.__getattribute__")))
    (ed_InvalidText : PySem.W.findIn K (.ref C_InvalidText) "__getattr__" = some none)
    (ee_InvalidText : PySem.W.subIn K (.ref C_InvalidText) (.type "BaseException") = some true)
    (ef_InvalidText : PySem.W.findIn K (.ref C_InvalidText) "__class__" = some (some (.builtin "object.__class__")))
    (eh_InvalidText : PySem.W.mroIn K C_InvalidText (.type "object") = some true)
    (hd_TooMany : PySem.W.hasDictIn K C_TooMany = true)
    (hf_TooMany : PySem.W.findIn K (.ref C_TooMany) "limit" = some none)
    (hd_InvalidText : PySem.W.hasDictIn K C_InvalidText = true)
    (hf_InvalidText : PySem.W.findIn K (.ref C_InvalidText) "line" = some none)
    (eb_TooMany : PySem.W.subIn K (.ref C_TooMany) (.type "BaseException") = some true)
    (et_TooMany : PySem.W.typeIn K (.ref C_TooMany) = some (.type "type"))
    (eb_InvalidText : PySem.W.subIn K (.ref C_InvalidText) (.type "BaseException") = some true)
    (et_InvalidText : PySem.W.typeIn K (.ref C_InvalidText) = some (.type "type"))
    (ei_InvalidDrill : PySem.W.isClsIn K C_InvalidDrill = true)
    (es_InvalidDrill_InvalidDrill : PySem.W.subIn K (.ref C_InvalidDrill) (.ref C_InvalidDrill) = some true)
    (es_InvalidText_InvalidDrill : PySem.W.subIn K (.ref C_InvalidText) (.ref C_InvalidDrill) = some false)
    (ei_InvalidBeginning : PySem.W.isClsIn K C_InvalidBeginning = true)
    (es_InvalidDrill_InvalidBeginning : PySem.W.subIn K (.ref C_InvalidDrill) (.ref C_InvalidBeginning) = some false)
    (es_InvalidText_InvalidBeginning : PySem.W.subIn K (.ref C_InvalidText) (.ref C_InvalidBeginning) = some false)
    (ei_InvalidMany : PySem.W.isClsIn K C_InvalidMany = true)
    (es_InvalidDrill_InvalidMany : PySem.W.subIn K (.ref C_InvalidDrill) (.ref C_InvalidMany) = some false)
    (es_InvalidText_InvalidMany : PySem.W.subIn K (.ref C_InvalidText) (.ref C_InvalidMany) = some false)
    (ei_InvalidSheep : PySem.W.isClsIn K C_InvalidSheep = true)
    (es_InvalidDrill_InvalidSheep : PySem.W.subIn K (.ref C_InvalidDrill) (.ref C_InvalidSheep) = some false)
    (es_InvalidText_InvalidSheep : PySem.W.subIn K (.ref C_InvalidText) (.ref C_InvalidSheep) = some false)
    (ei_InvalidPlace : PySem.W.isClsIn K C_InvalidPlace = true)
    (es_InvalidDrill_InvalidPlace : PySem.W.subIn K (.ref C_InvalidDrill) (.ref C_InvalidPlace) = some false)
    (es_InvalidText_InvalidPlace : PySem.W.subIn K (.ref C_InvalidText) (.ref C_InvalidPlace) = some false)
    (ei_InvalidRun : PySem.W.isClsIn K C_InvalidRun = true)
    (es_InvalidDrill_InvalidRun : PySem.W.subIn K (.ref C_InvalidDrill) (.ref C_InvalidRun) = some false)
    (es_InvalidText_InvalidRun : PySem.W.subIn K (.ref C_InvalidText) (.ref C_InvalidRun) = some false)
    (ei_InvalidIndex : PySem.W.isClsIn K C_InvalidIndex = true)
    (es_InvalidDrill_InvalidIndex : PySem.W.subIn K (.ref C_InvalidDrill) (.ref C_InvalidIndex) = some false)
    (es_InvalidText_InvalidIndex : PySem.W.subIn K (.ref C_InvalidText) (.ref C_InvalidIndex) = some false)
    (ei_Unlike : PySem.W.isClsIn K C_Unlike = true)
    (es_InvalidDrill_Unlike : PySem.W.subIn K (.ref C_InvalidDrill) (.ref C_Unlike) = some false)
    (es_InvalidText_Unlike : PySem.W.subIn K (.ref C_InvalidText) (.ref C_Unlike) = some false)
    (ei_NothingToUndo : PySem.W.isClsIn K C_NothingToUndo = true)
    (es_InvalidDrill_NothingToUndo : PySem.W.subIn K (.ref C_InvalidDrill) (.ref C_NothingToUndo) = some false)
    (es_InvalidText_NothingToUndo : PySem.W.subIn K (.ref C_InvalidText) (.ref C_NothingToUndo) = some false)
    (ei_DogError : PySem.W.isClsIn K C_DogError = true)
    (es_InvalidDrill_DogError : PySem.W.subIn K (.ref C_InvalidDrill) (.ref C_DogError) = some true)
    (es_InvalidText_DogError : PySem.W.subIn K (.ref C_InvalidText) (.ref C_DogError) = some true)
    (ei_TooMany : PySem.W.isClsIn K C_TooMany = true)
    (es_InvalidDrill_TooMany : PySem.W.subIn K (.ref C_InvalidDrill) (.ref C_TooMany) = some false)
    (es_InvalidText_TooMany : PySem.W.subIn K (.ref C_InvalidText) (.ref C_TooMany) = some false)
    (ei_InvalidText : PySem.W.isClsIn K C_InvalidText = true)
    (es_InvalidDrill_InvalidText : PySem.W.subIn K (.ref C_InvalidDrill) (.ref C_InvalidText) = some false)
    (es_InvalidText_InvalidText : PySem.W.subIn K (.ref C_InvalidText) (.ref C_InvalidText) = some true)
    (v_FAR : PySem.W.nsIn K mainGlobals "FAR" = some (some (.int 1000000000000 t_FAR)))
    (v_MOST_RUNS : PySem.W.nsIn K mainGlobals "MOST_RUNS" = some (some (.int 8 t_MOST_RUNS)))
    (v_WIDEST : PySem.W.nsIn K mainGlobals "WIDEST" = some (some (.int 9 t_WIDEST)))
    (v_DEEPEST : PySem.W.nsIn K mainGlobals "DEEPEST" = some (some (.int 3 t_DEEPEST)))
    (z_abs : PySem.W.nsIn K mainGlobals "abs" = some none)
    (z_bool : PySem.W.nsIn K mainGlobals "bool" = some none)
    (z_int : PySem.W.nsIn K mainGlobals "int" = some none)
    (z_isinstance : PySem.W.nsIn K mainGlobals "isinstance" = some none)
    (z_len : PySem.W.nsIn K mainGlobals "len" = some none)
    (z_min : PySem.W.nsIn K mainGlobals "min" = some none)
    (z_range : PySem.W.nsIn K mainGlobals "range" = some none)
    (z_str : PySem.W.nsIn K mainGlobals "str" = some none)
    (z_tuple : PySem.W.nsIn K mainGlobals "tuple" = some none)
    (z_zip : PySem.W.nsIn K mainGlobals "zip" = some none) :
    LamX.LawAtS l w K (L2.CX l.prog w) 10 63 "_law_script" mg fa h := by
  have G := T.g
  have e := hfa.symm.trans (PySem.W.mg_of X G a22)
  cases e
  have F0 := fun_mk (st := s_is_int) l0 c0 k0
  have F1 := fun_mk (st := s_is_a_run) l1 c1 k1
  have F2 := fun_mk (st := s_fits) l2 c2 k2
  have F3 := fun_mk (st := s_need_drill) l3 c3 k3
  have F4 := fun_mk (st := s_text_of) l4 c4 k4
  have F5 := fun_mk (st := s_number_in) l5 c5 k5
  have F6 := fun_mk (st := s_line_in) l6 c6 k6
  have F7 := fun_mk (st := s_drill_in) l7 c7 k7
  have F8 := fun_mk (st := s_drill_text) l8 c8 k8
  have F9 := fun_mk (st := s_read_drill) l9 c9 k9
  have F10 := fun_mk (st := s_l_cart_of) l10 c10 k10
  have F11 := fun_mk (st := s_l_take) l11 c11 k11
  have F12 := fun_mk (st := s_l_any) l12 c12 k12
  have F13 := fun_mk (st := s_l_deed) l13 c13 k13
  have F14 := fun_mk (st := s_l_deeds) l14 c14 k14
  have F15 := fun_mk (st := s_l_work) l15 c15 k15
  have F16 := fun_mk (st := s_l_word) l16 c16 k16
  have F17 := fun_mk (st := s_l_number) l17 c17 k17
  have F18 := fun_mk (st := s_l_line) l18 c18 k18
  have F19 := fun_mk (st := s_l_due) l19 c19 k19
  have F20 := fun_mk (st := s_l_tried) l20 c20 k20
  have F21 := fun_mk (st := s_l_bent) l21 c21 k21
  have F22 := fun_mk (st := s_law) l22 c22 k22
  have tt22 := tab_mk a22 l22 rfl y22 p22
  have tt20 := tab_mk a20 l20 rfl y20 p20
  have tabs : tabsOf K = [(pp22, (("law" : Str) ++ ".<locals>." ++ "<lambda>")), (pp20, (("_law_tried" : Str) ++ ".<locals>." ++ "<lambda>"))] := by
    simp only [tabsOf, lamDefs, List.filterMap_cons, List.filterMap_nil, Option.map_some, Option.map_none, tt22, tt20, tab_no u__law_lots, tab_no u__law_signs_right, tab_no u__law_refused, tab_no u__law_called, tab_no u__law_shows, tab_no u__law_nested, tab_no u__law_ended, tab_no u__law_back, tab_no u__law_full_right, tab_no u__law_first_calls, tab_no u__law_pair_calls, tab_no u__law_place_calls, tab_no u__law_many_calls]
  let M : Md K mg := {
    f_is_int := _, d_is_int := _, F_is_int := F0, g_is_int := PySem.W.mg_of X G a0, n_is_int := a0, b_is_int := F0.binds (ps := ["value", "low", "high"]) (fun _ _ _ _ _ _ us hl => match us, hl with | [_, _, _], _ => rfl),
    f_is_a_run := _, d_is_a_run := _, F_is_a_run := F1, g_is_a_run := PySem.W.mg_of X G a1, n_is_a_run := a1, b_is_a_run := F1.binds (ps := ["value"]) (fun _ _ _ _ _ _ us hl => match us, hl with | [_], _ => rfl),
    f_fits := _, d_fits := _, F_fits := F2, g_fits := PySem.W.mg_of X G a2, n_fits := a2, b_fits := F2.binds (ps := ["value"]) (fun _ _ _ _ _ _ us hl => match us, hl with | [_], _ => rfl),
    f_need_drill := _, d_need_drill := _, F_need_drill := F3, g_need_drill := PySem.W.mg_of X G a3, n_need_drill := a3, b_need_drill := F3.binds (ps := ["value"]) (fun _ _ _ _ _ _ us hl => match us, hl with | [_], _ => rfl),
    f_text_of := _, d_text_of := _, F_text_of := F4, g_text_of := PySem.W.mg_of X G a4, n_text_of := a4, b_text_of := F4.binds (ps := ["drill"]) (fun _ _ _ _ _ _ us hl => match us, hl with | [_], _ => rfl),
    f_number_in := _, d_number_in := _, F_number_in := F5, g_number_in := PySem.W.mg_of X G a5, n_number_in := a5, b_number_in := F5.binds (ps := ["word"]) (fun _ _ _ _ _ _ us hl => match us, hl with | [_], _ => rfl),
    f_line_in := _, d_line_in := _, F_line_in := F6, g_line_in := PySem.W.mg_of X G a6, n_line_in := a6, b_line_in := F6.binds (ps := ["line"]) (fun _ _ _ _ _ _ us hl => match us, hl with | [_], _ => rfl),
    f_drill_in := _, d_drill_in := _, F_drill_in := F7, g_drill_in := PySem.W.mg_of X G a7, n_drill_in := a7, b_drill_in := F7.binds (ps := ["value"]) (fun _ _ _ _ _ _ us hl => match us, hl with | [_], _ => rfl),
    f_drill_text := _, d_drill_text := _, F_drill_text := F8, g_drill_text := PySem.W.mg_of X G a8, n_drill_text := a8, b_drill_text := F8.binds (ps := ["drill"]) (fun _ _ _ _ _ _ us hl => match us, hl with | [_], _ => rfl),
    f_read_drill := _, d_read_drill := _, F_read_drill := F9, g_read_drill := PySem.W.mg_of X G a9, n_read_drill := a9, b_read_drill := F9.binds (ps := ["value"]) (fun _ _ _ _ _ _ us hl => match us, hl with | [_], _ => rfl),
    f_l_cart_of := _, d_l_cart_of := _, F_l_cart_of := F10, g_l_cart_of := PySem.W.mg_of X G a10, n_l_cart_of := a10, b_l_cart_of := F10.binds (ps := ["_law_script", "_law_k"]) (fun _ _ _ _ _ _ us hl => match us, hl with | [_, _], _ => rfl),
    f_l_take := _, d_l_take := _, F_l_take := F11, g_l_take := PySem.W.mg_of X G a11, n_l_take := a11, b_l_take := F11.binds (ps := ["_law_cart", "_law_many"]) (fun _ _ _ _ _ _ us hl => match us, hl with | [_, _], _ => rfl),
    f_l_any := _, d_l_any := _, F_l_any := F12, g_l_any := PySem.W.mg_of X G a12, n_l_any := a12, b_l_any := F12.binds (ps := ["_law_cart", "_law_things"]) (fun _ _ _ _ _ _ us hl => match us, hl with | [_, _], _ => rfl),
    f_l_deed := _, d_l_deed := _, F_l_deed := F13, g_l_deed := PySem.W.mg_of X G a13, n_l_deed := a13, b_l_deed := F13.binds (ps := ["_law_cart", "_law_wide"]) (fun _ _ _ _ _ _ us hl => match us, hl with | [_, _], _ => rfl),
    f_l_deeds := _, d_l_deeds := _, F_l_deeds := F14, g_l_deeds := PySem.W.mg_of X G a14, n_l_deeds := a14, b_l_deeds := F14.binds (ps := ["_law_cart", "_law_most", "_law_wide"]) (fun _ _ _ _ _ _ us hl => match us, hl with | [_, _, _], _ => rfl),
    f_l_work := _, d_l_work := _, F_l_work := F15, g_l_work := PySem.W.mg_of X G a15, n_l_work := a15, b_l_work := F15.binds (ps := ["_law_cart", "_law_most"]) (fun _ _ _ _ _ _ us hl => match us, hl with | [_, _], _ => rfl),
    f_l_word := _, d_l_word := _, F_l_word := F16, g_l_word := PySem.W.mg_of X G a16, n_l_word := a16, b_l_word := F16.binds (ps := ["_law_call"]) (fun _ _ _ _ _ _ us hl => match us, hl with | [_], _ => rfl),
    v_l_word := _, w_word := ⟨⟨_, _, _, _, _, _, _, _, l16, F16.binds (ps := ["_law_call"]) (fun _ _ _ _ _ _ us hl => match us, hl with | [_], _ => rfl)⟩, c16, k16, PySem.W.mg_of X G a16, sc_l_word, rfl, by first | exact Or.inl rfl | exact Or.inr (Or.inl rfl)⟩,
    f_l_number := _, d_l_number := _, F_l_number := F17, g_l_number := PySem.W.mg_of X G a17, n_l_number := a17, b_l_number := F17.binds (ps := ["_law_word_here", "_law_least", "_law_most"]) (fun _ _ _ _ _ _ us hl => match us, hl with | [_, _, _], _ => rfl),
    f_l_line := _, d_l_line := _, F_l_line := F18, g_l_line := PySem.W.mg_of X G a18, n_l_line := a18, b_l_line := F18.binds (ps := ["_law_line_here"]) (fun _ _ _ _ _ _ us hl => match us, hl with | [_], _ => rfl),
    f_l_due := _, d_l_due := _, F_l_due := F19, g_l_due := PySem.W.mg_of X G a19, n_l_due := a19, b_l_due := F19.binds (ps := ["_law_value"]) (fun _ _ _ _ _ _ us hl => match us, hl with | [_], _ => rfl),
    f_l_tried := _, d_l_tried := _, F_l_tried := F20, g_l_tried := PySem.W.mg_of X G a20, n_l_tried := a20, b_l_tried := F20.binds (ps := ["_law_value"]) (fun _ _ _ _ _ _ us hl => match us, hl with | [_], _ => rfl),
    c_l_tried := _, P_l_tried := pp20, o1_l_tried := _, o2_l_tried := _, o3_l_tried := _, o4_l_tried := _, o5_l_tried := _, u1_l_tried := _, u2_l_tried := _, us_l_tried := _, lk_l_tried := l20, cd_l_tried := c20, db_l_tried := rfl,
    tm_l_tried := by rw [tabs]; simp, tu_l_tried := by
      rw [tabs]
      intro p hp e
      simp only [List.mem_cons, List.not_mem_nil, or_false] at hp
      rcases hp with rfl | rfl
      · exact absurd (show pp22 = pp20 from e) j22_20
      · rfl,
    f_l_bent := _, d_l_bent := _, F_l_bent := F21, g_l_bent := PySem.W.mg_of X G a21, n_l_bent := a21, b_l_bent := F21.binds (ps := ["_law_cart", "_law_text"]) (fun _ _ _ _ _ _ us hl => match us, hl with | [_, _], _ => rfl),
    f_law := _, d_law := _, F_law := F22, g_law := PySem.W.mg_of X G a22, n_law := a22, b_law := F22.binds (ps := ["_law_script"]) (fun _ _ _ _ _ _ us hl => match us, hl with | [_], _ => rfl),
    C_InvalidDrill := C_InvalidDrill, e_InvalidDrill := ⟨PySem.W.mg_of X G eg_InvalidDrill, eg_InvalidDrill, ex_InvalidDrill, ek_InvalidDrill, eb_InvalidDrill, et_InvalidDrill⟩,
    C_InvalidBeginning := C_InvalidBeginning, e_InvalidBeginning := ⟨PySem.W.mg_of X G eg_InvalidBeginning, eg_InvalidBeginning, ex_InvalidBeginning, ek_InvalidBeginning, eb_InvalidBeginning, et_InvalidBeginning⟩,
    C_InvalidMany := C_InvalidMany, e_InvalidMany := ⟨PySem.W.mg_of X G eg_InvalidMany, eg_InvalidMany, ex_InvalidMany, ek_InvalidMany, eb_InvalidMany, et_InvalidMany⟩,
    C_InvalidSheep := C_InvalidSheep, e_InvalidSheep := ⟨PySem.W.mg_of X G eg_InvalidSheep, eg_InvalidSheep, ex_InvalidSheep, ek_InvalidSheep, eb_InvalidSheep, et_InvalidSheep⟩,
    C_InvalidPlace := C_InvalidPlace, e_InvalidPlace := ⟨PySem.W.mg_of X G eg_InvalidPlace, eg_InvalidPlace, ex_InvalidPlace, ek_InvalidPlace, eb_InvalidPlace, et_InvalidPlace⟩,
    C_InvalidRun := C_InvalidRun, e_InvalidRun := ⟨PySem.W.mg_of X G eg_InvalidRun, eg_InvalidRun, ex_InvalidRun, ek_InvalidRun, eb_InvalidRun, et_InvalidRun⟩,
    C_InvalidIndex := C_InvalidIndex, e_InvalidIndex := ⟨PySem.W.mg_of X G eg_InvalidIndex, eg_InvalidIndex, ex_InvalidIndex, ek_InvalidIndex, eb_InvalidIndex, et_InvalidIndex⟩,
    C_Unlike := C_Unlike, e_Unlike := ⟨PySem.W.mg_of X G eg_Unlike, eg_Unlike, ex_Unlike, ek_Unlike, eb_Unlike, et_Unlike⟩,
    C_NothingToUndo := C_NothingToUndo, e_NothingToUndo := ⟨PySem.W.mg_of X G eg_NothingToUndo, eg_NothingToUndo, ex_NothingToUndo, ek_NothingToUndo, eb_NothingToUndo, et_NothingToUndo⟩,
    C_DogError := C_DogError, e_DogError := ⟨PySem.W.mg_of X G eg_DogError, eg_DogError, ex_DogError, ek_DogError, eb_DogError, et_DogError⟩,
    C_TooMany := C_TooMany, c_TooMany := PySem.W.mg_of X G eg_TooMany,
    C_InvalidText := C_InvalidText, c_InvalidText := PySem.W.mg_of X G eg_InvalidText,
    n_TooMany := eg_TooMany,
    n_InvalidText := eg_InvalidText,
    T_InvalidText := ⟨⟨_, _, _, _, _, _, _, _, _, _, _, _, _, _, _, il_InvalidText, im_InvalidText⟩, ia_InvalidText, eb_InvalidText, et_InvalidText, ik_InvalidText⟩, I_InvalidText := I_InvalidText, iC_InvalidText := ii_InvalidText, tI_InvalidText := it_InvalidText,
    oi1_InvalidText := _, oi2_InvalidText := _, oi3_InvalidText := _, oi4_InvalidText := _, oi5_InvalidText := _, oi6_InvalidText := _, ui1_InvalidText := _, ui2_InvalidText := _, usi_InvalidText := _, lkI_InvalidText := ip_InvalidText, cdI_InvalidText := ic_InvalidText, no_InvalidText := in_InvalidText,
    bI_InvalidText := Binds.all (ps := ["self", "line"]) (fun us hl => match us, hl with | [_, _], _ => rfl),
    B_DogError := ⟨PySem.W.mg_of X G eg_DogError, bk_DogError, br_DogError, ba_DogError, bi_DogError⟩,
    FA := fldAll_mk [(("TooMany", "limit"), C_TooMany), (("InvalidText", "line"), C_InvalidText)] rfl (fm2 eg_TooMany (fm2 eg_InvalidText fm0)) (fm2 ⟨⟨ec_TooMany, ed_TooMany, ee_TooMany, hd_TooMany⟩, hf_TooMany⟩ (fm2 ⟨⟨ec_InvalidText, ed_InvalidText, ee_InvalidText, hd_InvalidText⟩, hf_InvalidText⟩ fm0)),
    x_InvalidDrill_InvalidDrill := exm_mk eb_InvalidDrill ei_InvalidDrill et_InvalidDrill es_InvalidDrill_InvalidDrill,
    x_InvalidText_InvalidDrill := exm_mk eb_InvalidDrill ei_InvalidDrill et_InvalidDrill es_InvalidText_InvalidDrill,
    x_InvalidDrill_InvalidBeginning := exm_mk eb_InvalidBeginning ei_InvalidBeginning et_InvalidBeginning es_InvalidDrill_InvalidBeginning,
    x_InvalidText_InvalidBeginning := exm_mk eb_InvalidBeginning ei_InvalidBeginning et_InvalidBeginning es_InvalidText_InvalidBeginning,
    x_InvalidDrill_InvalidMany := exm_mk eb_InvalidMany ei_InvalidMany et_InvalidMany es_InvalidDrill_InvalidMany,
    x_InvalidText_InvalidMany := exm_mk eb_InvalidMany ei_InvalidMany et_InvalidMany es_InvalidText_InvalidMany,
    x_InvalidDrill_InvalidSheep := exm_mk eb_InvalidSheep ei_InvalidSheep et_InvalidSheep es_InvalidDrill_InvalidSheep,
    x_InvalidText_InvalidSheep := exm_mk eb_InvalidSheep ei_InvalidSheep et_InvalidSheep es_InvalidText_InvalidSheep,
    x_InvalidDrill_InvalidPlace := exm_mk eb_InvalidPlace ei_InvalidPlace et_InvalidPlace es_InvalidDrill_InvalidPlace,
    x_InvalidText_InvalidPlace := exm_mk eb_InvalidPlace ei_InvalidPlace et_InvalidPlace es_InvalidText_InvalidPlace,
    x_InvalidDrill_InvalidRun := exm_mk eb_InvalidRun ei_InvalidRun et_InvalidRun es_InvalidDrill_InvalidRun,
    x_InvalidText_InvalidRun := exm_mk eb_InvalidRun ei_InvalidRun et_InvalidRun es_InvalidText_InvalidRun,
    x_InvalidDrill_InvalidIndex := exm_mk eb_InvalidIndex ei_InvalidIndex et_InvalidIndex es_InvalidDrill_InvalidIndex,
    x_InvalidText_InvalidIndex := exm_mk eb_InvalidIndex ei_InvalidIndex et_InvalidIndex es_InvalidText_InvalidIndex,
    x_InvalidDrill_Unlike := exm_mk eb_Unlike ei_Unlike et_Unlike es_InvalidDrill_Unlike,
    x_InvalidText_Unlike := exm_mk eb_Unlike ei_Unlike et_Unlike es_InvalidText_Unlike,
    x_InvalidDrill_NothingToUndo := exm_mk eb_NothingToUndo ei_NothingToUndo et_NothingToUndo es_InvalidDrill_NothingToUndo,
    x_InvalidText_NothingToUndo := exm_mk eb_NothingToUndo ei_NothingToUndo et_NothingToUndo es_InvalidText_NothingToUndo,
    x_InvalidDrill_DogError := exm_mk eb_DogError ei_DogError et_DogError es_InvalidDrill_DogError,
    x_InvalidText_DogError := exm_mk eb_DogError ei_DogError et_DogError es_InvalidText_DogError,
    x_InvalidDrill_TooMany := exm_mk eb_TooMany ei_TooMany et_TooMany es_InvalidDrill_TooMany,
    x_InvalidText_TooMany := exm_mk eb_TooMany ei_TooMany et_TooMany es_InvalidText_TooMany,
    x_InvalidDrill_InvalidText := exm_mk eb_InvalidText ei_InvalidText et_InvalidText es_InvalidDrill_InvalidText,
    x_InvalidText_InvalidText := exm_mk eb_InvalidText ei_InvalidText et_InvalidText es_InvalidText_InvalidText,
    t_FAR := t_FAR, g_FAR := PySem.W.mg_of X G v_FAR,
    t_MOST_RUNS := t_MOST_RUNS, g_MOST_RUNS := PySem.W.mg_of X G v_MOST_RUNS,
    t_WIDEST := t_WIDEST, g_WIDEST := PySem.W.mg_of X G v_WIDEST,
    t_DEEPEST := t_DEEPEST, g_DEEPEST := PySem.W.mg_of X G v_DEEPEST,
    z_abs := PySem.W.mg_none_of X G z_abs,
    z_bool := PySem.W.mg_none_of X G z_bool,
    z_int := PySem.W.mg_none_of X G z_int,
    z_isinstance := PySem.W.mg_none_of X G z_isinstance,
    z_len := PySem.W.mg_none_of X G z_len,
    z_min := PySem.W.mg_none_of X G z_min,
    z_range := PySem.W.mg_none_of X G z_range,
    z_str := PySem.W.mg_none_of X G z_str,
    z_tuple := PySem.W.mg_none_of X G z_tuple,
    z_zip := PySem.W.mg_none_of X G z_zip }
  have tab1 := fun (x : Str) (c P : Addr) (d : DefRec) (t : PySem.W.tabIn K x = some (c, P)) (r : (recsOf q).find? (fun e => e.name == x) = some d) => PySem.W.tab_of T X r t
  have hT : ∀ p ∈ ([(cc22, pp22), (cc20, pp20)] : List (Addr × Addr)), h.get? p.2 = some { cls := .none, data := .fields #[] } := fun p hp => by
    simp only [List.mem_cons, List.not_mem_nil, or_false] at hp
    rcases hp with rfl | rfl
    · exact (tab1 _ _ _ _ tt22 q22).2
    · exact (tab1 _ _ _ _ tt20 q20).2
  have hC : ∀ p ∈ ([(cc22, pp22), (cc20, pp20)] : List (Addr × Addr)), PySem.W.CodeHd h p.1 p.2 := fun p hp => by
    simp only [List.mem_cons, List.not_mem_nil, or_false] at hp
    rcases hp with rfl | rfl
    · exact (tab1 _ _ _ _ tt22 q22).1
    · exact (tab1 _ _ _ _ tt20 q20).1
  have hN : ∀ p ∈ ([(cc22, pp22), (cc20, pp20)] : List (Addr × Addr)), K.lookup p.2 = none := fun p hp => by
    simp only [List.mem_cons, List.not_mem_nil, or_false] at hp
    rcases hp with rfl | rfl
    · exact r22
    · exact r20
  have hin : ∀ p ∈ tabsOf K, ∃ c, (c, p.1) ∈ ([(cc22, pp22), (cc20, pp20)] : List (Addr × Addr)) := by
    rw [tabs]
    intro p hp
    simp only [List.mem_cons, List.not_mem_nil, or_false] at hp
    rcases hp with rfl | rfl
    · exact ⟨cc22, by simp⟩
    · exact ⟨cc20, by simp⟩
  exact ⟨(PySem.W.fnOf "law" "law" (defArgs s_law) (defBody s_law) (defScope s_law) .none kV22 dc22 pm22 an22 (.ref cc22) ct22), [(cc22, pp22), (cc20, pp20)], spD K 1 (S_law ["InvalidDrill", "InvalidText"]), hT, hN, hC, fun s u => .of_eq rfl, fun H a ns hl _ hH hS => law_spT hin (fun ns T Q QX hl q => law_in ns T Q QX hl q) H a ns hl hH hS, fun base _ _ TB => ok_law M (TB (cc20, pp20) (by simp))⟩
end DL
set_option Elab.async false
set_option linter.all false
set_option maxRecDepth 100000
set_option maxHeartbeats 4000000
set_option autoImplicit false
open PySem PySem.W PyProof.Rows
set_option maxHeartbeats 0 in
theorem PySem.Challenge.cw_dogruns_k12_texts_of_drills_holds : PySem.Challenge.rw_dogruns_k12_texts_of_drills.Holds := by
  w_on; o_law; k_head; (case hw => w_witness2)
  k_fill
  refine DL.walk_ofD (l := PySem.Challenge.rw_dogruns_k12_texts_of_drills) (n := 63) (k := 10) (x := "_law_script") (CX := fun w => L2.CX PySem.Challenge.rw_dogruns_k12_texts_of_drills.prog w) rfl (by decide) rfl ⟨rfl, by decide, by decide⟩ (fun w h Y => PySem.W.km_in_of Y) ?F ?X
  case F =>
    intro w mg mb fa h lo mean Y KX T hmg
    refine' DL.all_mk KX T hmg ?eg_InvalidDrill ?eg_InvalidBeginning ?eg_InvalidMany ?eg_InvalidSheep ?eg_InvalidPlace ?eg_InvalidRun ?eg_InvalidIndex ?eg_Unlike ?eg_NothingToUndo ?eg_DogError ?eg_TooMany ?eg_InvalidText ?a0 ?l0 ?c0 ?k0 ?a1 ?l1 ?c1 ?k1 ?a2 ?l2 ?c2 ?k2 ?a3 ?l3 ?c3 ?k3 ?a4 ?l4 ?c4 ?k4 ?a5 ?l5 ?c5 ?k5 ?a6 ?l6 ?c6 ?k6 ?a7 ?l7 ?c7 ?k7 ?a8 ?l8 ?c8 ?k8 ?a9 ?l9 ?c9 ?k9 ?a10 ?l10 ?c10 ?k10 ?a11 ?l11 ?c11 ?k11 ?a12 ?l12 ?c12 ?k12 ?a13 ?l13 ?c13 ?k13 ?a14 ?l14 ?c14 ?k14 ?a15 ?l15 ?c15 ?k15 ?a16 ?l16 ?c16 ?k16 ?a17 ?l17 ?c17 ?k17 ?a18 ?l18 ?c18 ?k18 ?a19 ?l19 ?c19 ?k19 ?a20 ?l20 ?c20 ?k20 ?y20 ?p20 ?r20 ?q20 ?a21 ?l21 ?c21 ?k21 ?a22 ?l22 ?c22 ?k22 ?y22 ?p22 ?r22 ?q22 ?j22_20 ?u__law_lots ?u__law_signs_right ?u__law_refused ?u__law_called ?u__law_shows ?u__law_nested ?u__law_ended ?u__law_back ?u__law_full_right ?u__law_first_calls ?u__law_pair_calls ?u__law_place_calls ?u__law_many_calls ?ex_InvalidDrill ?ek_InvalidDrill ?eb_InvalidDrill ?et_InvalidDrill ?ex_InvalidBeginning ?ek_InvalidBeginning ?eb_InvalidBeginning ?et_InvalidBeginning ?ex_InvalidMany ?ek_InvalidMany ?eb_InvalidMany ?et_InvalidMany ?ex_InvalidSheep ?ek_InvalidSheep ?eb_InvalidSheep ?et_InvalidSheep ?ex_InvalidPlace ?ek_InvalidPlace ?eb_InvalidPlace ?et_InvalidPlace ?ex_InvalidRun ?ek_InvalidRun ?eb_InvalidRun ?et_InvalidRun ?ex_InvalidIndex ?ek_InvalidIndex ?eb_InvalidIndex ?et_InvalidIndex ?ex_Unlike ?ek_Unlike ?eb_Unlike ?et_Unlike ?ex_NothingToUndo ?ek_NothingToUndo ?eb_NothingToUndo ?et_NothingToUndo ?ex_DogError ?ek_DogError ?eb_DogError ?et_DogError ?ik_InvalidText ?il_InvalidText ?im_InvalidText ?ia_InvalidText ?ii_InvalidText ?it_InvalidText ?ip_InvalidText ?ic_InvalidText ?in_InvalidText ?bk_DogError ?br_DogError ?ba_DogError ?bi_DogError ?ea_DogError ?ec_DogError ?ed_DogError ?ee_DogError ?ef_DogError ?eh_DogError ?ea_InvalidDrill ?ec_InvalidDrill ?ed_InvalidDrill ?ee_InvalidDrill ?ef_InvalidDrill ?eh_InvalidDrill ?ea_InvalidBeginning ?ec_InvalidBeginning ?ed_InvalidBeginning ?ee_InvalidBeginning ?ef_InvalidBeginning ?eh_InvalidBeginning ?ea_InvalidMany ?ec_InvalidMany ?ed_InvalidMany ?ee_InvalidMany ?ef_InvalidMany ?eh_InvalidMany ?ea_InvalidSheep ?ec_InvalidSheep ?ed_InvalidSheep ?ee_InvalidSheep ?ef_InvalidSheep ?eh_InvalidSheep ?ea_InvalidPlace ?ec_InvalidPlace ?ed_InvalidPlace ?ee_InvalidPlace ?ef_InvalidPlace ?eh_InvalidPlace ?ea_InvalidRun ?ec_InvalidRun ?ed_InvalidRun ?ee_InvalidRun ?ef_InvalidRun ?eh_InvalidRun ?ea_InvalidIndex ?ec_InvalidIndex ?ed_InvalidIndex ?ee_InvalidIndex ?ef_InvalidIndex ?eh_InvalidIndex ?ea_Unlike ?ec_Unlike ?ed_Unlike ?ee_Unlike ?ef_Unlike ?eh_Unlike ?ea_NothingToUndo ?ec_NothingToUndo ?ed_NothingToUndo ?ee_NothingToUndo ?ef_NothingToUndo ?eh_NothingToUndo ?ea_TooMany ?ec_TooMany ?ed_TooMany ?ee_TooMany ?ef_TooMany ?eh_TooMany ?ea_InvalidText ?ec_InvalidText ?ed_InvalidText ?ee_InvalidText ?ef_InvalidText ?eh_InvalidText ?hd_TooMany ?hf_TooMany ?hd_InvalidText ?hf_InvalidText ?eb_TooMany ?et_TooMany ?eb_InvalidText ?et_InvalidText ?ei_InvalidDrill ?es_InvalidDrill_InvalidDrill ?es_InvalidText_InvalidDrill ?ei_InvalidBeginning ?es_InvalidDrill_InvalidBeginning ?es_InvalidText_InvalidBeginning ?ei_InvalidMany ?es_InvalidDrill_InvalidMany ?es_InvalidText_InvalidMany ?ei_InvalidSheep ?es_InvalidDrill_InvalidSheep ?es_InvalidText_InvalidSheep ?ei_InvalidPlace ?es_InvalidDrill_InvalidPlace ?es_InvalidText_InvalidPlace ?ei_InvalidRun ?es_InvalidDrill_InvalidRun ?es_InvalidText_InvalidRun ?ei_InvalidIndex ?es_InvalidDrill_InvalidIndex ?es_InvalidText_InvalidIndex ?ei_Unlike ?es_InvalidDrill_Unlike ?es_InvalidText_Unlike ?ei_NothingToUndo ?es_InvalidDrill_NothingToUndo ?es_InvalidText_NothingToUndo ?ei_DogError ?es_InvalidDrill_DogError ?es_InvalidText_DogError ?ei_TooMany ?es_InvalidDrill_TooMany ?es_InvalidText_TooMany ?ei_InvalidText ?es_InvalidDrill_InvalidText ?es_InvalidText_InvalidText ?v_FAR ?v_MOST_RUNS ?v_WIDEST ?v_DEEPEST ?z_abs ?z_bool ?z_int ?z_isinstance ?z_len ?z_min ?z_range ?z_str ?z_tuple ?z_zip
    (case eg_InvalidDrill => k_is); (case eg_InvalidBeginning => k_is); (case eg_InvalidMany => k_is); (case eg_InvalidSheep => k_is); (case eg_InvalidPlace => k_is); (case eg_InvalidRun => k_is); (case eg_InvalidIndex => k_is); (case eg_Unlike => k_is)
    (case eg_NothingToUndo => k_is); (case eg_DogError => k_is); (case eg_TooMany => k_is); (case eg_InvalidText => k_is); (case a0 => k_is); (case l0 => k_is); (case c0 => k_is); (case k0 => k_is)
    (case a1 => k_is); (case l1 => k_is); (case c1 => k_is); (case k1 => k_is); (case a2 => k_is); (case l2 => k_is); (case c2 => k_is); (case k2 => k_is)
    (case a3 => k_is); (case l3 => k_is); (case c3 => k_is); (case k3 => k_is); (case a4 => k_is); (case l4 => k_is); (case c4 => k_is); (case k4 => k_is)
    (case a5 => k_is); (case l5 => k_is); (case c5 => k_is); (case k5 => k_is); (case a6 => k_is); (case l6 => k_is); (case c6 => k_is); (case k6 => k_is)
    (case a7 => k_is); (case l7 => k_is); (case c7 => k_is); (case k7 => k_is); (case a8 => k_is); (case l8 => k_is); (case c8 => k_is); (case k8 => k_is)
    (case a9 => k_is); (case l9 => k_is); (case c9 => k_is); (case k9 => k_is); (case a10 => k_is); (case l10 => k_is); (case c10 => k_is); (case k10 => k_is)
    (case a11 => k_is); (case l11 => k_is); (case c11 => k_is); (case k11 => k_is); (case a12 => k_is); (case l12 => k_is); (case c12 => k_is); (case k12 => k_is)
    (case a13 => k_is); (case l13 => k_is); (case c13 => k_is); (case k13 => k_is); (case a14 => k_is); (case l14 => k_is); (case c14 => k_is); (case k14 => k_is)
    (case a15 => k_is); (case l15 => k_is); (case c15 => k_is); (case k15 => k_is); (case a16 => k_is); (case l16 => k_is); (case c16 => k_is); (case k16 => k_is)
    (case a17 => k_is); (case l17 => k_is); (case c17 => k_is); (case k17 => k_is); (case a18 => k_is); (case l18 => k_is); (case c18 => k_is); (case k18 => k_is)
    (case a19 => k_is); (case l19 => k_is); (case c19 => k_is); (case k19 => k_is); (case a20 => k_is); (case l20 => k_is); (case c20 => k_is); (case k20 => k_is)
    (case y20 => k_is); (case p20 => rfl); (case r20 => first | kernel_rfl | rfl | decide +kernel); (case q20 => first | rfl | kernel_rfl); (case a21 => k_is); (case l21 => k_is); (case c21 => k_is); (case k21 => k_is)
    (case a22 => k_is); (case l22 => k_is); (case c22 => k_is); (case k22 => k_is); (case y22 => k_is); (case p22 => rfl); (case r22 => first | kernel_rfl | rfl | decide +kernel); (case q22 => first | rfl | kernel_rfl)
    (case j22_20 => decide); (case u__law_lots => k_is); (case u__law_signs_right => k_is); (case u__law_refused => k_is); (case u__law_called => k_is); (case u__law_shows => k_is); (case u__law_nested => k_is); (case u__law_ended => k_is)
    (case u__law_back => k_is); (case u__law_full_right => k_is); (case u__law_first_calls => k_is); (case u__law_pair_calls => k_is); (case u__law_place_calls => k_is); (case u__law_many_calls => k_is); (case ex_InvalidDrill => k_exc); (case ek_InvalidDrill => k_is)
    (case eb_InvalidDrill => k_is); (case et_InvalidDrill => k_is); (case ex_InvalidBeginning => k_exc); (case ek_InvalidBeginning => k_is); (case eb_InvalidBeginning => k_is); (case et_InvalidBeginning => k_is); (case ex_InvalidMany => k_exc); (case ek_InvalidMany => k_is)
    (case eb_InvalidMany => k_is); (case et_InvalidMany => k_is); (case ex_InvalidSheep => k_exc); (case ek_InvalidSheep => k_is); (case eb_InvalidSheep => k_is); (case et_InvalidSheep => k_is); (case ex_InvalidPlace => k_exc); (case ek_InvalidPlace => k_is)
    (case eb_InvalidPlace => k_is); (case et_InvalidPlace => k_is); (case ex_InvalidRun => k_exc); (case ek_InvalidRun => k_is); (case eb_InvalidRun => k_is); (case et_InvalidRun => k_is); (case ex_InvalidIndex => k_exc); (case ek_InvalidIndex => k_is)
    (case eb_InvalidIndex => k_is); (case et_InvalidIndex => k_is); (case ex_Unlike => k_exc); (case ek_Unlike => k_is); (case eb_Unlike => k_is); (case et_Unlike => k_is); (case ex_NothingToUndo => k_exc); (case ek_NothingToUndo => k_is)
    (case eb_NothingToUndo => k_is); (case et_NothingToUndo => k_is); (case ex_DogError => k_exc); (case ek_DogError => k_is); (case eb_DogError => k_is); (case et_DogError => k_is); (case ik_InvalidText => k_is); (case il_InvalidText => k_is)
    (case im_InvalidText => first | rfl | kernel_rfl | decide +kernel); (case ia_InvalidText => k_is); (case ii_InvalidText => k_is); (case it_InvalidText => k_is); (case ip_InvalidText => k_is); (case ic_InvalidText => k_is); (case in_InvalidText => k_is); (case bk_DogError => k_is)
    (case br_DogError => k_is); (case ba_DogError => k_is); (case bi_DogError => k_is); (case ea_DogError => k_is); (case ec_DogError => k_is); (case ed_DogError => k_is); (case ee_DogError => k_is); (case ef_DogError => k_is)
    (case eh_DogError => k_is); (case ea_InvalidDrill => k_is); (case ec_InvalidDrill => k_is); (case ed_InvalidDrill => k_is); (case ee_InvalidDrill => k_is); (case ef_InvalidDrill => k_is); (case eh_InvalidDrill => k_is); (case ea_InvalidBeginning => k_is)
    (case ec_InvalidBeginning => k_is); (case ed_InvalidBeginning => k_is); (case ee_InvalidBeginning => k_is); (case ef_InvalidBeginning => k_is); (case eh_InvalidBeginning => k_is); (case ea_InvalidMany => k_is); (case ec_InvalidMany => k_is); (case ed_InvalidMany => k_is)
    (case ee_InvalidMany => k_is); (case ef_InvalidMany => k_is); (case eh_InvalidMany => k_is); (case ea_InvalidSheep => k_is); (case ec_InvalidSheep => k_is); (case ed_InvalidSheep => k_is); (case ee_InvalidSheep => k_is); (case ef_InvalidSheep => k_is)
    (case eh_InvalidSheep => k_is); (case ea_InvalidPlace => k_is); (case ec_InvalidPlace => k_is); (case ed_InvalidPlace => k_is); (case ee_InvalidPlace => k_is); (case ef_InvalidPlace => k_is); (case eh_InvalidPlace => k_is); (case ea_InvalidRun => k_is)
    (case ec_InvalidRun => k_is); (case ed_InvalidRun => k_is); (case ee_InvalidRun => k_is); (case ef_InvalidRun => k_is); (case eh_InvalidRun => k_is); (case ea_InvalidIndex => k_is); (case ec_InvalidIndex => k_is); (case ed_InvalidIndex => k_is)
    (case ee_InvalidIndex => k_is); (case ef_InvalidIndex => k_is); (case eh_InvalidIndex => k_is); (case ea_Unlike => k_is); (case ec_Unlike => k_is); (case ed_Unlike => k_is); (case ee_Unlike => k_is); (case ef_Unlike => k_is)
    (case eh_Unlike => k_is); (case ea_NothingToUndo => k_is); (case ec_NothingToUndo => k_is); (case ed_NothingToUndo => k_is); (case ee_NothingToUndo => k_is); (case ef_NothingToUndo => k_is); (case eh_NothingToUndo => k_is); (case ea_TooMany => k_is)
    (case ec_TooMany => k_is); (case ed_TooMany => k_is); (case ee_TooMany => k_is); (case ef_TooMany => k_is); (case eh_TooMany => k_is); (case ea_InvalidText => k_is); (case ec_InvalidText => k_is); (case ed_InvalidText => k_is)
    (case ee_InvalidText => k_is); (case ef_InvalidText => k_is); (case eh_InvalidText => k_is); (case hd_TooMany => k_is); (case hf_TooMany => k_is); (case hd_InvalidText => k_is); (case hf_InvalidText => k_is); (case eb_TooMany => k_is)
    (case et_TooMany => k_is); (case eb_InvalidText => k_is); (case et_InvalidText => k_is); (case ei_InvalidDrill => k_is); (case es_InvalidDrill_InvalidDrill => first | k_is | rfl); (case es_InvalidText_InvalidDrill => first | k_is | rfl); (case ei_InvalidBeginning => k_is); (case es_InvalidDrill_InvalidBeginning => first | k_is | rfl)
    (case es_InvalidText_InvalidBeginning => first | k_is | rfl); (case ei_InvalidMany => k_is); (case es_InvalidDrill_InvalidMany => first | k_is | rfl); (case es_InvalidText_InvalidMany => first | k_is | rfl); (case ei_InvalidSheep => k_is); (case es_InvalidDrill_InvalidSheep => first | k_is | rfl); (case es_InvalidText_InvalidSheep => first | k_is | rfl); (case ei_InvalidPlace => k_is)
    (case es_InvalidDrill_InvalidPlace => first | k_is | rfl); (case es_InvalidText_InvalidPlace => first | k_is | rfl); (case ei_InvalidRun => k_is); (case es_InvalidDrill_InvalidRun => first | k_is | rfl); (case es_InvalidText_InvalidRun => first | k_is | rfl); (case ei_InvalidIndex => k_is); (case es_InvalidDrill_InvalidIndex => first | k_is | rfl); (case es_InvalidText_InvalidIndex => first | k_is | rfl)
    (case ei_Unlike => k_is); (case es_InvalidDrill_Unlike => first | k_is | rfl); (case es_InvalidText_Unlike => first | k_is | rfl); (case ei_NothingToUndo => k_is); (case es_InvalidDrill_NothingToUndo => first | k_is | rfl); (case es_InvalidText_NothingToUndo => first | k_is | rfl); (case ei_DogError => k_is); (case es_InvalidDrill_DogError => first | k_is | rfl)
    (case es_InvalidText_DogError => first | k_is | rfl); (case ei_TooMany => k_is); (case es_InvalidDrill_TooMany => first | k_is | rfl); (case es_InvalidText_TooMany => first | k_is | rfl); (case ei_InvalidText => k_is); (case es_InvalidDrill_InvalidText => first | k_is | rfl); (case es_InvalidText_InvalidText => first | k_is | rfl); (case v_FAR => k_is)
    (case v_MOST_RUNS => k_is); (case v_WIDEST => k_is); (case v_DEEPEST => k_is); (case z_abs => k_is); (case z_bool => k_is); (case z_int => k_is); (case z_isinstance => k_is); (case z_len => k_is)
    (case z_min => k_is); (case z_range => k_is); (case z_str => k_is); (case z_tuple => k_is); (case z_zip => k_is)
  case X =>
    intro w H s e s' h
    exact DL.cx_none h
