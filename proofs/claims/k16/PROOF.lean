import PyProof.Rows.All
import Wide.All
import OpenK.AllK
import Wide.FinOn
import HandS.ForMost
import HandS.ForExc
import HandS.TryMany
import HandS.Walk
import HandS.TupAny
import HandS.TupMul
import HandS.Wide
import HandS.IsInst
import HandS.Zip
import HandS.Flow
import HandS.Lambda
import HandS.EndTab
import HandS.ExcValue
import HandS.ExcInit
import KE.DataEq
import PyProof.ListMulRoad
import PyProof.FactsAll.tuple_2
import PyProof.EnumMake
import HandS.Style
import HandS.SortKw
import HandS.Dict
import HandS.CallLocal
import HandS.ExcField
import HandS.ClsMeth
import HandS.ExcIs
import KE.KExcIs
import HandS.Text
import HandS.StrMore
import HandS.RaiseMore
import HandS.Iter
import HandS.Deep
import HandS.SetFor
import HandS.Strs
import PyProof.StrOps2
import HandS.Star
import HandS.Property
import KE.KOpsOwn
import KE.KCallOwn
import HandS.SlotsOwn
import HandS.Small
import PyProof.Conv_bool
import HandS.RaiseOp
import HandS.Finally
import HandS.HotCalls
import HandS.ExcBuiltin
import HandS.GenList
import HandS.SortInts
import KE.KIndexOf
import PySem.Challenge.RW_dogruns_k16_errors_in_their_order
set_option Elab.async false
set_option linter.all false
set_option maxRecDepth 100000
set_option maxHeartbeats 4000000
/-! try with several clauses, some of which name the error. -/
namespace DL
open PySem PySem.Spec PyProof.Rows L2
/-- a clause: its class, the slot of its name, its suite -/
structure Cl where
  c : Value
  i : Option Nat
  ts : Addr → Value → Option Addr → TS
def outEnds (i : Nat) (D : Ends) : Ends where
  nx := fun σ H => D.nx (σ.set i none) H
  rt := D.rt
  bk := fun σ H => D.bk (σ.set i none) H
  ct := fun σ H => D.ct (σ.set i none) H
def Cl.run (k : Cl) (D : Ends) (cls : Value) (d : Option Addr) (σ : L2.St) (H : Hp) : Prop := ∀ a, H a = none → match k.i with
  | none => k.ts a cls d D σ H
  | some i => k.ts a cls d (outEnds i D) (σ.set i (some (.ref a))) H
def wMix (K : PySem.W.Frag) (Wout : WX) (D : Ends) : List Cl → WX
  | [] => Wout
  | k :: r => fun cls d σ H => ∃ b, PySem.W.exmOne K cls k.c = some b ∧ (b = true → k.run D cls d σ H) ∧ (b = false → wMix K Wout D r cls d σ H)
inductive ClOk (X : Cx) : ExceptHandler → Cl → Prop
  | only {x : Str} {c : Value} {ts : Addr → Value → Option Addr → TS} {b : Stmt} {su : List Stmt} {np p : Pos} (nm : Names X x c)
      (run : ∀ (a : Addr) (o : Obj) (cls : Value) (d : Option Addr) (pn : List (Addr × Obj)), Zc cls d o → (∃ vs, o.data = .fields vs) → PSs (X.suite a ((a, o) :: pn)) (b :: su) (ts a cls d)) :
      ClOk X (.ExceptHandler (some (.Name x np)) none (b :: su) p) ⟨c, none, ts⟩
  | named {x n : Str} {i : Nat} {c : Value} {ts : Addr → Value → Option Addr → TS} {b : Stmt} {su : List Stmt} {np p : Pos} (nm : Names X x c) (nd : X.N.Nodup) (hi : X.N[i]? = some n) (hl : X.env.kindOf n = some .local)
      (run : ∀ (a : Addr) (o : Obj) (cls : Value) (d : Option Addr) (pn : List (Addr × Obj)), Zc cls d o → (∃ vs, o.data = .fields vs) → PSs (X.suite a ((a, o) :: pn)) (b :: su) (ts a cls d)) :
      ClOk X (.ExceptHandler (some (.Name x np)) (some n) (b :: su) p) ⟨c, some i, ts⟩
inductive ClsOk (X : Cx) : List ExceptHandler → List Cl → Prop
  | nil : ClsOk X [] []
  | cons {h : ExceptHandler} {k : Cl} {hs : List ExceptHandler} {ks : List Cl} : ClOk X h k → ClsOk X hs ks → ClsOk X (h :: hs) (k :: ks)

theorem ps_tryC {X : Cx} {body : List Stmt} {h0 : ExceptHandler} {hds : List ExceptHandler} {ks : List Cl} {pos : Pos} {tb : WX → TS} {Wout : WX} (hs : X.stack = X.env :: X.outer) (hf : X.env.frame = some X.env.locals) (tk : Takes X Wout)
    (hb : ∀ (W : WX) (pn : List (Addr × Obj)) (xe : Value → Shared → Prop), Takes (X.tr pn xe) W → PassesOwn (model X.prog X.w) X.A X.env xe → PSs (X.tr pn xe) body (tb W))
    (hk : ClsOk X (h0 :: hds) ks) : PS X (.Try body (h0 :: hds) [] [] pos) (fun D σ H => tb (wMix X.K Wout D ks) D σ H) := by
  constructor
  intro pins s0 σ0 H0 D I0 rd
  have okX := I0.ok
  have fr0 : X.A.frames = some (X.env :: X.outer) := by rw [okX.frames, hs]
  apply wpAny_Try_except
  refine wpAny_mono ((hb (wMix X.K Wout D ks) (X.pn ++ pins) (fun e t1 => wpAny (model X.prog X.w) X.A (noteFrame e X.env) (fun _ t2 => wpAny (model X.prog X.w) X.A (setFlight e none) (fun _ t3 => wpAny (model X.prog X.w) X.A (handleBy e X.env (h0 :: hds)) (SP X pins D) X.xe t3) X.xe t2) X.xe t1)
    (fun u t0 caught => ?_) PassesOwn.looking).run [] s0 σ0 H0 D (I0.toTry _) rd) (fun fl t1 done => ?_) (fun e t1 z => z)
  · obtain ⟨a, B, sB, pB, σ1, H1, cls, od, rfl, IB, fresh, up0, sky0, freeA, osB, genB, wish⟩ := caught
    have J : Inv X pins σ1 H1 sB := IB.ofTry okX
    have sky1 : Sky B (X.env :: X.outer) a (Zc cls od) X.env.locals t0.heap := by
      rw [← hs]
      exact sky0
    refine Sky.land Zc.steady fr0 hf sky1 fun g1 fg1 upg1 => ?_
    have J1 : Inv X pins σ1 H1 { t0 with heap := g1 } := J.landed fresh fg1.1 (up0.trans upg1) osB genB
    obtain ⟨o1, w1, ha1, z1, d1⟩ := fg1.there
    have notF : a ∉ frs (X.env :: X.outer) := by
      intro hm
      obtain ⟨_, o2, e2, n2⟩ := fg1.2.2.1.mem hm
      have e3 := Option.some.inj (ha1.symm.trans e2)
      subst e3
      exact n2 _ d1
    have nL : a ≠ X.env.locals := by
      intro z
      apply notF
      exact List.mem_filterMap.mpr ⟨X.env, List.mem_cons_self, by rw [hf, z]⟩
    have nS : a ∉ X.fs := by
      intro hm
      obtain ⟨e, he, q⟩ := List.mem_filterMap.mp hm
      apply notF
      exact List.mem_filterMap.mpr ⟨e, List.mem_cons_of_mem _ he, q⟩
    have S1 := J1.suite ha1 d1 freeA nL nS
    have tyA : PySem.W.Looks (model X.prog X.w) g1 (typeOf (.ref a)) cls := by
      intro A Q E s k q
      exact wpAny_typeOf_ref (k _ _ ha1) (by rw [z1.1]; exact q)
    -- the class that a clause names
    have nameIs : ∀ {x : Str} {c : Value} {np : Pos} {Q E : Value → Shared → Prop}, Names X x c → Q c { t0 with heap := g1 } → wpAny (model X.prog X.w) (X.A.mark (some (.ref a))) (eval (.Name x np) X.env) Q E { t0 with heap := g1 } := by
      intro x c np Q E nm q
      rcases nm with ⟨gl, db, m1 | ⟨m0, bt, ne⟩⟩
      · exact ld_glob (X := X.suite a ((a, o1) :: (X.pn ++ pins))) S1 gl m1 q db
      · exact ld_blt (X := X.suite a ((a, o1) :: (X.pn ++ pins))) S1 gl m0 bt q ne db
    have all : ∀ (ks : List Cl) (hds : List ExceptHandler), ClsOk X hds ks → wMix X.K Wout D ks cls od σ1 H1 → wpAny (model X.prog X.w) X.A (handleBy (.ref a) X.env hds) (SP X pins D) X.xe { t0 with heap := g1 } := by
      intro ks
      induction ks with
      | nil =>
        intro hds hh w
        cases hh
        apply wpAny_handleBy_nil
        obtain ⟨_, _, _, o3, w3, T3, oT3, tt3, he3, hz3, hd3, h13, hr3⟩ := id fg1
        have up : wpAny (model X.prog X.w) X.A (setFlight (.ref a) X.env.frame) (fun _ s4 => wpAny (model X.prog X.w) X.A (throw (.ref a) : Sem Flow) (SP X pins D) X.xe s4) X.xe { t0 with heap := g1 } := by
          rw [hf]
          refine HandSPX.setFlight_upZ fg1 fun g2 hg2 upg2 => wpAny_throw (tk _ _ ⟨a, B, sB, pins, σ1, H1, cls, od, rfl, J, fresh, (up0.trans upg1).trans upg2, .inr (.inr ?_), freeA, osB, genB, w⟩)
          rw [hs]
          exact hg2
        unfold PySem.passOn
        refine wpAny_bind (wpAny_field he3 hd3 h13 ?_)
        rw [if_neg (by simp : ¬ ((Value.ref T3 == Value.none) = true))]
        first
          | exact wpAny_bind (wpAny_pure (wpAny_bind up))
          | exact wpAny_bind up
      | cons k ks ih =>
        intro hds hh w
        obtain ⟨b, isA, yes, no⟩ := w
        have LM := PySem.W.exm_one (M := model X.prog X.w) J1.kIn tyA isA
        cases hh with
        | cons hc hr =>
        cases hc with
        | only nm run =>
          refine wpAny_handleBy_cons (codeAny_handlers_test (nameIs nm (LM.here ?_))) (by intro q; cases q)
          cases b with
          | false => exact ih _ hr (no rfl)
          | true =>
            refine codeAny_handlers_suite (HandSPX.lands_againZ fg1 fun g2 fg2 upg2 => ?_)
            obtain ⟨o2, w2, ha2, z2, d2⟩ := fg2.there
            have J2 : Inv X pins σ1 H1 { t0 with heap := g2 } := J.landed fresh fg2.1 ((up0.trans upg1).trans upg2) osB genB
            have S2 := J2.suite ha2 d2 freeA nL nS
            refine wpAny_mono ((run a o2 cls od (X.pn ++ pins) z2 ⟨_, d2⟩).run [] _ _ H1 D S2 (yes rfl a freeA)) (fun f t6 post => ?_) (fun _ _ z => z.elim)
            cases f with
            | ret u =>
              obtain ⟨v6, σ6, H6, S6, r6, q6⟩ := post
              exact ⟨v6, σ6, H6, S6.unsuite okX, r6, q6⟩
            | _ =>
              obtain ⟨σ6, H6, S6, q6⟩ := post
              exact ⟨σ6, H6, S6.unsuite okX, q6⟩
        | named nm nd hi hl run =>
          refine wpAny_handleBy_cons (codeAny_handlers_test (nameIs nm (LM.here ?_))) (by intro q; cases q)
          cases b with
          | false => exact ih _ hr (no rfl)
          | true =>
            refine codeAny_handlers_suite_as (HandSPX.lands_againZ fg1 fun g2 fg2 upg2 => ?_)
            obtain ⟨o2, w2, ha2, z2, d2⟩ := fg2.there
            have J2 : Inv X pins σ1 H1 { t0 with heap := g2 } := J.landed fresh fg2.1 ((up0.trans upg1).trans upg2) osB genB
            have S2 := J2.suite ha2 d2 freeA nL nS
            refine store_ok (X := X.suite a ((a, o2) :: (X.pn ++ pins))) (v := .ref a) S2 nd hi (.inl hl) rfl (fun t5 S5 => ?_) (.inr hl)
            refine wpAny_mono ((run a o2 cls od (X.pn ++ pins) z2 ⟨_, d2⟩).run [] t5 _ H1 _ S5 (yes rfl a freeA)) (fun f t6 post => ?_) (fun _ _ z => z.elim)
            cases f with
            | ret u =>
              obtain ⟨v6, σ6, H6, S6, r6, q6⟩ := post
              exact gone_ok (S6.unsuite okX) nd hi hl fun t7 J7 => ⟨v6, _, H6, J7, r6, q6⟩
            | _ =>
              obtain ⟨σ6, H6, S6, q6⟩ := post
              exact gone_ok (S6.unsuite okX) nd hi hl fun t7 J7 => ⟨_, H6, J7, q6⟩
    exact all ks _ hk wish
  · cases fl with
    | next =>
      obtain ⟨σ1, H1, J1, q⟩ := done
      exact wpAny_execs_nil ⟨σ1, H1, J1.ofTry okX, q⟩
    | ret u =>
      obtain ⟨v, σ1, H1, J1, r, q⟩ := done
      exact ⟨v, σ1, H1, J1.ofTry okX, r, q⟩
    | _ =>
      obtain ⟨σ1, H1, J1, q⟩ := done
      exact ⟨σ1, H1, J1.ofTry okX, q⟩
end DL
set_option Elab.async false
set_option linter.all false
set_option maxRecDepth 100000
set_option maxHeartbeats 4000000
set_option autoImplicit false
/-! The data level: the body of a def read over data (trees), without a heap to be seen. -/
namespace DL
open PySem PySem.Spec PyProof.Rows L2

/-- data; raw: a value that is not looked into; scr: the script's ints -/
inductive D where
  | non | bl (b : Bool) | int (i : Int) | str (x : Str) | raw (x : V)
  | tup (xs : List D) | lst (xs : List D) | scr (ns : List Int)
  | fn (x : Str)
  /-- an error of an own class, with its one field or none -/
  | err (n : Str) (f : Option (Str × Int))
  /-- a lambda, where it was made: it stands at f, G0 is what was known then -/
  | cl (f : Addr) (G0 : Hp)

/-- of what was known once, all but dicts stand yet -/
def ExtS (G0 G : Hp) : Prop := ∀ (b : Addr) (o : HO), (∀ kvs, o ≠ .dK kvs) → G0 b = some o → G b = some o
mutual
inductive Dp (K : PySem.W.Frag) (G : Hp) : V → D → Prop
  | non : Dp K G .non .non
  | bl (b : Bool) : Dp K G (.bl b) (.bl b)
  | int (i : Int) : Dp K G (.int i) (.int i)
  | str (x : Str) : Dp K G (.str x) (.str x)
  | raw (x : V) : Dp K G x (.raw x)
  | tup {p : Addr} {vs : List V} {ds : List D} : SqT K G p vs → vs.length ≤ sizeLine → Dps K G vs ds → Dp K G (.ref p) (.tup ds)
  | lst {p : Addr} {vs : List V} {ds : List D} : G p = some (.lst vs) → vs.length ≤ sizeLine → Dps K G vs ds → Dp K G (.ref p) (.lst ds)
  | scr {p : Addr} {ns : List Int} : SqL K G p (ns.map V.int) → Dp K G (.ref p) (.scr ns)
  | fn {a : Addr} {x : Str} : PySem.W.nsIn K mainGlobals x = some (some (.ref a)) → Dp K G (.ref a) (.fn x)
  | err {p C : Addr} {n : Str} : PySem.W.nsIn K mainGlobals n = some (some (.ref C)) → G p = some (ExO (.ref C) p) → Dp K G (.ref p) (.err n none)
  | erf {p C dx : Addr} {n f : Str} {i : Int} : PySem.W.nsIn K mainGlobals n = some (some (.ref C)) → G p = some (exo p C (some dx)) → G dx = some (exd dx [(f, .int i)]) → Dp K G (.ref p) (.err n (some (f, i)))
  | cl {f : Addr} {G0 : Hp} : ExtS G0 G → Dp K G (.ref f) (.cl f G0)
inductive Dps (K : PySem.W.Frag) (G : Hp) : List V → List D → Prop
  | nil : Dps K G [] []
  | cons {v : V} {vs : List V} {d : D} {ds : List D} : Dp K G v d → Dps K G vs ds → Dps K G (v :: vs) (d :: ds)
end

theorem same_t {K : PySem.W.Frag} {G G' : Hp} {p : Addr} {vs : List V} (e : Same G G') (h : SqT K G p vs) : SqT K G' p vs := by
  rcases h with (h | ⟨o, h⟩) | h
  · exact .inl (.inl (e _ _ h))
  · exact .inl (.inr ⟨o, e _ _ h⟩)
  · exact .inr h
section
variable {K : PySem.W.Frag} {G G' H H' : Hp}
mutual
theorem Dp.mono (e : Same G G') : ∀ (d : D) (v : V), Dp K G v d → Dp K G' v d
  | .non, _, h => by cases h; exact .non
  | .bl _, _, h => by cases h; exact .bl _
  | .int _, _, h => by cases h; exact .int _
  | .str _, _, h => by cases h; exact .str _
  | .raw _, _, h => by cases h; exact .raw _
  | .tup ds, _, h => by
    cases h with
    | tup a l r => exact .tup (same_t e a) l (Dps.mono e ds _ r)
  | .lst ds, _, h => by
    cases h with
    | lst a l r => exact .lst (e _ _ a) l (Dps.mono e ds _ r)
  | .scr _, _, h => by
    cases h with
    | scr a => exact .scr (e.seq a)
  | .fn _, _, h => by
    cases h with
    | fn a => exact .fn a
  | .err _ _, _, h => by
    cases h with
    | err a b => exact .err a (e _ _ b)
    | erf a b c => exact .erf a (e _ _ b) (e _ _ c)
  | .cl _ _, _, h => by
    cases h with
    | cl a => exact .cl fun b o n q => e _ _ (a b o n q)
theorem Dps.mono (e : Same G G') : ∀ (ds : List D) (vs : List V), Dps K G vs ds → Dps K G' vs ds
  | [], _, h => by cases h; exact .nil
  | d :: ds, _, h => by
    cases h with
    | cons a r => exact .cons (Dp.mono e d _ a) (Dps.mono e ds _ r)
end
theorem Dp.up {d : D} {v : V} (h : Dp K G v d) (e : Same G G') : Dp K G' v d := Dp.mono e d v h
theorem Dps.up {ds : List D} {vs : List V} (h : Dps K G vs ds) (e : Same G G') : Dps K G' vs ds := Dps.mono e ds vs h
theorem Dps.len : ∀ {vs : List V} {ds : List D}, Dps K G vs ds → vs.length = ds.length
  | _, _, .nil => rfl
  | _, _, .cons _ r => congrArg (· + 1) (Dps.len r)
theorem Dps.get : ∀ {vs : List V} {ds : List D} {i : Nat} {d : D}, Dps K G vs ds → ds[i]? = some d → ∃ v, vs[i]? = some v ∧ Dp K G v d
  | _, _, _, _, .nil, h => by simp at h
  | _, _, 0, _, .cons a _, h => by
    have e := Option.some.inj h
    subst e
    exact ⟨_, rfl, a⟩
  | _, _, i + 1, _, .cons _ r, h => Dps.get (i := i) r h
theorem Dps.getV : ∀ {vs : List V} {ds : List D} {i : Nat} {v : V}, Dps K G vs ds → vs[i]? = some v → ∃ d, ds[i]? = some d ∧ Dp K G v d
  | _, _, _, _, .nil, h => by simp at h
  | _, _, 0, _, .cons a _, h => by
    have e := Option.some.inj h
    subst e
    exact ⟨_, rfl, a⟩
  | _, _, i + 1, _, .cons _ r, h => Dps.getV (i := i) r h
theorem Dps.app : ∀ {vs ws : List V} {ds es : List D}, Dps K G vs ds → Dps K G ws es → Dps K G (vs ++ ws) (ds ++ es)
  | _, _, _, _, .nil, s => s
  | _, _, _, _, .cons a r, s => .cons a (Dps.app r s)
theorem Dps.take : ∀ {vs : List V} {ds : List D} (n : Nat), Dps K G vs ds → Dps K G (vs.take n) (ds.take n)
  | _, _, 0, _ => .nil
  | _, _, _ + 1, .nil => .nil
  | _, _, n + 1, .cons a r => .cons a (Dps.take n r)
theorem Dps.drop : ∀ {vs : List V} {ds : List D} (n : Nat), Dps K G vs ds → Dps K G (vs.drop n) (ds.drop n)
  | _, _, 0, r => r
  | _, _, _ + 1, .nil => .nil
  | _, _, n + 1, .cons _ r => Dps.drop n r
theorem Dps.set {v : V} {d : D} (a : Dp K G v d) : ∀ {vs : List V} {ds : List D} (i : Nat), Dps K G vs ds → Dps K G (vs.set i v) (ds.set i d)
  | _, _, _, .nil => .nil
  | _, _, 0, .cons _ r => .cons a r
  | _, _, i + 1, .cons b r => .cons b (Dps.set a i r)
theorem Dps.rep {vs : List V} {ds : List D} (h : Dps K G vs ds) : ∀ k : Nat, Dps K G (List.replicate k vs).flatten (List.replicate k ds).flatten
  | 0 => .nil
  | k + 1 => by
    rw [List.replicate_succ, List.replicate_succ, List.flatten_cons, List.flatten_cons]
    exact h.app (h.rep k)
theorem Dps.ints : ∀ (ns : List Int), Dps K G (ns.map V.int) (ns.map D.int)
  | [] => .nil
  | n :: ns => .cons (.int n) (Dps.ints ns)
end

/-! ### the table of mutable objects, the environment -/
inductive Ob where
  | dead | lst (xs : List D)
  /-- a dict with texts for keys -/
  | dic (ks : List Str) (ds : List D)
  /-- an instance of a class of one's own, its attributes -/
  | ins (C : Str) (fs : List (Str × D))
inductive Sl where
  | dat (d : D) | ob (k : Nat)
  /-- a lambda, called while its maker runs: G0, la0 are what was known when it was made -/
  | clo (f : Addr) (G0 : Hp) (la0 : List Addr)
structure Env where
  T : List Ob
  s : List (Option Sl)

def dkv (ks : List Str) (vs : List V) : List (Key × V) := (ks.zip vs).map fun p => (.inr p.1, p.2)
def ObR (K : PySem.W.Frag) (G H : Hp) (a : Addr) : Ob → Prop
  | .dead => True
  | .lst ds => G a = none ∧ ∃ vs, H a = some (.lst vs) ∧ vs.length ≤ sizeLine ∧ Dps K G vs ds
  | .dic ks ds => G a = none ∧ ∃ vs, H a = some (.dK (dkv ks vs)) ∧ ks.length = vs.length ∧ vs.length ≤ 1000 ∧ Dps K G vs ds
  | .ins C fs => G a = none ∧ ∃ Ca dx vs, PySem.W.nsIn K mainGlobals C = some (some (.ref Ca)) ∧ H a = some (.ins Ca dx vs) ∧ H dx = some (.own a) ∧ vs.map (·.1) = fs.map (·.1) ∧ Dps K G (vs.map (·.2)) (fs.map (·.2))
def SlR (K : PySem.W.Frag) (G : Hp) (la : List Addr) (v : V) : Sl → Prop
  | .dat d => Dp K G v d
  | .ob k => ∃ a, la[k]? = some a ∧ v = .ref a
  | .clo f G0 la0 => v = .ref f ∧ Same G0 G ∧ la0 <+: la
/-- the defs that make lambdas, the tables of their code objects -/
def lamDefs : List Str := ["law", "_law_lots", "_law_tried", "_law_signs_right", "_law_refused", "_law_called", "_law_shows", "_law_nested", "_law_ended", "_law_back", "_law_full_right", "_law_first_calls", "_law_pair_calls", "_law_place_calls", "_law_many_calls"]
def tabsOf (K : PySem.W.Frag) : List (Addr × Str) := lamDefs.filterMap fun x => (PySem.W.tabIn K x).map fun cp => (cp.2, x ++ ".<locals>." ++ "<lambda>")
def NT (o : HO) : Prop := (∀ ps, o ≠ .tbl ps) ∧ ∀ φ, o ≠ .ext φ
/-- something stands at a: no table, and nothing that is known by what is true of it -/
def Thr (H : Hp) (a : Addr) : Prop := ∃ o, H a = some o ∧ NT o
def NoTbl (G : Hp) : Prop := ∀ (b : Addr) (ps : Array Value), G b ≠ some (.tbl ps)
theorem NoTbl.upd {G : Hp} (h : NoTbl G) {p : Addr} {o : HO} (ho : ∀ ps, o ≠ .tbl ps) : NoTbl (upd G p o) := fun b ps e => by
  by_cases hb : b = p
  · subst hb
    rw [upd_same] at e
    exact ho ps (Option.some.inj e)
  · rw [upd_ne hb] at e
    exact h b ps e
structure Rl (K : PySem.W.Frag) (G H : Hp) (la : List Addr) (T : List Ob) : Prop where
  ext : Same G H
  nd : la.Nodup
  len : la.length = T.length
  tab : ∀ (k : Nat) (a : Addr) (o : Ob), la[k]? = some a → T[k]? = some o → ObR K G H a o
  there : ∀ (k : Nat) (a : Addr), la[k]? = some a → Thr H a
  nt : NoTbl G
  tbl : ∀ p ∈ tabsOf K, G p.1 = none ∧ LamX.TabS H p.1 p.2
structure Re (K : PySem.W.Frag) (G H : Hp) (la : List Addr) (σ : L2.St) (ρ : Env) : Prop where
  tb : Rl K G H la ρ.T
  sl : ρ.s.length = σ.length
  at_ : ∀ (i : Nat) (x : Sl), ρ.s[i]? = some (some x) → ∃ v, σ[i]? = some (some v) ∧ SlR K G la v x

/-- the heap, and the known part of it, grow -/
structure Grow (G H G' H' : Hp) : Prop where
  g : Same G G'
  h : Same H H'
  i : Same G' H'
  n : ∀ a, G a = none → H a ≠ none → G' a = none
  t : NoTbl G → NoTbl G'
section
variable {K : PySem.W.Frag} {G H G' H' : Hp} {la la' : List Addr} {σ : L2.St} {ρ : Env} {T : List Ob}
theorem Grow.refl (e : Same G H) : Grow G H G H := ⟨Same.refl _, Same.refl _, e, fun _ h _ => h, fun h => h⟩
theorem same_new {H : Hp} {p : Addr} {o : HO} (h : H p = none) : Same H (upd H p o) := fun b x e => by
  rw [upd_ne (ne_of_none e h)]
  exact e
theorem same_upd2 {p : Addr} {o : HO} (e : Same G H) : Same (upd G p o) (upd H p o) := fun b x q => by
  by_cases hb : b = p
  · subst hb
    rw [upd_same] at q ⊢
    exact q
  · rw [upd_ne hb] at q ⊢
    exact e b x q
theorem none_of (e : Same G H) {p : Addr} (h : H p = none) : G p = none := e.free h
/-- a new object, known -/
theorem Grow.new {p : Addr} {o : HO} (e : Same G H) (h : H p = none) (ho : ∀ ps, o ≠ .tbl ps := by intro ps z; cases z) : Grow G H (upd G p o) (upd H p o) :=
  ⟨same_new (none_of e h), same_new h, same_upd2 e, fun a ga ha => by
    rw [upd_ne (fun z => ha (by rw [z]; exact h))]
    exact ga, fun n => n.upd ho⟩
theorem Grow.trans {G2 H2 : Hp} (x : Grow G H G' H') (y : Grow G' H' G2 H2) : Grow G H G2 H2 :=
  ⟨x.g.trans y.g, x.h.trans y.h, y.i, fun a ga ha => y.n a (x.n a ga ha) (fun z => by
    cases q : H a with
    | none => exact ha q
    | some o =>
      rw [x.h a o q] at z
      cases z), fun n => y.t (x.t n)⟩
theorem tabS_some {H : Hp} {P : Addr} {q : Str} (h : LamX.TabS H P q) : H P ≠ none := by
  obtain ⟨ps, e, _⟩ := h
  rw [e]
  simp
theorem tabS_write {H : Hp} {P a : Addr} {q : Str} {vs ws : List V} (h : LamX.TabS H P q) (ha : H a = some (.lst vs)) : LamX.TabS (upd H a (.lst ws)) P q := by
  obtain ⟨ps, e, t, f⟩ := h
  have n1 : P ≠ a := fun z => by
    rw [z, ha] at e
    cases e
  refine ⟨ps, by rw [upd_ne n1]; exact e, t, fun pos cv hc => ?_⟩
  obtain ⟨c, e1, e2⟩ := f pos cv hc
  have n2 : c ≠ a := fun z => by
    rw [z, ha] at e2
    have := Option.some.inj e2
    unfold LamX.CodeO at this
    cases this
  exact ⟨c, e1, by rw [upd_ne n2]; exact e2⟩
theorem ObR.grow (w : Grow G H G' H') {a : Addr} : ∀ {o : Ob}, ObR K G H a o → ObR K G' H' a o
  | .dead, _ => True.intro
  | .lst ds, ⟨g, vs, h, l, r⟩ => ⟨w.n a g (by rw [h]; simp), vs, w.h _ _ h, l, r.up w.g⟩
  | .dic ks ds, ⟨g, vs, h, e, l, r⟩ => ⟨w.n a g (by rw [h]; simp), vs, w.h _ _ h, e, l, r.up w.g⟩
  | .ins C fs, ⟨g, Ca, dx, vs, n, h, o, e, r⟩ => ⟨w.n a g (by rw [h]; simp), Ca, dx, vs, n, w.h _ _ h, w.h _ _ o, e, r.up w.g⟩
theorem SlR.grow (w : Same G G') (pf : la <+: la') {v : V} : ∀ {x : Sl}, SlR K G la v x → SlR K G' la' v x
  | .dat d, h => Dp.up (show Dp K G v d from h) w
  | .ob k, ⟨a, h, e⟩ => ⟨a, by
      obtain ⟨t, rfl⟩ := pf
      rw [List.getElem?_append_left (List.getElem?_eq_some_iff.mp h).1]
      exact h, e⟩
  | .clo f G0 la0, ⟨e, g, p⟩ => ⟨e, g.trans w, p.trans pf⟩
theorem there_grow (w : Same H H') {a : Addr} (h : Thr H a) : Thr H' a := by
  obtain ⟨o, h, n⟩ := h
  exact ⟨o, w a o h, n⟩
theorem Rl.grow (w : Grow G H G' H') (r : Rl K G H la T) : Rl K G' H' la T :=
  ⟨w.i, r.nd, r.len, fun k a o h1 h2 => (r.tab k a o h1 h2).grow w, fun k a h => there_grow w.h (r.there k a h), w.t r.nt, fun p hp => ⟨w.n p.1 (r.tbl p hp).1 (tabS_some (r.tbl p hp).2), (r.tbl p hp).2.ext w.h⟩⟩
theorem Re.grow (w : Grow G H G' H') (r : Re K G H la σ ρ) : Re K G' H' la σ ρ :=
  ⟨r.tb.grow w, r.sl, fun i x h => by
    obtain ⟨v, a, b⟩ := r.at_ i x h
    exact ⟨v, a, b.grow w.g (List.prefix_rfl)⟩⟩
theorem Re.ext (r : Re K G H la σ ρ) : Same G H := r.tb.ext
/-- a slot is set -/
theorem Re.set (r : Re K G H la σ ρ) {i : Nat} {v : V} {x : Sl} (h : SlR K G la v x) : Re K G H la (σ.set i (some v)) ⟨ρ.T, ρ.s.set i (some x)⟩ :=
  ⟨r.tb, by simp [r.sl], fun j y hy => by
    by_cases hj : j = i
    · subst hj
      by_cases hl : j < ρ.s.length
      · have hl2 : j < σ.length := by rw [← r.sl]; exact hl
        rw [show (⟨ρ.T, ρ.s.set j (some x)⟩ : Env).s = ρ.s.set j (some x) from rfl, List.getElem?_set_self hl] at hy
        have e := Option.some.inj (Option.some.inj hy)
        subst e
        exact ⟨v, List.getElem?_set_self hl2, h⟩
      · have hy' : (ρ.s.set j (some x))[j]? = some (some y) := hy
        rw [List.getElem?_eq_none (by simpa using hl)] at hy'
        cases hy'
    · have hy' : (ρ.s.set i (some x))[j]? = some (some y) := hy
      rw [List.getElem?_set_ne (Ne.symm hj)] at hy'
      obtain ⟨u, a, b⟩ := r.at_ j y hy'
      exact ⟨u, by rw [List.getElem?_set_ne (Ne.symm hj)]; exact a, b⟩⟩
/-- the list at k becomes known for ever -/
theorem Rl.freeze (r : Rl K G H la T) {k : Nat} {a : Addr} {xs : List D} (ha : la[k]? = some a) (hk : T[k]? = some (.lst xs)) :
    ∃ vs, H a = some (.lst vs) ∧ G a = none ∧ Same G (upd G a (.lst vs)) ∧ Dp K (upd G a (.lst vs)) (.ref a) (.lst xs) ∧ Rl K (upd G a (.lst vs)) H la (T.set k .dead) := by
  obtain ⟨g, vs, h, l, d⟩ := r.tab k a _ ha hk
  have s1 : Same G (upd G a (.lst vs)) := same_new g
  refine ⟨vs, h, g, s1, .lst upd_same l (d.up s1), ⟨fun b o e => ?_, r.nd, by simp [r.len], fun j b o hb ho => ?_, r.there, r.nt.upd (by intro ps z; cases z), fun p hp => ?_⟩⟩
  · by_cases hb : b = a
    · subst hb
      rw [upd_same] at e
      rw [← e]
      exact h
    · rw [upd_ne hb] at e
      exact r.ext b o e
  · by_cases hj : j = k
    · subst hj
      have hl : j < T.length := (List.getElem?_eq_some_iff.mp hk).1
      rw [List.getElem?_set_self hl] at ho
      have e := Option.some.inj ho
      subst e
      exact True.intro
    · rw [List.getElem?_set_ne (Ne.symm hj)] at ho
      have nb : b ≠ a := fun e => by
        subst e
        obtain ⟨h1, e1⟩ := List.getElem?_eq_some_iff.mp hb
        obtain ⟨h2, e2⟩ := List.getElem?_eq_some_iff.mp ha
        exact hj ((List.getElem_inj r.nd).mp (e1.trans e2.symm))
      have z := r.tab j b o hb ho
      cases o with
      | dead => exact True.intro
      | lst ds =>
        obtain ⟨g2, vs2, h2, l2, d2⟩ := z
        exact ⟨by rw [upd_ne nb]; exact g2, vs2, h2, l2, d2.up s1⟩
      | dic ks ds =>
        obtain ⟨g2, vs2, h2, e2, l2, d2⟩ := z
        exact ⟨by rw [upd_ne nb]; exact g2, vs2, h2, e2, l2, d2.up s1⟩
      | ins C fs =>
        obtain ⟨g2, Ca, dx, vs2, n2, h2, o2, e2, d2⟩ := z
        exact ⟨by rw [upd_ne nb]; exact g2, Ca, dx, vs2, n2, h2, o2, e2, d2.up s1⟩
  · obtain ⟨z1, z2⟩ := r.tbl p hp
    refine ⟨?_, z2⟩
    rw [upd_ne fun e => ?_]
    · exact z1
    · obtain ⟨ps, z3, _⟩ := z2
      rw [e, h] at z3
      cases z3
/-- the list at k is written -/
theorem Rl.write (r : Rl K G H la T) {k : Nat} {a : Addr} {xs ys : List D} {ws : List V} (ha : la[k]? = some a) (hk : T[k]? = some (.lst xs)) (l : ws.length ≤ sizeLine) (d : Dps K G ws ys) :
    Rl K G (upd H a (.lst ws)) la (T.set k (.lst ys)) := by
  obtain ⟨g, vs, h, _, _⟩ := r.tab k a _ ha hk
  refine ⟨fun b o e => ?_, r.nd, by simp [r.len], fun j b o hb ho => ?_, fun j b hb => ?_, r.nt, fun p hp => ⟨(r.tbl p hp).1, tabS_write (r.tbl p hp).2 h⟩⟩
  · have nb : b ≠ a := fun z => by
      rw [z, g] at e
      cases e
    rw [upd_ne nb]
    exact r.ext b o e
  · by_cases hj : j = k
    · subst hj
      have hl : j < T.length := (List.getElem?_eq_some_iff.mp hk).1
      rw [List.getElem?_set_self hl] at ho
      have e := Option.some.inj ho
      subst e
      have e2 := Option.some.inj (hb.symm.trans ha)
      subst e2
      exact ⟨g, ws, upd_same, l, d⟩
    · rw [List.getElem?_set_ne (Ne.symm hj)] at ho
      have nb : b ≠ a := fun e => by
        subst e
        obtain ⟨h1, e1⟩ := List.getElem?_eq_some_iff.mp hb
        obtain ⟨h2, e2⟩ := List.getElem?_eq_some_iff.mp ha
        exact hj ((List.getElem_inj r.nd).mp (e1.trans e2.symm))
      have z := r.tab j b o hb ho
      cases o with
      | dead => exact True.intro
      | lst ds =>
        obtain ⟨g2, vs2, h2, l2, d2⟩ := z
        exact ⟨g2, vs2, by rw [upd_ne nb]; exact h2, l2, d2⟩
      | dic ks ds =>
        obtain ⟨g2, vs2, h2, e2, l2, d2⟩ := z
        exact ⟨g2, vs2, by rw [upd_ne nb]; exact h2, e2, l2, d2⟩
      | ins C fs =>
        obtain ⟨g2, Ca, dx, vs2, n2, h2, o2, e2, d2⟩ := z
        exact ⟨g2, Ca, dx, vs2, n2, by rw [upd_ne nb]; exact h2, by rw [upd_ne (fun z => by rw [z, h] at o2; cases o2)]; exact o2, e2, d2⟩
  · by_cases hb2 : b = a
    · subst hb2
      exact ⟨_, upd_same, (by intro ps z; cases z), (by intro ps z; cases z)⟩
    · obtain ⟨o, h, n⟩ := r.there j b hb
      exact ⟨o, by rw [upd_ne hb2]; exact h, n⟩
/-- a new list, ours alone -/
theorem Rl.fresh (r : Rl K G H la T) {p : Addr} {vs : List V} {xs : List D} (hp : H p = none) (l : vs.length ≤ sizeLine) (d : Dps K G vs xs) :
    Rl K G (upd H p (.lst vs)) (la ++ [p]) (T ++ [.lst xs]) := by
  have hn : p ∉ la := fun hm => by
    obtain ⟨i, hi, e⟩ := List.getElem_of_mem hm
    obtain ⟨o, h, _⟩ := r.there i p (by rw [List.getElem?_eq_getElem hi, e])
    rw [hp] at h
    cases h
  have s1 : Same H (upd H p (.lst vs)) := same_new hp
  refine ⟨r.ext.trans s1, ?_, by simp [r.len], fun j b o hb ho => ?_, fun j b hb => ?_, r.nt, fun q hq => ⟨(r.tbl q hq).1, (r.tbl q hq).2.ext s1⟩⟩
  · rw [List.nodup_append]
    exact ⟨r.nd, by simp, fun x hx y hy => by
      have e : y = p := by simpa using hy
      rw [e]
      intro z
      exact hn (z ▸ hx)⟩
  · by_cases hj : j < la.length
    · rw [List.getElem?_append_left hj] at hb
      rw [List.getElem?_append_left (by rw [← r.len]; exact hj)] at ho
      exact (r.tab j b o hb ho).grow ⟨Same.refl _, s1, r.ext.trans s1, fun _ h _ => h, fun h => h⟩
    · rw [List.getElem?_append_right (by omega)] at hb
      rw [List.getElem?_append_right (by rw [← r.len]; omega), ← r.len] at ho
      cases q : j - la.length with
      | zero =>
        rw [q] at hb ho
        have e1 : p = b := Option.some.inj hb
        have e2 : Ob.lst xs = o := Option.some.inj ho
        subst e1 e2
        exact ⟨none_of r.ext hp, vs, upd_same, l, d⟩
      | succ m =>
        rw [q] at hb
        simp at hb
  · by_cases hj : j < la.length
    · rw [List.getElem?_append_left hj] at hb
      exact there_grow s1 (r.there j b hb)
    · rw [List.getElem?_append_right (by omega)] at hb
      cases q : j - la.length with
      | zero =>
        rw [q] at hb
        have e1 : p = b := Option.some.inj hb
        subst e1
        exact ⟨_, upd_same, (by intro ps z; cases z), (by intro ps z; cases z)⟩
      | succ m =>
        rw [q] at hb
        simp at hb
end
end DL
set_option Elab.async false
set_option linter.all false
set_option maxRecDepth 100000
set_option maxHeartbeats 4000000
set_option autoImplicit false
/-! The data level: readings (expressions, tests, arguments, statements) and what they mean of the heap. -/
namespace DL
open PySem PySem.Spec PyProof.Rows L2

/-- an exception: its class, its own field -/
structure Xn where
  n : Str
  f : Option (Str × D)
/-- the class of errors that is called n: one of the module's, or a built-in one that the module does not name -/
def ClsN (K : PySem.W.Frag) (n : Str) (cls : Value) : Prop := PySem.W.nsIn K mainGlobals n = some (some cls) ∨ (PySem.W.nsIn K mainGlobals n = some none ∧ n = "KeyError" ∧ cls = .type "KeyError")
theorem ClsN.own {K : PySem.W.Frag} {n : Str} {cls c : Value} (z : ClsN K n cls) (h : PySem.W.nsIn K mainGlobals n = some (some c)) : cls = c := by
  rcases z with e | ⟨e, _, _⟩
  · rw [h] at e
    exact (Option.some.inj (Option.some.inj e)).symm
  · rw [h] at e
    cases e
def XR (K : PySem.W.Frag) (G H : Hp) (x : Xn) (cls : Value) (od : Option Addr) : Prop := ClsN K x.n cls ∧ match x.f with
  | none => True
  | some (f, d) => ∃ a v, od = some a ∧ H a = some (.xd [(f, v)]) ∧ Dp K G v d
abbrev XP := Xn → Env → Prop
abbrev DE := XP → Env → (D → Env → Prop) → Prop
abbrev DL' := XP → Env → (Sl → Env → Prop) → Prop
abbrev DT := XP → Env → (Bool → Env → Prop) → Prop
abbrev DA := XP → Env → (List Sl → Env → Prop) → Prop
abbrev DI := XP → Env → (List D → Env → Prop) → Prop
abbrev DG := D → Env → (Env → Prop) → Prop
structure DN where
  nx : Env → Prop
  rt : Sl → Env → Prop
  bk : Env → Prop := fun _ => False
  ct : Env → Prop := fun _ => False
  xn : XP
abbrev DS := DN → Env → Prop

/-- a state behind another one -/
structure Aft (K : PySem.W.Frag) (G : Hp) (la : List Addr) (σ : L2.St) (ρ : Env) (G' : Hp) (la' : List Addr) (H' : Hp) : Prop where
  g : Same G G'
  p : la <+: la'
  r : Re K G' H' la' σ ρ
def XO (K : PySem.W.Frag) (G : Hp) (la : List Addr) (W : WX) (X : XP) : Prop := ∀ (x : Xn) (ρ' : Env) (σ' : L2.St) (G' : Hp) (la' : List Addr) (H' : Hp) (cls : Value) (od : Option Addr),
  X x ρ' → Aft K G la σ' ρ' G' la' H' → XR K G' H' x cls od → W cls od σ' H'
inductive SlsR (K : PySem.W.Frag) (G : Hp) (la : List Addr) : List V → List Sl → Prop
  | nil : SlsR K G la [] []
  | cons {v : V} {vs : List V} {x : Sl} {xs : List Sl} : SlR K G la v x → SlsR K G la vs xs → SlsR K G la (v :: vs) (x :: xs)

def lE (K : PySem.W.Frag) (W : WX) (f : DE) : TE := fun σ H Q => ∃ ρ G la P X, Re K G H la σ ρ ∧ f X ρ P ∧ (∀ d ρ' v G' la' H', P d ρ' → Aft K G la σ ρ' G' la' H' → Dp K G' v d → Q v H') ∧ XO K G la W X
def lL (K : PySem.W.Frag) (W : WX) (f : DL') : TE := fun σ H Q => ∃ ρ G la P X, Re K G H la σ ρ ∧ f X ρ P ∧ (∀ d ρ' v G' la' H', P d ρ' → Aft K G la σ ρ' G' la' H' → SlR K G' la' v d → Q v H') ∧ XO K G la W X
def lT (K : PySem.W.Frag) (W : WX) (f : DT) : TT := fun σ H Q => ∃ ρ G la P X, Re K G H la σ ρ ∧ f X ρ P ∧ (∀ b ρ' G' la' H', P b ρ' → Aft K G la σ ρ' G' la' H' → Q b H') ∧ XO K G la W X
def lA (K : PySem.W.Frag) (W : WX) (f : DA) : TA := fun σ H Q => ∃ ρ G la P X, Re K G H la σ ρ ∧ f X ρ P ∧ (∀ xs ρ' vs G' la' H', P xs ρ' → Aft K G la σ ρ' G' la' H' → SlsR K G' la' vs xs → Q vs H') ∧ XO K G la W X
structure Bk (K : PySem.W.Frag) (G : Hp) (la : List Addr) (W : WX) (E : DN) (D : Ends) : Prop where
  nx : ∀ (ρ' : Env) (σ' : L2.St) (G' : Hp) (la' : List Addr) (H' : Hp), E.nx ρ' → Aft K G la σ' ρ' G' la' H' → D.nx σ' H'
  bk : ∀ (ρ' : Env) (σ' : L2.St) (G' : Hp) (la' : List Addr) (H' : Hp), E.bk ρ' → Aft K G la σ' ρ' G' la' H' → D.bk σ' H'
  ct : ∀ (ρ' : Env) (σ' : L2.St) (G' : Hp) (la' : List Addr) (H' : Hp), E.ct ρ' → Aft K G la σ' ρ' G' la' H' → D.ct σ' H'
  rt : ∀ (x : Sl) (ρ' : Env) (v : V) (σ' : L2.St) (G' : Hp) (la' : List Addr) (H' : Hp), E.rt x ρ' → Aft K G la σ' ρ' G' la' H' → SlR K G' la' v x → D.rt v H'
  xn : XO K G la W E.xn
def lS (K : PySem.W.Frag) (W : WX) (f : DS) : TS := fun D σ H => ∃ ρ G la E, Re K G H la σ ρ ∧ f E ρ ∧ Bk K G la W E D

section
variable {K : PySem.W.Frag} {G G' G2 H H' H2 : Hp} {la la' la2 : List Addr} {σ : L2.St} {ρ ρ' ρ2 : Env} {W : WX} {X : XP} {E : DN} {D : Ends}
theorem Aft.refl (r : Re K G H la σ ρ) : Aft K G la σ ρ G la H := ⟨Same.refl _, List.prefix_rfl, r⟩
theorem Aft.trans {σ' : L2.St} (a : Aft K G la σ ρ G' la' H') (b : Aft K G' la' σ' ρ2 G2 la2 H2) : Aft K G la σ' ρ2 G2 la2 H2 := ⟨a.g.trans b.g, a.p.trans b.p, b.r⟩
theorem Aft.grow (a : Aft K G la σ ρ G' la' H') (w : Grow G' H' G2 H2) : Aft K G la σ ρ G2 la' H2 := ⟨a.g.trans w.g, a.p, a.r.grow w⟩
theorem XO.up (x : XO K G la W X) (g : Same G G') (p : la <+: la') : XO K G' la' W X := fun y ρ' σ' G2 la2 H2 cls od h a z => x y ρ' σ' G2 la2 H2 cls od h ⟨g.trans a.g, p.trans a.p, a.r⟩ z
theorem Bk.up (b : Bk K G la W E D) (g : Same G G') (p : la <+: la') : Bk K G' la' W E D :=
  ⟨fun ρ' σ' G2 la2 H2 h a => b.nx ρ' σ' G2 la2 H2 h ⟨g.trans a.g, p.trans a.p, a.r⟩, fun ρ' σ' G2 la2 H2 h a => b.bk ρ' σ' G2 la2 H2 h ⟨g.trans a.g, p.trans a.p, a.r⟩,
   fun ρ' σ' G2 la2 H2 h a => b.ct ρ' σ' G2 la2 H2 h ⟨g.trans a.g, p.trans a.p, a.r⟩, fun x ρ' v σ' G2 la2 H2 h a r => b.rt x ρ' v σ' G2 la2 H2 h ⟨g.trans a.g, p.trans a.p, a.r⟩ r, b.xn.up g p⟩
theorem SlsR.up (g : Same G G') (p : la <+: la') : ∀ {vs : List V} {xs : List Sl}, SlsR K G la vs xs → SlsR K G' la' vs xs
  | _, _, .nil => .nil
  | _, _, .cons a r => .cons (a.grow g p) (SlsR.up g p r)
theorem SlsR.len : ∀ {vs : List V} {xs : List Sl}, SlsR K G la vs xs → vs.length = xs.length
  | _, _, .nil => rfl
  | _, _, .cons _ r => congrArg (· + 1) (SlsR.len r)
theorem SlsR.get : ∀ {vs : List V} {xs : List Sl} {i : Nat} {x : Sl}, SlsR K G la vs xs → xs[i]? = some x → ∃ v, vs[i]? = some v ∧ SlR K G la v x
  | _, _, _, _, .nil, h => by simp at h
  | _, _, 0, _, .cons a _, h => by
    have e := Option.some.inj h
    subst e
    exact ⟨_, rfl, a⟩
  | _, _, i + 1, _, .cons _ r, h => SlsR.get (i := i) r h
end

/-! ### weakening -/
theorem pe_imp {X : Cx} {e : Expr} {t t' : TE} (h : PE X e t) (w : ∀ σ H Q, t' σ H Q → t σ H Q) : PE X e t' := ⟨fun pins s σ H Q I q => h.run pins s σ H Q I (w σ H Q q)⟩
theorem pt_imp {X : Cx} {e : Expr} {t t' : TT} (h : PT X e t) (w : ∀ σ H Q, t' σ H Q → t σ H Q) : PT X e t' := ⟨fun pins s σ H Q I q => h.run pins s σ H Q I (w σ H Q q)⟩
theorem pw_imp {X : Cx} {e : Expr} {t t' : TT} (h : PW X e t) (w : ∀ σ H Q, t' σ H Q → t σ H Q) : PW X e t' := ⟨fun wh pins s σ H Q I q => h.run wh pins s σ H Q I (w σ H Q q)⟩
theorem pa_imp {X : Cx} {es : List Expr} {t t' : TA} (h : PA X es t) (w : ∀ σ H Q, t' σ H Q → t σ H Q) : PA X es t' := ⟨fun pos pins s σ H Q I q => h.run pos pins s σ H Q I (w σ H Q q)⟩
theorem ps_imp {X : Cx} {st : Stmt} {t t' : TS} (h : PS X st t) (w : ∀ D σ H, t' D σ H → t D σ H) : PS X st t' := ⟨fun pins s σ H D I q => h.run pins s σ H D I (w D σ H q)⟩
theorem pss_imp {X : Cx} {st : List Stmt} {t t' : TS} (h : PSs X st t) (w : ∀ D σ H, t' D σ H → t D σ H) : PSs X st t' := ⟨fun pins s σ H D I q => h.run pins s σ H D I (w D σ H q)⟩

/-! ### the readings at data level -/
def dVar (i : Nat) : DE := fun _ ρ Q => match ρ.s[i]? with
  | some (some (.dat d)) => Q d ρ
  | some (some (.ob k)) => match ρ.T[k]? with
    | some (.lst xs) => Q (.lst xs) ⟨ρ.T.set k .dead, ρ.s.set i (some (.dat (.lst xs)))⟩
    | _ => False
  | _ => False
def dC (d : D) : DE := fun _ ρ Q => Q d ρ
def dVarL (i : Nat) : DL' := fun _ ρ Q => match ρ.s[i]? with
  | some (some x) => Q x ρ
  | _ => False
def dDat (f : DE) : DL' := fun X ρ Q => f X ρ fun d ρ' => Q (.dat d) ρ'
/-- an object that nobody else has becomes data -/

class Kept (α : Type) where
  q : α
def valK [h : Kept (D → Env → Prop)] : Sl → Env → Prop := fun x ρ' => match x with
  | .dat d => h.q d ρ'
  | .ob k => match ρ'.T[k]? with
    | some (.lst xs) => h.q (.lst xs) ⟨ρ'.T.set k .dead, ρ'.s⟩
    | _ => False
  | .clo _ _ _ => False
def dVal (f : DL') : DE := fun X ρ Q => f X ρ (@valK ⟨Q⟩)
def dBin (g : D → D → (D → Prop) → Prop) (fa fb : DE) : DE := fun X ρ Q => fa X ρ fun d ρ1 => fb X ρ1 fun e ρ2 => g d e fun z => Q z ρ2
def dUn (g : D → (D → Prop) → Prop) (fa : DE) : DE := fun X ρ Q => fa X ρ fun d ρ1 => g d fun z => Q z ρ1
def dNil : DA := fun _ ρ Q => Q [] ρ
def dCons (fa : DL') (fr : DA) : DA := fun X ρ Q => fa X ρ fun x ρ1 => fr X ρ1 fun xs ρ2 => Q (x :: xs) ρ2
/-- all of them data -/
def dats : List Sl → Option (List D)
  | [] => some []
  | .dat d :: r => (dats r).map (d :: ·)
  | _ :: _ => none
def dTup (fa : DA) : DE := fun X ρ Q => fa X ρ fun xs ρ' => match dats xs with
  | some ds => ds.length ≤ 1000 ∧ Q (.tup ds) ρ'
  | none => False
def dLst (fa : DA) : DE := fun X ρ Q => fa X ρ fun xs ρ' => match dats xs with
  | some ds => ds.length ≤ 1000 ∧ Q (.lst ds) ρ'
  | none => False
/-- a list that may be changed -/
def dNew (fa : DA) : DL' := fun X ρ Q => fa X ρ fun xs ρ' => match dats xs with
  | some ds => ds.length ≤ 1000 ∧ Q (.ob ρ'.T.length) ⟨ρ'.T ++ [.lst ds], ρ'.s⟩
  | none => False
def dTest (f : DE) : DT := fun X ρ Q => f X ρ fun d ρ' => match d with
  | .bl b => Q b ρ'
  | _ => False
def dtAnd (t u : DT) : DT := fun X ρ Q => t X ρ fun b ρ' => if b = true then u X ρ' Q else Q false ρ'
def dtOr (t u : DT) : DT := fun X ρ Q => t X ρ fun b ρ' => if b = true then Q true ρ' else u X ρ' Q
def dtNot (t : DT) : DT := fun X ρ Q => t X ρ fun b ρ' => Q (!b) ρ'
def dAnd (f : DE) (g : DE) : DE := fun X ρ Q => f X ρ fun d ρ' => match d with
  | .bl b => if b = true then g X ρ' Q else Q (.bl false) ρ'
  | _ => False
def dOr (f : DE) (g : DE) : DE := fun X ρ Q => f X ρ fun d ρ' => match d with
  | .bl b => if b = true then Q (.bl true) ρ' else g X ρ' Q
  | _ => False
def dNot (f : DE) : DE := fun X ρ Q => f X ρ fun d ρ' => match d with
  | .bl b => Q (.bl (!b)) ρ'
  | _ => False
def dIf (t : DT) (f g : DE) : DE := fun X ρ Q => t X ρ fun b ρ' => if b = true then f X ρ' Q else g X ρ' Q
def dChain (g g' : D → D → (D → Prop) → Prop) (fa fb fc : DE) : DE := fun X ρ Q => fa X ρ fun d ρ1 => fb X ρ1 fun e ρ2 => g d e fun z => match z with
  | .bl b => if b = true then fc X ρ2 fun c ρ3 => g' e c fun y => Q y ρ3 else Q (.bl false) ρ2
  | _ => False

section
variable {X : Cx} {W : WX}

/-! ### names, constants -/
theorem de_var (i : Nat) {x : Str} {pos : Pos} (hN : X.N[i]? = some x := by rfl) (hv : Vis X.env.scope x := by first | exact Or.inl rfl | exact Or.inr (Or.inl rfl) | exact Or.inr (Or.inr rfl)) (hd : (x == ("__debug__" : Str)) = false := by decide)
    (hcd : (x == ("__classdict__" : Str)) = false := by decide) : PE X (.Name x pos) (lE X.K W (dVar i)) := pe_imp (pe_var (i := i) hN hv hd hcd) fun σ H Q h => by
  obtain ⟨ρ, G, la, P, XX, r, f, q, _⟩ := h
  unfold dVar at f
  split at f
  · rename_i d hs
    obtain ⟨v, hv, rel⟩ := r.at_ _ _ hs
    exact ⟨v, hv, q _ _ _ _ _ _ f (Aft.refl r) rel⟩
  · rename_i k hs
    obtain ⟨v, hv, a, ha, ev⟩ := r.at_ _ _ hs
    subst ev
    split at f
    · rename_i xs hk
      obtain ⟨vs, hH, gn, s1, dp, rl⟩ := r.tb.freeze ha hk
      refine ⟨_, hv, q _ _ _ _ la _ f ⟨s1, List.prefix_rfl, ⟨rl, by simp [r.sl], fun j x hj => ?_⟩⟩ dp⟩
      have hj' : (ρ.s.set i (some (.dat (.lst xs))))[j]? = some (some x) := hj
      by_cases hji : j = i
      · subst hji
        rw [List.getElem?_set_self (List.getElem?_eq_some_iff.mp hs).1] at hj'
        have e := Option.some.inj (Option.some.inj hj')
        subst e
        exact ⟨_, hv, dp⟩
      · rw [List.getElem?_set_ne (Ne.symm hji)] at hj'
        obtain ⟨u, hu, ru⟩ := r.at_ j x hj'
        exact ⟨u, hu, ru.grow s1 List.prefix_rfl⟩
    · exact f.elim
  · exact f.elim
theorem dl_var (i : Nat) {x : Str} {pos : Pos} (hN : X.N[i]? = some x := by rfl) (hv : Vis X.env.scope x := by first | exact Or.inl rfl | exact Or.inr (Or.inl rfl) | exact Or.inr (Or.inr rfl)) (hd : (x == ("__debug__" : Str)) = false := by decide)
    (hcd : (x == ("__classdict__" : Str)) = false := by decide) : PE X (.Name x pos) (lL X.K W (dVarL i)) := pe_imp (pe_var (i := i) hN hv hd hcd) fun σ H Q h => by
  obtain ⟨ρ, G, la, P, XX, r, f, q, _⟩ := h
  unfold dVarL at f
  split at f
  · rename_i x hs
    obtain ⟨v, hv, rel⟩ := r.at_ _ _ hs
    exact ⟨v, hv, q _ _ _ _ _ _ f (Aft.refl r) rel⟩
  · exact f.elim
theorem de_c {e : Expr} {d : D} {v : V} (h : PE X e (tC v)) (hd : ∀ K G, Dp K G v d) : PE X e (lE X.K W (dC d)) := pe_imp h fun σ H Q ⟨ρ, G, la, P, XX, r, f, q, _⟩ => q _ _ _ _ _ _ f (Aft.refl r) (hd _ _)
theorem de_int {i j pos} : PE X (.Constant (.int i) j pos) (lE X.K W (dC (.int i))) := de_c pe_int fun _ _ => .int i
theorem de_bl {b j pos} : PE X (.Constant (.bool b) j pos) (lE X.K W (dC (.bl b))) := de_c pe_bl fun _ _ => .bl b
theorem de_non {j pos} : PE X (.Constant .none j pos) (lE X.K W (dC .non)) := de_c pe_non fun _ _ => .non
theorem de_str {x j pos} : PE X (.Constant (.str x) j pos) (lE X.K W (dC (.str x))) := de_c pe_str fun _ _ => .str x
theorem de_gint {x : Str} {i : Int} {t : Tok} {pos : Pos} (hm : X.mg x = some (.int i t)) (hg : Gl X x := by rfl) (hd : (x == ("__debug__" : Str)) = false := by decide) : PE X (.Name x pos) (lE X.K W (dC (.int i))) :=
  de_c (pe_glob hg hm (v := .int i) ⟨t, rfl⟩ hd) fun _ _ => .int i
theorem dl_dat {e : Expr} {f : DE} (h : PE X e (lE X.K W f)) : PE X e (lL X.K W (dDat f)) := pe_imp h fun σ H Q ⟨ρ, G, la, P, XX, r, f, q, x⟩ => ⟨ρ, G, la, _, XX, r, f, fun d ρ' v G' la' H' p a z => q _ _ _ _ _ _ p a z, x⟩
theorem de_val {e : Expr} {f : DL'} (h : PE X e (lL X.K W f)) : PE X e (lE X.K W (dVal f)) := pe_imp h fun σ H Q ⟨ρ, G, la, P, XX, r, f, q, x⟩ => ⟨ρ, G, la, _, XX, r, f, fun d ρ' v G' la' H' p a z => by
  cases d with
  | dat d => exact q _ _ _ _ _ _ p a z
  | ob k =>
    obtain ⟨b, hb, ev⟩ := z
    subst ev
    have p' : (match ρ'.T[k]? with
      | some (.lst xs) => P (.lst xs) ⟨ρ'.T.set k .dead, ρ'.s⟩
      | _ => False) := p
    split at p'
    · rename_i xs hk
      obtain ⟨vs, hH, gn, s1, dp, rl⟩ := a.r.tb.freeze hb hk
      refine q _ _ _ _ la' _ p' ⟨a.g.trans s1, a.p, ⟨rl, a.r.sl, fun j y hj => ?_⟩⟩ dp
      obtain ⟨u, hu, ru⟩ := a.r.at_ j y hj
      exact ⟨u, hu, ru.grow s1 List.prefix_rfl⟩
    · exact p'.elim
  | clo _ _ _ => exact (show False from p).elim, x⟩

/-! ### argument lists, displays -/
theorem da_nil : PA X [] (lA X.K W dNil) := pa_imp pa_nil fun σ H Q ⟨ρ, G, la, P, XX, r, f, q, _⟩ => q _ _ _ _ _ _ f (Aft.refl r) .nil
theorem da_cons {e : Expr} {es : List Expr} {f : DL'} {g : DA} (he : PE X e (lL X.K W f)) (hs : PA X es (lA X.K W g)) (hst : starEach (e :: es) X.env = (false, eval e X.env) :: starEach es X.env := by rfl) : PA X (e :: es) (lA X.K W (dCons f g)) :=
  pa_imp (pa_cons he hs hst) fun σ H Q ⟨ρ, G, la, P, XX, r, h, q, xo⟩ => ⟨ρ, G, la, _, XX, r, h, fun x ρ1 v G1 la1 H1 p1 a1 z1 => ⟨ρ1, G1, la1, _, XX, a1.r, p1, fun xs ρ2 vs G2 la2 H2 p2 a2 z2 =>
    q _ _ _ _ _ _ p2 (a1.trans a2) (.cons (z1.grow a2.g a2.p) z2), xo.up a1.g a1.p⟩, xo⟩
theorem dats_of {K : PySem.W.Frag} {G : Hp} {la : List Addr} : ∀ {vs : List V} {xs : List Sl} {ds : List D}, SlsR K G la vs xs → dats xs = some ds → Dps K G vs ds
  | _, _, _, .nil, h => by
    have e := Option.some.inj h
    subst e
    exact .nil
  | _, .dat d :: r, _, .cons a s, h => by
    have h' : (dats r).map (d :: ·) = some _ := h
    obtain ⟨t, ht, e⟩ := Option.map_eq_some_iff.mp h'
    subst e
    exact .cons a (dats_of s ht)
  | _, .ob _ :: _, _, .cons _ _, h => by cases h
  | _, .clo _ _ _ :: _, _, .cons _ _, h => by cases h
theorem dats_len : ∀ {xs : List Sl} {ds : List D}, dats xs = some ds → xs.length = ds.length
  | [], _, h => by
    have e := Option.some.inj h
    subst e
    rfl
  | .dat d :: r, _, h => by
    have h' : (dats r).map (d :: ·) = some _ := h
    obtain ⟨t, ht, e⟩ := Option.map_eq_some_iff.mp h'
    subst e
    exact congrArg (· + 1) (dats_len ht)
  | .ob _ :: _, _, h => by cases h
  | .clo _ _ _ :: _, _, h => by cases h
theorem short {n : Nat} (h : n ≤ 1000) : n ≤ sizeLine := Nat.le_of_lt (small1000 h)
theorem tup_some {xs : List Sl} {ρ' : Env} {P : D → Env → Prop} {c : List D → D} (h : match dats xs with
    | some ds => ds.length ≤ 1000 ∧ P (c ds) ρ'
    | none => False) : ∃ ds, dats xs = some ds ∧ ds.length ≤ 1000 ∧ P (c ds) ρ' := by
  cases e : dats xs with
  | none =>
    rw [e] at h
    exact h.elim
  | some ds =>
    rw [e] at h
    exact ⟨ds, rfl, h.1, h.2⟩
theorem de_tup {es : List Expr} {f : DA} {k pos} (h : PA X es (lA X.K W f)) : PE X (.Tuple es k pos) (lE X.K W (dTup f)) :=
  pe_imp (pe_tup h) fun σ H Q ⟨ρ, G, la, P, XX, r, h, q, xo⟩ => ⟨ρ, G, la, _, XX, r, h, fun xs ρ1 vs G1 la1 H1 p1 a1 z1 => by
    obtain ⟨ds, hd, hn, p1⟩ := tup_some p1
    have l0 : vs.length ≤ sizeLine := by
      rw [z1.len, dats_len hd]
      exact short hn
    refine ⟨l0, fun p hp => ?_⟩
    have w := Grow.new (o := .tup vs) a1.r.ext hp
    exact q _ _ _ _ _ _ p1 (a1.grow w) (.tup (.inl (.inl upd_same)) l0 ((dats_of z1 hd).up w.g)), xo⟩
theorem de_lst {es : List Expr} {f : DA} {pos} (h : PA X es (lA X.K W f)) : PE X (.List es pos) (lE X.K W (dLst f)) :=
  pe_imp (pe_lst h) fun σ H Q ⟨ρ, G, la, P, XX, r, h, q, xo⟩ => ⟨ρ, G, la, _, XX, r, h, fun xs ρ1 vs G1 la1 H1 p1 a1 z1 => by
    obtain ⟨ds, hd, hn, p1⟩ := tup_some p1
    have l0 : vs.length ≤ sizeLine := by
      rw [z1.len, dats_len hd]
      exact short hn
    refine ⟨l0, fun p hp => ?_⟩
    have w := Grow.new (o := .lst vs) a1.r.ext hp
    exact q _ _ _ _ _ _ p1 (a1.grow w) (.lst upd_same l0 ((dats_of z1 hd).up w.g)), xo⟩
theorem dl_new {es : List Expr} {f : DA} {pos} (h : PA X es (lA X.K W f)) : PE X (.List es pos) (lL X.K W (dNew f)) :=
  pe_imp (pe_lst h) fun σ H Q ⟨ρ, G, la, P, XX, r, h, q, xo⟩ => ⟨ρ, G, la, _, XX, r, h, fun xs ρ1 vs G1 la1 H1 p1 a1 z1 => by
    have p1' : (match dats xs with
      | some ds => ds.length ≤ 1000 ∧ P (.ob ρ1.T.length) ⟨ρ1.T ++ [.lst ds], ρ1.s⟩
      | none => False) := p1
    split at p1'
    · rename_i ds hd
      obtain ⟨hn, p2⟩ := p1'
      have l0 : vs.length ≤ sizeLine := by
        rw [z1.len, dats_len hd]
        exact short hn
      refine ⟨l0, fun p hp => ?_⟩
      have rf := a1.r.tb.fresh hp l0 (dats_of z1 hd)
      refine q _ _ _ G1 (la1 ++ [p]) _ p2 ⟨a1.g, a1.p.trans (List.prefix_append _ _), ⟨rf, a1.r.sl, fun j y hj => ?_⟩⟩ ⟨p, ?_, rfl⟩
      · obtain ⟨u, hu, ru⟩ := a1.r.at_ j y hj
        exact ⟨u, hu, ru.grow (Same.refl _) (List.prefix_append _ _)⟩
      · rw [← a1.r.tb.len, List.getElem?_append_right (Nat.le_refl _)]
        simp
    · exact p1'.elim, xo⟩

/-! ### operators -/
/-- r on values does what g does on data -/
def GOp (K : PySem.W.Frag) (r : R2) (g : D → D → (D → Prop) → Prop) : Prop := ∀ (G H : Hp) (x y : V) (d e : D) (P : D → Prop) (Q : VK), Same G H → Dp K G x d → Dp K G y e → g d e P →
  (∀ z v G' H', P z → Grow G H G' H' → Dp K G' v z → Q v H') → r x y H Q
theorem bin_core {K : PySem.W.Frag} {r : R2} {g : D → D → (D → Prop) → Prop} {fa fb : DE} (hg : GOp K r g) : ∀ (σ : L2.St) (H : Hp) (Q : VK), lE K W (dBin g fa fb) σ H Q → tOp r (lE K W fa) (lE K W fb) σ H Q := fun σ H Q ⟨ρ, G, la, P, XX, re, h, q, xo⟩ =>
  ⟨ρ, G, la, _, XX, re, h, fun d ρ1 v G1 la1 H1 p1 a1 z1 => ⟨ρ1, G1, la1, _, XX, a1.r, p1, fun e ρ2 u G2 la2 H2 p2 a2 z2 =>
    hg G2 H2 v u d e _ Q a2.r.ext (z1.up a2.g) z2 p2 fun z w G' H' pz gr dz => q _ _ _ _ _ _ pz ((a1.trans a2).grow gr) dz, xo.up a1.g a1.p⟩, xo⟩
theorem de_bin {op : Operator} {a b : Expr} {r : R2} {g : D → D → (D → Prop) → Prop} {fa fb : DE} {pos : Pos} (ho : OpR X (binaryOp op) r) (hg : GOp X.K r g) (ha : PE X a (lE X.K W fa)) (hb : PE X b (lE X.K W fb)) : PE X (.BinOp a op b pos) (lE X.K W (dBin g fa fb)) :=
  pe_imp (pe_op ho ha hb) (bin_core hg)
theorem de_cmp {op : CmpOp} {a b : Expr} {r : R2} {g : D → D → (D → Prop) → Prop} {fa fb : DE} {pos : Pos} (ho : OpR X (compareOp op) r) (hg : GOp X.K r g) (ha : PE X a (lE X.K W fa)) (hb : PE X b (lE X.K W fb)) (hm : behindInMarks op b = false) : PE X (.Compare a [op] [b] pos) (lE X.K W (dBin g fa fb)) :=
  pe_imp (pe_cmpR ho ha hb hm) (bin_core hg)
theorem chain_core {K : PySem.W.Frag} {r r' : R2} {g g' : D → D → (D → Prop) → Prop} {fa fb fc : DE} (hg : GOp K r g) (hg' : GOp K r' g') : ∀ (σ : L2.St) (H : Hp) (Q : VK), lE K W (dChain g g' fa fb fc) σ H Q → tChain r r' (lE K W fa) (lE K W fb) (lE K W fc) σ H Q := fun σ H Q ⟨ρ, G, la, P, XX, re, h, q, xo⟩ =>
  ⟨ρ, G, la, _, XX, re, h, fun d ρ1 v G1 la1 H1 p1 a1 z1 => ⟨ρ1, G1, la1, _, XX, a1.r, p1, fun e ρ2 u G2 la2 H2 p2 a2 z2 =>
    hg G2 H2 v u d e _ _ a2.r.ext (z1.up a2.g) z2 p2 fun z w G' H' pz gr dz => by
      cases z with
      | bl b' =>
        cases dz
        refine ⟨b', rfl, ?_⟩
        have a3 := (a1.trans a2).grow gr
        cases b' with
        | true =>
          refine iteT ?_
          have pz' : fc XX ρ2 fun c ρ3 => g' e c fun y => P y ρ3 := pz
          exact ⟨ρ2, G', la2, _, XX, a3.r, pz', fun c ρ3 w' G4 la4 H4 p4 a4 z4 =>
            hg' G4 H4 u w' e c _ Q a4.r.ext ((z2.up gr.g).up a4.g) z4 p4 fun y v' G5 H5 py gr5 dy => q _ _ _ _ _ _ py ((a3.trans a4).grow gr5) dy, xo.up a3.g a3.p⟩
        | false =>
          refine iteF ?_
          exact q _ _ _ _ _ _ (show P (.bl false) ρ2 from pz) a3 (.bl false)
      | _ => exact (show False from pz).elim, xo.up a1.g a1.p⟩, xo⟩
theorem de_chain {op op' : CmpOp} {a b c : Expr} {r r' : R2} {g g' : D → D → (D → Prop) → Prop} {fa fb fc : DE} {pos : Pos} (ho : OpR X (compareOp op) r) (ho' : OpR X (compareOp op') r') (hg : GOp X.K r g) (hg' : GOp X.K r' g') (ha : PE X a (lE X.K W fa)) (hb : PE X b (lE X.K W fb)) (hc : PE X c (lE X.K W fc))
    (hm : lastMarks [op, op'] [b, c] = false := by with_unfolding_all rfl) : PE X (.Compare a [op, op'] [b, c] pos) (lE X.K W (dChain g g' fa fb fc)) :=
  pe_imp (pe_chain ho ho' ha hb hc hm) (chain_core hg hg')
theorem de_un {op : UnaryOp} {a : Expr} {r : V → Hp → VK → Prop} {g : D → (D → Prop) → Prop} {fa : DE} {pos : Pos} (ho : UnR X (unaryOp op) r)
    (hg : ∀ (G H : Hp) (x : V) (d : D) (P : D → Prop) (Q : VK), Same G H → Dp X.K G x d → g d P → (∀ z v G' H', P z → Grow G H G' H' → Dp X.K G' v z → Q v H') → r x H Q) (ha : PE X a (lE X.K W fa)) : PE X (.UnaryOp op a pos) (lE X.K W (dUn g fa)) :=
  pe_imp (pe_un ho ha) fun σ H Q ⟨ρ, G, la, P, XX, re, h, q, xo⟩ => ⟨ρ, G, la, _, XX, re, h, fun d ρ1 v G1 la1 H1 p1 a1 z1 => hg G1 H1 v d _ _ a1.r.ext z1 p1 fun z w G' H' pz gr dz => q _ _ _ _ _ _ pz (a1.grow gr) dz, xo⟩

/-! ### tests -/
theorem dt_of {e : Expr} {f : DE} (h : PE X e (lE X.K W f)) (he : ∀ whole, isTrue e X.env whole = (do let v ← whole; standAt e.pos; holding [v] (truthy v)) := by intro _; rfl) : PT X e (lT X.K W (dTest f)) :=
  pt_imp (pt_val h he) fun σ H Q ⟨ρ, G, la, P, XX, r, h, q, xo⟩ => ⟨ρ, G, la, _, XX, r, h, fun d ρ1 v G1 la1 H1 p1 a1 z1 => by
    cases d with
    | bl b =>
      cases z1
      exact ⟨b, rfl, q _ _ _ _ _ (show P b ρ1 from p1) a1⟩
    | _ => exact (show False from p1).elim, xo⟩
theorem test_core {K : PySem.W.Frag} {f : DE} : ∀ (σ : L2.St) (H : Hp) (Q : Bool → Hp → Prop), lT K W (dTest f) σ H Q → lE K W f σ H (fun x H' => ∃ k, x = .bl k ∧ Q k H') := fun σ H Q ⟨ρ, G, la, P, XX, r, h, q, xo⟩ => ⟨ρ, G, la, _, XX, r, h, fun d ρ1 v G1 la1 H1 p1 a1 z1 => by
    cases d with
    | bl b =>
      cases z1
      exact ⟨b, rfl, q _ _ _ _ _ (show P b ρ1 from p1) a1⟩
    | _ => exact (show False from p1).elim, xo⟩
theorem dt_cmp {op : CmpOp} {a b : Expr} {r : R2} {g : D → D → (D → Prop) → Prop} {fa fb : DE} {pos : Pos} (ho : OpR X (compareOp op) r) (hg : GOp X.K r g) (ha : PE X a (lE X.K W fa)) (hb : PE X b (lE X.K W fb)) (hm : behindInMarks op b = false) : PT X (.Compare a [op] [b] pos) (lT X.K W (dTest (dBin g fa fb))) :=
  pt_imp (pt_cmpR ho ha hb hm) fun σ H Q h => bin_core hg σ H _ (test_core σ H Q h)
theorem dt_chain {op op' : CmpOp} {a b c : Expr} {r r' : R2} {g g' : D → D → (D → Prop) → Prop} {fa fb fc : DE} {pos : Pos} (ho : OpR X (compareOp op) r) (ho' : OpR X (compareOp op') r') (hg : GOp X.K r g) (hg' : GOp X.K r' g') (ha : PE X a (lE X.K W fa)) (hb : PE X b (lE X.K W fb)) (hc : PE X c (lE X.K W fc))
    (hm : lastMarks [op, op'] [b, c] = false := by with_unfolding_all rfl) : PT X (.Compare a [op, op'] [b, c] pos) (lT X.K W (dTest (dChain g g' fa fb fc))) :=
  pt_imp (pt_chain ho ho' ha hb hc hm) fun σ H Q h => chain_core hg hg' σ H _ (test_core σ H Q h)
theorem dt_not {e : Expr} {t : DT} {pos : Pos} (h : PT X e (lT X.K W t)) : PT X (.UnaryOp .Not e pos) (lT X.K W (dtNot t)) :=
  pt_imp (pt_not h) fun σ H Q ⟨ρ, G, la, P, XX, r, h, q, xo⟩ => ⟨ρ, G, la, _, XX, r, h, fun b ρ1 G1 la1 H1 p1 a1 => q _ _ _ _ _ p1 a1, xo⟩
theorem dw_and1 {e : Expr} {t : DT} {pos : Pos} (h : PT X e (lT X.K W t)) : PW X (.BoolOp .And [e] pos) (lT X.K W t) := pw_and1 h
theorem dw_or1 {e : Expr} {t : DT} {pos : Pos} (h : PT X e (lT X.K W t)) : PW X (.BoolOp .Or [e] pos) (lT X.K W t) := pw_or1 h
theorem dw_and {a b : Expr} {rest : List Expr} {t u : DT} {pos : Pos} (h : PT X a (lT X.K W t)) (h2 : PW X (.BoolOp .And (b :: rest) pos) (lT X.K W u)) : PW X (.BoolOp .And (a :: b :: rest) pos) (lT X.K W (dtAnd t u)) :=
  pw_imp (pw_and h h2) fun σ H Q ⟨ρ, G, la, P, XX, r, h, q, xo⟩ => ⟨ρ, G, la, _, XX, r, h, fun b ρ1 G1 la1 H1 p1 a1 => by
    cases b with
    | true => exact iteT ⟨ρ1, G1, la1, _, XX, a1.r, (show u XX ρ1 P from p1), fun b ρ2 G2 la2 H2 p2 a2 => q _ _ _ _ _ p2 (a1.trans a2), xo.up a1.g a1.p⟩
    | false => exact iteF (q _ _ _ _ _ (show P false ρ1 from p1) a1), xo⟩
theorem dw_or {a b : Expr} {rest : List Expr} {t u : DT} {pos : Pos} (h : PT X a (lT X.K W t)) (h2 : PW X (.BoolOp .Or (b :: rest) pos) (lT X.K W u)) : PW X (.BoolOp .Or (a :: b :: rest) pos) (lT X.K W (dtOr t u)) :=
  pw_imp (pw_or h h2) fun σ H Q ⟨ρ, G, la, P, XX, r, h, q, xo⟩ => ⟨ρ, G, la, _, XX, r, h, fun b ρ1 G1 la1 H1 p1 a1 => by
    cases b with
    | false => exact iteF ⟨ρ1, G1, la1, _, XX, a1.r, (show u XX ρ1 P from p1), fun b ρ2 G2 la2 H2 p2 a2 => q _ _ _ _ _ p2 (a1.trans a2), xo.up a1.g a1.p⟩
    | true => exact iteT (q _ _ _ _ _ (show P true ρ1 from p1) a1), xo⟩
theorem dw {e : Expr} {t : DT} (h : PW X e (lT X.K W t)) : PT X e (lT X.K W t) := h.pt
theorem de_and {a b : Expr} {rest : List Expr} {f g : DE} {pos : Pos} (h : PE X a (lE X.K W f)) (h2 : PE X (.BoolOp .And (b :: rest) pos) (lE X.K W g)) : PE X (.BoolOp .And (a :: b :: rest) pos) (lE X.K W (dAnd f g)) :=
  pe_imp (pe_and h h2) fun σ H Q ⟨ρ, G, la, P, XX, r, h, q, xo⟩ => ⟨ρ, G, la, _, XX, r, h, fun d ρ1 v G1 la1 H1 p1 a1 z1 => by
    cases d with
    | bl b =>
      cases z1
      refine ⟨b, rfl, ?_⟩
      cases b with
      | true => exact iteT ⟨ρ1, G1, la1, _, XX, a1.r, (show g XX ρ1 P from p1), fun d ρ2 v G2 la2 H2 p2 a2 z2 => q _ _ _ _ _ _ p2 (a1.trans a2) z2, xo.up a1.g a1.p⟩
      | false => exact iteF (q _ _ _ _ _ _ (show P (.bl false) ρ1 from p1) a1 (.bl false))
    | _ => exact (show False from p1).elim, xo⟩
theorem de_not {e : Expr} {f : DE} {pos : Pos} (h : PE X e (lE X.K W f)) : PE X (.UnaryOp .Not e pos) (lE X.K W (dNot f)) :=
  pe_imp (pe_not h) fun σ H Q ⟨ρ, G, la, P, XX, r, h, q, xo⟩ => ⟨ρ, G, la, _, XX, r, h, fun d ρ1 v G1 la1 H1 p1 a1 z1 => by
    cases d with
    | bl b =>
      cases z1
      exact ⟨b, rfl, q _ _ _ _ _ _ (show P (.bl (!b)) ρ1 from p1) a1 (.bl _)⟩
    | _ => exact (show False from p1).elim, xo⟩
theorem de_one {op : BoolOp} {e : Expr} {f : DE} {pos : Pos} (h : PE X e (lE X.K W f)) : PE X (.BoolOp op [e] pos) (lE X.K W f) := pe_one h
theorem de_if {c a b : Expr} {t : DT} {f g : DE} {pos : Pos} (hc : PT X c (lT X.K W t)) (ha : PE X a (lE X.K W f)) (hb : PE X b (lE X.K W g)) : PE X (.IfExp c a b pos) (lE X.K W (dIf t f g)) :=
  pe_imp (pe_ifExp hc ha hb) fun σ H Q ⟨ρ, G, la, P, XX, r, h, q, xo⟩ => ⟨ρ, G, la, _, XX, r, h, fun b ρ1 G1 la1 H1 p1 a1 => by
    cases b with
    | true => exact iteT ⟨ρ1, G1, la1, _, XX, a1.r, (show f XX ρ1 P from p1), fun d ρ2 v G2 la2 H2 p2 a2 z2 => q _ _ _ _ _ _ p2 (a1.trans a2) z2, xo.up a1.g a1.p⟩
    | false => exact iteF ⟨ρ1, G1, la1, _, XX, a1.r, (show g XX ρ1 P from p1), fun d ρ2 v G2 la2 H2 p2 a2 z2 => q _ _ _ _ _ _ p2 (a1.trans a2) z2, xo.up a1.g a1.p⟩, xo⟩
end
end DL
set_option Elab.async false
set_option linter.all false
set_option maxRecDepth 100000
set_option maxHeartbeats 4000000
set_option autoImplicit false
/-! The data level: operators, subscripts, slices, calls of built-ins. -/
namespace DL
open PySem PySem.Spec PyProof.Rows L2

/-! ### arithmetic -/
def gAdd : D → D → (D → Prop) → Prop
  | .int i, .int j, P => P (.int (i + j))
  | .str i, .str j, P => i.length + j.length ≤ sizeLine ∧ P (.str (i ++ j))
  | .tup a, .tup b, P => a.length + b.length ≤ sizeLine ∧ P (.tup (a ++ b))
  | .lst a, .lst b, P => a.length + b.length ≤ sizeLine ∧ P (.lst (a ++ b))
  | _, _, _ => False
def gSub : D → D → (D → Prop) → Prop
  | .int i, .int j, P => P (.int (i - j))
  | _, _, _ => False
def gMul : D → D → (D → Prop) → Prop
  | .int i, .int j, P => CMulW i j ∧ P (.int (i * j))
  | _, _, _ => False
def gDiv : D → D → (D → Prop) → Prop
  | .int i, .int j, P => CDivW i j ∧ P (.int (i / j))
  | _, _, _ => False
def gMod : D → D → (D → Prop) → Prop
  | .int i, .int j, P => 0 < j ∧ P (.int (i % j))
  | _, _, _ => False
def gPow : D → D → (D → Prop) → Prop
  | .int i, .int j, P => CPow i j ∧ P (.int (i ^ j.toNat))
  | _, _, _ => False
def gNeg : D → (D → Prop) → Prop
  | .int i, P => P (.int (-i))
  | _, _ => False
section
variable {K : PySem.W.Frag}
theorem gop_rI {C : Int → Int → Prop} {f : Int → Int → Int} {g : D → D → (D → Prop) → Prop} (h : ∀ d e P, g d e P → ∃ i j, d = .int i ∧ e = .int j ∧ C i j ∧ P (.int (f i j))) : GOp K (rI C fun i j => .int (f i j)) g := by
  intro G H x y d e P Q sm dx dy gp k
  obtain ⟨i, j, rfl, rfl, c, p⟩ := h d e P gp
  cases dx
  cases dy
  exact ⟨i, j, rfl, rfl, c, k _ _ _ _ p (Grow.refl sm) (.int _)⟩
theorem gop_rI0 {f : Int → Int → Int} {g : D → D → (D → Prop) → Prop} (h : ∀ d e P, g d e P → ∃ i j, d = .int i ∧ e = .int j ∧ P (.int (f i j))) : GOp K (rI0 fun i j => .int (f i j)) g := by
  intro G H x y d e P Q sm dx dy gp k
  obtain ⟨i, j, rfl, rfl, p⟩ := h d e P gp
  cases dx
  cases dy
  exact ⟨i, j, rfl, rfl, k _ _ _ _ p (Grow.refl sm) (.int _)⟩
theorem gop_rB0 {f : Int → Int → Bool} {g : D → D → (D → Prop) → Prop} (h : ∀ d e P, g d e P → ∃ i j, d = .int i ∧ e = .int j ∧ P (.bl (f i j))) : GOp K (rI0 fun i j => .bl (f i j)) g := by
  intro G H x y d e P Q sm dx dy gp k
  obtain ⟨i, j, rfl, rfl, p⟩ := h d e P gp
  cases dx
  cases dy
  exact ⟨i, j, rfl, rfl, k _ _ _ _ p (Grow.refl sm) (.bl _)⟩
theorem g_sub : GOp K (rI0 fun i j => .int (i - j)) gSub := gop_rI0 fun d e P h => by
  unfold gSub at h
  split at h
  · exact ⟨_, _, rfl, rfl, h⟩
  · exact h.elim
theorem g_div : GOp K (rI CDivW fun i j => .int (i / j)) gDiv := gop_rI fun d e P h => by
  unfold gDiv at h
  split at h
  · exact ⟨_, _, rfl, rfl, h.1, h.2⟩
  · exact h.elim
theorem g_mod : GOp K (rI (fun _ j => 0 < j) fun i j => .int (i % j)) gMod := gop_rI fun d e P h => by
  unfold gMod at h
  split at h
  · exact ⟨_, _, rfl, rfl, h.1, h.2⟩
  · exact h.elim
theorem g_pow : GOp K (rI CPow fun i j => .int (i ^ j.toNat)) gPow := gop_rI fun d e P h => by
  unfold gPow at h
  split at h
  · exact ⟨_, _, rfl, rfl, h.1, h.2⟩
  · exact h.elim
/-- + of ints, texts, tuples, lists -/
def rAddA (K : PySem.W.Frag) : R2 := fun x y H Q => (rI0 (fun i j => .int (i + j)) x y H Q) ∨ (∃ i j, x = .str i ∧ y = .str j ∧ i.length + j.length ≤ sizeLine ∧ Q (.str (i ++ j)) H) ∨ rCatA K x y H Q ∨ rCat x y H Q
theorem op_addA {X : Cx} : OpR X (binaryOp .Add) (rAddA X.K) := op_add.or (op_add_str.or (op_catA.or op_cat))
theorem nil_iff {K : PySem.W.Frag} {G : Hp} {vs : List V} {ds : List D} (h : Dps K G vs ds) : vs = [] ↔ ds = [] := by
  cases h with
  | nil => simp
  | cons _ _ => simp
theorem g_add : GOp K (rAddA K) gAdd := by
  intro G H x y d e P Q sm dx dy gp k
  unfold gAdd at gp
  split at gp
  · cases dx
    cases dy
    exact .inl ⟨_, _, rfl, rfl, k _ _ _ _ gp (Grow.refl sm) (.int _)⟩
  · cases dx
    cases dy
    exact .inr (.inl ⟨_, _, rfl, rfl, gp.1, k _ _ _ _ gp.2 (Grow.refl sm) (.str _)⟩)
  · cases dx with
    | tup a l r =>
      rename_i pa va
      cases dy with
      | tup a' l' r' =>
        rename_i pb vb
        have lz : va.length + vb.length ≤ sizeLine := by
          rw [r.len, r'.len]
          exact gp.1
        refine .inr (.inr (.inl ⟨_, _, va, vb, rfl, rfl, same_t sm a, same_t sm a', lz, fun z => ?_, fun z z' => ?_, fun z z' q hq => ?_⟩))
        · have e0 := (nil_iff r).mp z
          have e1 := gp.2
          rw [e0, List.nil_append] at e1
          exact k _ _ _ _ e1 (Grow.refl sm) (.tup a' l' r')
        · have e0 := (nil_iff r').mp z'
          have e1 := gp.2
          rw [e0, List.append_nil] at e1
          exact k _ _ _ _ e1 (Grow.refl sm) (.tup a l r)
        · have w := Grow.new (o := .tup (va ++ vb)) sm hq
          exact k _ _ _ _ gp.2 w (.tup (.inl (.inl upd_same)) (by rw [List.length_append]; exact lz) ((r.app r').up w.g))
  · cases dx with
    | lst a l r =>
      rename_i pa va
      cases dy with
      | lst a' l' r' =>
        rename_i pb vb
        have lz : va.length + vb.length ≤ sizeLine := by
          rw [r.len, r'.len]
          exact gp.1
        refine .inr (.inr (.inr ⟨_, _, va, vb, rfl, rfl, sm _ _ a, sm _ _ a', lz, fun q hq => ?_⟩))
        have w := Grow.new (o := .lst (va ++ vb)) sm hq
        exact k _ _ _ _ gp.2 w (.lst upd_same (by rw [List.length_append]; exact lz) ((r.app r').up w.g))
  · exact gp.elim

/-! ### comparisons -/
def gLt : D → D → (D → Prop) → Prop
  | .int i, .int j, P => P (.bl (decide (i < j)))
  | _, _, _ => False
def gLe : D → D → (D → Prop) → Prop
  | .int i, .int j, P => P (.bl (decide (i ≤ j)))
  | _, _, _ => False
def gGt : D → D → (D → Prop) → Prop
  | .int i, .int j, P => P (.bl (decide (j < i)))
  | _, _, _ => False
def gGe : D → D → (D → Prop) → Prop
  | .int i, .int j, P => P (.bl (decide (j ≤ i)))
  | _, _, _ => False
theorem g_lt : GOp K (rI0 fun i j => .bl (decide (i < j))) gLt := gop_rB0 (f := fun i j => decide (i < j)) fun d e P h => by
  unfold gLt at h
  split at h
  · exact ⟨_, _, rfl, rfl, h⟩
  · exact h.elim
theorem g_le : GOp K (rI0 fun i j => .bl (decide (i ≤ j))) gLe := gop_rB0 (f := fun i j => decide (i ≤ j)) fun d e P h => by
  unfold gLe at h
  split at h
  · exact ⟨_, _, rfl, rfl, h⟩
  · exact h.elim
theorem g_gt : GOp K (rI0 fun i j => .bl (decide (j < i))) gGt := gop_rB0 (f := fun i j => decide (j < i)) fun d e P h => by
  unfold gGt at h
  split at h
  · exact ⟨_, _, rfl, rfl, h⟩
  · exact h.elim
theorem g_ge : GOp K (rI0 fun i j => .bl (decide (j ≤ i))) gGe := gop_rB0 (f := fun i j => decide (j ≤ i)) fun d e P h => by
  unfold gGe at h
  split at h
  · exact ⟨_, _, rfl, rfl, h⟩
  · exact h.elim
/-- is None -/
def isNon : D → Option Bool
  | .non => some true
  | .raw _ => none
  | _ => some false
def gIsN (neg : Bool) : D → D → (D → Prop) → Prop := fun d e P => match e with
  | .non => match isNon d with
    | some b => P (.bl (if neg then !b else b))
    | none => False
  | _ => False
theorem isNon_of {G : Hp} {x : V} {d : D} {b : Bool} (h : Dp K G x d) (e : isNon d = some b) : decide (x = .non) = b := by
  cases h <;> first
    | (have e' := Option.some.inj e; subst e'; simp; done)
    | (have e' := Option.some.inj e; subst e'; exact decide_eq_true rfl)
    | cases e
theorem g_isN : GOp K (fun x y H Q => y = .non ∧ Q (.bl (decide (x = .non))) H) (gIsN false) := by
  intro G H x y d e P Q sm dx dy gp k
  unfold gIsN at gp
  split at gp
  · cases dy
    split at gp
    · rename_i b hb
      rw [isNon_of dx hb]
      exact ⟨rfl, k _ _ _ _ gp (Grow.refl sm) (.bl _)⟩
    · exact gp.elim
  · exact gp.elim
end

/-! ### == of data -/
mutual
def toP : D → PyData
  | .non => .none
  | .bl b => .bool b
  | .int i => .int i
  | .str x => .str x
  | .raw _ => .none
  | .tup xs => .tuple (toPs xs)
  | .lst xs => .list (toPs xs)
  | .scr ns => .list (ns.map .int)
  | .fn _ => .none
  | .err _ _ => .none
  | .cl _ _ => .none
def toPs : List D → List PyData
  | [] => []
  | x :: xs => toP x :: toPs xs
end
mutual
/-- data without strange values, not deeper than n -/
def okd : Nat → D → Bool
  | _, .raw _ => false
  | n, .tup xs => match n with
    | 0 => false
    | n + 1 => okds n xs
  | n, .lst xs => match n with
    | 0 => false
    | n + 1 => okds n xs
  | _, .scr _ => false
  | _, .fn _ => false
  | _, .err _ _ => false
  | _, .cl _ _ => false
  | _, _ => true
def okds : Nat → List D → Bool
  | _, [] => true
  | n, x :: xs => okd n x && okds n xs
end
/-- whether two data are equal to Python -/
def deq (d e : D) : Bool := PyData.eqv (toP d) (toP e)
def deqs (ds es : List D) : Bool := PyData.eqvAll (toPs ds) (toPs es)
theorem plain_ints : ∀ ns : List Int, PyData.plainAll (ns.map PyData.int) = true
  | [] => rfl
  | _ :: ns => plain_ints ns
theorem depth_ints : ∀ ns : List Int, PyData.depthAll (ns.map PyData.int) = 0
  | [] => by simp [PyData.depthAll]
  | _ :: ns => by
    have ih := depth_ints ns
    simp only [List.map_cons, PyData.depthAll, PyData.depth, ih]
    rfl
mutual
theorem plain_toP : ∀ (n : Nat) (d : D), okd n d = true → (toP d).plain = true ∧ (toP d).depth ≤ n
  | n, .non, _ => ⟨rfl, Nat.zero_le _⟩
  | n, .bl _, _ => ⟨rfl, Nat.zero_le _⟩
  | n, .int _, _ => ⟨rfl, Nat.zero_le _⟩
  | n, .str _, _ => ⟨rfl, Nat.zero_le _⟩
  | n, .raw _, h => by simp [okd] at h
  | 0, .tup xs, h => by simp [okd] at h
  | n + 1, .tup xs, h => by
    have h' : okds n xs = true := by simpa [okd] using h
    obtain ⟨a, b⟩ := plain_toPs n xs h'
    refine ⟨?_, ?_⟩
    · show PyData.plainAll (toPs xs) = true
      exact a
    · show PyData.depthAll (toPs xs) + 1 ≤ n + 1
      omega
  | 0, .lst xs, h => by simp [okd] at h
  | n + 1, .lst xs, h => by
    have h' : okds n xs = true := by simpa [okd] using h
    obtain ⟨a, b⟩ := plain_toPs n xs h'
    refine ⟨?_, ?_⟩
    · show PyData.plainAll (toPs xs) = true
      exact a
    · show PyData.depthAll (toPs xs) + 1 ≤ n + 1
      omega
  | 0, .scr _, h => by simp [okd] at h
  | n + 1, .scr ns, _ => by
    refine ⟨?_, ?_⟩
    · show PyData.plainAll (ns.map PyData.int) = true
      exact plain_ints ns
    · show PyData.depthAll (ns.map PyData.int) + 1 ≤ n + 1
      rw [depth_ints]
      omega
  | n, .fn _, h => by simp [okd] at h
  | n, .err _ _, h => by simp [okd] at h
  | n, .cl _ _, h => by simp [okd] at h
theorem plain_toPs : ∀ (n : Nat) (ds : List D), okds n ds = true → PyData.plainAll (toPs ds) = true ∧ PyData.depthAll (toPs ds) ≤ n
  | n, [], _ => ⟨rfl, by simp [toPs, PyData.depthAll]⟩
  | n, x :: xs, h => by
    have h' : okd n x = true ∧ okds n xs = true := by simpa [okds] using h
    obtain ⟨a, b⟩ := plain_toP n x h'.1
    obtain ⟨c, d⟩ := plain_toPs n xs h'.2
    refine ⟨?_, ?_⟩
    · show ((toP x).plain && PyData.plainAll (toPs xs)) = true
      rw [a, c]
      rfl
    · show max (toP x).depth (PyData.depthAll (toPs xs)) ≤ n
      omega
end
section
variable {K : PySem.W.Frag} {G H : Hp}
theorem dpall_ints (H : Hp) : ∀ ns : List Int, L2.DpAll K H (ns.map V.int) (ns.map PyData.int)
  | [] => .nil
  | n :: ns => .cons (.int n) (dpall_ints H ns)
mutual
theorem Dp.l2 (sm : Same G H) : ∀ (n : Nat) (d : D) (v : V), Dp K G v d → okd n d = true → L2.Dp K H v (toP d)
  | n, .non, _, h, _ => by cases h; exact .non
  | n, .bl _, _, h, _ => by cases h; exact .bl _
  | n, .int _, _, h, _ => by cases h; exact .int _
  | n, .str _, _, h, _ => by cases h; exact .str _
  | n, .raw _, _, _, o => by simp [okd] at o
  | 0, .tup _, _, _, o => by simp [okd] at o
  | n + 1, .tup xs, _, h, o => by
    cases h with
    | tup a l r =>
      have o' : okds n xs = true := by simpa [okd] using o
      exact .tup (same_t sm a) (Dps.l2 sm n xs _ r o')
  | 0, .lst _, _, _, o => by simp [okd] at o
  | n + 1, .lst xs, _, h, o => by
    cases h with
    | lst a l r =>
      have o' : okds n xs = true := by simpa [okd] using o
      exact .lst (SqL.of (sm _ _ a)) (Dps.l2 sm n xs _ r o')
  | n, .scr ns, _, h, _ => by
    cases h with
    | scr a => exact .lst (sm.seq a) (dpall_ints H ns)
  | n, .fn _, _, _, o => by simp [okd] at o
  | n, .err _ _, _, _, o => by simp [okd] at o
  | n, .cl _ _, _, _, o => by simp [okd] at o
theorem Dps.l2 (sm : Same G H) : ∀ (n : Nat) (ds : List D) (vs : List V), Dps K G vs ds → okds n ds = true → L2.DpAll K H vs (toPs ds)
  | n, [], _, h, _ => by cases h; exact .nil
  | n, d :: ds, _, h, o => by
    cases h with
    | cons a r =>
      have o' : okd n d = true ∧ okds n ds = true := by simpa [okds] using o
      exact .cons (Dp.l2 sm n d _ a o'.1) (Dps.l2 sm n ds _ r o'.2)
end
end
/-- == by data that are plain -/
def rEqP (K : PySem.W.Frag) : R2 := fun x y H Q => ∃ d e, L2.Dp K H x d ∧ L2.Dp K H y e ∧ d.plain = true ∧ e.plain = true ∧ d.depth ≤ 60 ∧ Q (.bl (PyData.eqv d e)) H
def rNeP (K : PySem.W.Frag) : R2 := fun x y H Q => ∃ d e, L2.Dp K H x d ∧ L2.Dp K H y e ∧ d.plain = true ∧ e.plain = true ∧ d.depth ≤ 60 ∧ Q (.bl (!PyData.eqv d e)) H
section
variable {X : Cx}
theorem op_eqP (hu : X.A.units + 64 < cLine) : OpR X (compareOp .Eq) (rEqP X.K) := by
  intro pins s σ H x y v u Q I rx ry h
  obtain ⟨d, e, hd, he, sd, se, dp, q⟩ := h
  obtain ⟨as_, r1⟩ := L2.Dp.reads I d x v hd rx
  obtain ⟨bs, r2⟩ := L2.Dp.reads I e y u he ry
  have h2 : min d.depth e.depth ≤ d.depth := Nat.min_le_left _ _
  exact SeqAt.eq_plain r1 r2 sd se (by omega) ⟨.bl _, H, I, rfl, q⟩
theorem op_neP (hu : X.A.units + 64 < cLine) : OpR X (compareOp .NotEq) (rNeP X.K) := by
  intro pins s σ H x y v u Q I rx ry h
  obtain ⟨d, e, hd, he, sd, se, dp, q⟩ := h
  obtain ⟨as_, r1⟩ := L2.Dp.reads I d x v hd rx
  obtain ⟨bs, r2⟩ := L2.Dp.reads I e y u he ry
  have h2 : min d.depth e.depth ≤ d.depth := Nat.min_le_left _ _
  exact SeqAt.ne_plain r1 r2 sd se (by omega) ⟨.bl _, H, I, rfl, q⟩
end
def gEq : D → D → (D → Prop) → Prop := fun d e P => okd 60 d = true ∧ okd 60 e = true ∧ P (.bl (deq d e))
def gNe : D → D → (D → Prop) → Prop := fun d e P => okd 60 d = true ∧ okd 60 e = true ∧ P (.bl (!deq d e))
section
variable {K : PySem.W.Frag}
theorem g_eq : GOp K (rEqP K) gEq := by
  intro G H x y d e P Q sm dx dy gp k
  obtain ⟨o1, o2, p⟩ := gp
  exact ⟨toP d, toP e, Dp.l2 sm 60 d x dx o1, Dp.l2 sm 60 e y dy o2, (plain_toP 60 d o1).1, (plain_toP 60 e o2).1, (plain_toP 60 d o1).2, k _ _ _ _ p (Grow.refl sm) (.bl _)⟩
theorem g_ne : GOp K (rNeP K) gNe := by
  intro G H x y d e P Q sm dx dy gp k
  obtain ⟨o1, o2, p⟩ := gp
  exact ⟨toP d, toP e, Dp.l2 sm 60 d x dx o1, Dp.l2 sm 60 e y dy o2, (plain_toP 60 d o1).1, (plain_toP 60 e o2).1, (plain_toP 60 d o1).2, k _ _ _ _ p (Grow.refl sm) (.bl _)⟩
end

/-! ### in -/
def rInP (K : PySem.W.Frag) (neg : Bool) : R2 := fun x y H Q => ∃ d es, L2.Dp K H x d ∧ (L2.Dp K H y (.list es) ∨ L2.Dp K H y (.tuple es)) ∧ d.plain = true ∧ PyData.plainAll es = true ∧ d.depth ≤ 60 ∧ Q (.bl (if neg then !(es.any fun z => PyData.eqv z d) else es.any fun z => PyData.eqv z d)) H
section
variable {X : Cx}
theorem op_ninP (hu : X.A.units + 64 < cLine) : OpR X (compareOp .NotIn) (rInP X.K true) := by
  intro pins s σ H x y v u Q I rx ry h
  obtain ⟨d, es, hd, he, sd, se, dp, q⟩ := h
  obtain ⟨as_, r1⟩ := L2.Dp.reads I d x v hd rx
  have h2 : min (PyData.depthAll es) d.depth ≤ d.depth := Nat.min_le_right _ _
  rcases he with he | he
  · obtain ⟨bs, r2⟩ := L2.Dp.reads I _ y u he ry
    exact SeqAt.notIn_list_data r2 r1 se sd (by omega) ⟨.bl _, H, I, rfl, q⟩
  · obtain ⟨bs, r2⟩ := L2.Dp.reads I _ y u he ry
    exact SeqAt.notIn_tuple_data r2 r1 se sd (by omega) ⟨.bl _, H, I, rfl, q⟩
end
/-- whether one of es is equal to d -/
def dmem (d : D) (es : List D) : Bool := es.any fun z => deq z d
def gIn (neg : Bool) : D → D → (D → Prop) → Prop
  | d, .tup es, P => okd 60 d = true ∧ okds 60 es = true ∧ P (.bl (if neg then !dmem d es else dmem d es))
  | d, .lst es, P => okd 60 d = true ∧ okds 60 es = true ∧ P (.bl (if neg then !dmem d es else dmem d es))
  | _, _, _ => False
theorem toPs_any (d : D) : ∀ es : List D, ((toPs es).any fun z => PyData.eqv z (toP d)) = dmem d es
  | [] => rfl
  | e :: es => by
    show (PyData.eqv (toP e) (toP d) || (toPs es).any _) = (deq e d || es.any _)
    rw [toPs_any d es]
    rfl
section
variable {K : PySem.W.Frag}
theorem g_in (neg : Bool) : GOp K (rInP K neg) (gIn neg) := by
  intro G H x y d e P Q sm dx dy gp k
  unfold gIn at gp
  split at gp
  · rename_i es
    obtain ⟨o1, o2, p⟩ := gp
    refine ⟨toP d, toPs es, Dp.l2 sm 60 d x dx o1, .inr (show L2.Dp K H y (toP (.tup es)) from Dp.l2 sm 61 _ y dy (by simpa [okd] using o2)), (plain_toP 60 d o1).1, (plain_toPs 60 es o2).1, (plain_toP 60 d o1).2, ?_⟩
    rw [toPs_any]
    exact k _ _ _ _ p (Grow.refl sm) (.bl _)
  · rename_i es
    obtain ⟨o1, o2, p⟩ := gp
    refine ⟨toP d, toPs es, Dp.l2 sm 60 d x dx o1, .inl (show L2.Dp K H y (toP (.lst es)) from Dp.l2 sm 61 _ y dy (by simpa [okd] using o2)), (plain_toP 60 d o1).1, (plain_toPs 60 es o2).1, (plain_toP 60 d o1).2, ?_⟩
    rw [toPs_any]
    exact k _ _ _ _ p (Grow.refl sm) (.bl _)
  · exact gp.elim
end
end DL
set_option Elab.async false
set_option linter.all false
set_option maxRecDepth 100000
set_option maxHeartbeats 4000000
set_option autoImplicit false
/-! The data level: subscripts, slices, calls. -/
namespace DL
open PySem PySem.Spec PyProof.Rows L2

/-! ### subscripts -/
def gIx : D → D → (D → Prop) → Prop
  | .tup xs, .int i, P => match atI xs i with
    | some d => P d
    | none => False
  | .lst xs, .int i, P => match atI xs i with
    | some d => P d
    | none => False
  | .scr ns, .int i, P => match atI ns i with
    | some n => P (.int n)
    | none => False
  | .str z, .int i, P => z.length ≤ sizeLine ∧ match atI z.cps.toList i with
    | some c => P (.str ⟨#[c]⟩)
    | none => False
  | _, _, _ => False
section
variable {K : PySem.W.Frag} {G H : Hp}
theorem Dps.atI {vs : List V} {ds : List D} {i : Int} {d : D} (h : Dps K G vs ds) (e : atI ds i = some d) : ∃ v, L2.atI vs i = some v ∧ Dp K G v d := by
  unfold L2.atI at e ⊢
  rw [← h.len] at e
  cases q : ixN vs.length i with
  | none =>
    rw [q] at e
    cases e
  | some j =>
    rw [q] at e
    exact h.get e
theorem atI_map {ns : List Int} {i n : Int} (e : atI ns i = some n) : atI (ns.map V.int) i = some (.int n) := by
  unfold L2.atI at e ⊢
  rw [List.length_map]
  cases q : ixN ns.length i with
  | none =>
    rw [q] at e
    cases e
  | some j =>
    rw [q] at e
    show (ns.map V.int)[j]? = _
    rw [List.getElem?_map, show ns[j]? = some n from e]
    rfl
theorem g_ix : GOp K (rIx K) gIx := by
  intro G H x y d e P Q sm dx dy gp k
  unfold gIx at gp
  split at gp
  · cases dy
    cases dx with
    | tup a l r =>
      split at gp
      · rename_i z hz
        obtain ⟨v, hv, dv⟩ := r.atI hz
        exact .inr (.inl ⟨_, _, _, v, rfl, rfl, same_t sm a, hv, k _ _ _ _ gp (Grow.refl sm) dv⟩)
      · exact gp.elim
  · cases dy
    cases dx with
    | lst a l r =>
      split at gp
      · rename_i z hz
        obtain ⟨v, hv, dv⟩ := r.atI hz
        exact .inl ⟨_, _, _, v, rfl, rfl, SqL.of (sm _ _ a), hv, k _ _ _ _ gp (Grow.refl sm) dv⟩
      · exact gp.elim
  · cases dy
    cases dx with
    | scr a =>
      split at gp
      · rename_i z hz
        exact .inl ⟨_, _, _, _, rfl, rfl, sm.seq a, atI_map hz, k _ _ _ _ gp (Grow.refl sm) (.int _)⟩
      · exact gp.elim
  · cases dy
    cases dx
    obtain ⟨lz, gp⟩ := gp
    split at gp
    · rename_i z hz
      exact .inr (.inr ⟨_, _, _, rfl, rfl, lz, hz, k _ _ _ _ gp (Grow.refl sm) (.str _)⟩)
    · exact gp.elim
  · exact gp.elim
end
section
variable {X : Cx} {W : WX}
theorem de_ix {a b : Expr} {fa fb : DE} {pos : Pos} (ha : PE X a (lE X.K W fa)) (hb : PE X b (lE X.K W fb)) (hs : PlainIx b := by exact fun _ _ => rfl) : PE X (.Subscript a b pos) (lE X.K W (dBin gIx fa fb)) :=
  pe_imp (pe_ix ix_seq ha hb hs) (bin_core g_ix)
end

/-! ### slices -/
abbrev DO := XP → Env → (Option Int → Env → Prop) → Prop
def lO (K : PySem.W.Frag) (W : WX) (f : DO) : TO := fun σ H Q => ∃ ρ G la P X, Re K G H la σ ρ ∧ f X ρ P ∧ (∀ b ρ' G' la' H', P b ρ' → Aft K G la σ ρ' G' la' H' → Q b H') ∧ XO K G la W X
def dNo : DO := fun _ ρ Q => Q none ρ
def dSo (f : DE) : DO := fun X ρ Q => f X ρ fun d ρ' => match d with
  | .int i => Q (some i) ρ'
  | _ => False
def cutL {α : Type} (xs : List α) (lo hi : Option Int) : List α := (xs.drop (HT.sIx xs.length 0 lo)).take (HT.sIx xs.length xs.length hi - HT.sIx xs.length 0 lo)
def gSl : D → Option Int → Option Int → (D → Prop) → Prop
  | .tup xs, lo, hi, P => P (.tup (cutL xs lo hi))
  | .lst xs, lo, hi, P => P (.lst (cutL xs lo hi))
  | .str z, lo, hi, P => z.length ≤ sizeLine ∧ P (.str (cutS z lo hi))
  | _, _, _, _ => False
def dSl (fe : DE) (fl fh : DO) : DE := fun X ρ Q => fe X ρ fun d ρ1 => fl X ρ1 fun lo ρ2 => fh X ρ2 fun hi ρ3 => gSl d lo hi fun z => Q z ρ3
section
variable {K : PySem.W.Frag} {G H : Hp}
theorem cut_dps {vs : List V} {ds : List D} (h : Dps K G vs ds) (lo hi : Option Int) : Dps K G (cutV vs lo hi) (cutL ds lo hi) := by
  unfold cutV cutL
  rw [h.len]
  exact (h.drop _).take _
theorem cut_all {α : Type} {xs : List α} {lo hi : Option Int} (h : HT.sIx xs.length 0 lo = 0 ∧ HT.sIx xs.length xs.length hi = xs.length) : cutL xs lo hi = xs := by
  unfold cutL
  rw [h.1, h.2, List.drop_zero, Nat.sub_zero, List.take_length]
end
section
variable {X : Cx} {W : WX}
theorem do_none : PO X none (lO X.K W dNo) := ⟨fun pins s σ H Q I h => (po_none (X := X)).run pins s σ H Q I (by
  obtain ⟨ρ, G, la, P, XX, r, f, q, _⟩ := h
  exact q _ _ _ _ _ f (Aft.refl r))⟩
theorem do_some {e : Expr} {f : DE} (h : PE X e (lE X.K W f)) : PO X (some e) (lO X.K W (dSo f)) := ⟨fun pins s σ H Q I hq => (po_some h).run pins s σ H Q I (by
  obtain ⟨ρ, G, la, P, XX, r, f, q, xo⟩ := hq
  exact ⟨ρ, G, la, _, XX, r, f, fun d ρ1 v G1 la1 H1 p1 a1 z1 => by
    cases d with
    | int i =>
      cases z1
      exact ⟨i, rfl, q _ _ _ _ _ (show P (some i) ρ1 from p1) a1⟩
    | _ => exact (show False from p1).elim, xo⟩)⟩
theorem de_sl {e : Expr} {lo hi : Option Expr} {fe : DE} {fl fh : DO} {p2 pos : Pos} (he : PE X e (lE X.K W fe)) (hl : PO X lo (lO X.K W fl)) (hh : PO X hi (lO X.K W fh)) : PE X (.Subscript e (.Slice lo hi none p2) pos) (lE X.K W (dSl fe fl fh)) :=
  pe_imp (pe_slice (sl_list.or (sl_tupA.or sl_str)) he hl hh) fun σ H Q ⟨ρ, G, la, P, XX, r, h, q, xo⟩ => ⟨ρ, G, la, _, XX, r, h, fun d ρ1 v G1 la1 H1 p1 a1 z1 => ⟨ρ1, G1, la1, _, XX, a1.r, p1, fun l ρ2 G2 la2 H2 p2 a2 => ⟨ρ2, G2, la2, _, XX, a2.r, p2, fun u ρ3 G3 la3 H3 p3 a3 => by
    have a4 := (a1.trans a2).trans a3
    have dz := (z1.up a2.g).up a3.g
    have sm := a3.r.ext
    have p3' : gSl d l u fun z => P z ρ3 := p3
    unfold gSl at p3'
    split at p3'
    · cases dz with
      | tup a lz rr =>
        refine .inr (.inl ⟨_, _, rfl, same_t sm a, fun w => ?_, fun w p hp => ?_⟩)
        · rw [rr.len] at w
          rw [cut_all w] at p3'
          exact q _ _ _ _ _ _ p3' a4 (.tup a lz rr)
        · exact q _ _ _ _ _ _ p3' (a4.grow (Grow.new sm hp)) (.tup (.inl (.inl upd_same)) (Nat.le_trans (cutV_length _ _ _) lz) ((cut_dps rr _ _).up (Grow.new sm hp).g))
    · cases dz with
      | lst a lz rr =>
        refine .inl ⟨_, _, rfl, SqL.of (sm _ _ a), fun p hp => ?_⟩
        exact q _ _ _ _ _ _ p3' (a4.grow (Grow.new sm hp)) (.lst upd_same (Nat.le_trans (cutV_length _ _ _) lz) ((cut_dps rr _ _).up (Grow.new sm hp).g))
    · cases dz
      exact .inr (.inr ⟨_, rfl, p3'.1, q _ _ _ _ _ _ p3'.2 a4 (.str _)⟩)
    · exact p3'.elim, xo.up (a1.trans a2).g (a1.trans a2).p⟩, xo.up a1.g a1.p⟩, xo⟩
end

/-! ### built-ins that are called -/
/-- r on values does what g does on data -/
def COp (K : PySem.W.Frag) (r : List V → Hp → VK → Prop) (g : List D → (D → Prop) → Prop) : Prop := ∀ (G H : Hp) (vs : List V) (ds : List D) (P : D → Prop) (Q : VK), Same G H → Dps K G vs ds → g ds P →
  (∀ z v G' H', P z → Grow G H G' H' → Dp K G' v z → Q v H') → r vs H Q
def dCB (g : List D → (D → Prop) → Prop) (fa : DA) : DE := fun X ρ Q => fa X ρ fun xs ρ' => match dats xs with
  | some ds => g ds fun z => Q z ρ'
  | none => False
section
variable {X : Cx} {W : WX} {e : Expr} {es : List Expr} {x : Str} {p pos : Pos} {r : List V → Hp → VK → Prop} {g : List D → (D → Prop) → Prop} {fa : DA}
theorem cb_core {K : PySem.W.Frag} {r : List V → Hp → VK → Prop} {g : List D → (D → Prop) → Prop} {fa : DA} (hg : COp K r g) : ∀ (σ : L2.St) (H : Hp) (Q : VK), lE K W (dCB g fa) σ H Q → tCB r (lA K W fa) σ H Q := fun σ H Q ⟨ρ, G, la, P, XX, re, h, q, xo⟩ =>
  ⟨ρ, G, la, _, XX, re, h, fun xs ρ1 vs G1 la1 H1 p1 a1 z1 => by
    have p1' : (match dats xs with
      | some ds => g ds fun z => P z ρ1
      | none => False) := p1
    split at p1'
    · rename_i ds hd
      exact hg G1 H1 vs ds _ Q a1.r.ext (dats_of z1 hd) p1' fun z w G' H' pz gr dz => q _ _ _ _ _ _ pz (a1.grow gr) dz
    · exact p1'.elim, xo⟩
theorem de_cb {id : String} (hc : CallR X (.builtin id) r) (hg : COp X.K r g) (hm : X.mg x = none) (hv : bootBuiltins x = some (.builtin id)) (ha : PA X (e :: es) (lA X.K W fa)) (hgl : Gl X x := by rfl) (hn : x ≠ "__name__" := by decide) (hdb : (x == ("__debug__" : Str)) = false := by decide)
    (he : starEach (e :: es) X.env = (false, eval e X.env) :: starEach es X.env := by rfl) (hpl : (backTo pos (starEach es X.env)).any (·.1) = false := by rfl) : PE X (.Call (.Name x p) (e :: es) [] pos) (lE X.K W (dCB g fa)) :=
  pe_imp (pe_callB hc hgl hm hv ha hn hdb he hpl) (cb_core hg)
theorem de_cty {T : String} (hc : CallR X (.type T) r) (hg : COp X.K r g) (hm : X.mg x = none) (hv : bootBuiltins x = some (.type T)) (ha : PA X (e :: es) (lA X.K W fa)) (hgl : Gl X x := by rfl) (hn : x ≠ "__name__" := by decide) (hdb : (x == ("__debug__" : Str)) = false := by decide)
    (he : starEach (e :: es) X.env = (false, eval e X.env) :: starEach es X.env := by rfl) (hpl : (backTo pos (starEach es X.env)).any (·.1) = false := by rfl) : PE X (.Call (.Name x p) (e :: es) [] pos) (lE X.K W (dCB g fa)) :=
  pe_imp (pe_callTy hc hgl hm hv ha hn hdb he hpl) (cb_core hg)
end
/-- len -/
def gLen : List D → (D → Prop) → Prop
  | [.tup xs], P => P (.int xs.length)
  | [.lst xs], P => P (.int xs.length)
  | [.scr ns], P => P (.int ns.length)
  | [.str z], P => z.length ≤ sizeLine ∧ P (.int z.length)
  | _, _ => False
def gAbs : List D → (D → Prop) → Prop
  | [.int i], P => P (.int (if i < 0 then -i else i))
  | _, _ => False
def gInt : List D → (D → Prop) → Prop
  | [.int i], P => P (.int i)
  | [.bl k], P => P (.int (if k then 1 else 0))
  | _, _ => False
def gMax2 : List D → (D → Prop) → Prop
  | [.int i, .int j], P => P (.int (if j > i then j else i))
  | _, _ => False
def gMin2 : List D → (D → Prop) → Prop
  | [.int i, .int j], P => P (.int (if j < i then j else i))
  | _, _ => False
def gTuple : List D → (D → Prop) → Prop
  | [.tup xs], P => P (.tup xs)
  | [.lst xs], P => P (.tup xs)
  | _, _ => False
def gList : List D → (D → Prop) → Prop
  | [.tup xs], P => P (.lst xs)
  | [.lst xs], P => P (.lst xs)
  | _, _ => False
/-- the ints of a list of data -/
def intsOf : List D → Option (List Int)
  | [] => some []
  | .int i :: r => (intsOf r).map (i :: ·)
  | _ :: _ => none
def maxOf : Int → List Int → Int
  | m, [] => m
  | m, x :: r => maxOf (if x > m then x else m) r
def minOf : Int → List Int → Int
  | m, [] => m
  | m, x :: r => minOf (if x < m then x else m) r
def gMax : List D → (D → Prop) → Prop
  | [.lst xs], P => match intsOf xs with
    | some (n :: ns) => P (.int (maxOf n ns))
    | _ => False
  | _, _ => False
def gMin : List D → (D → Prop) → Prop
  | [.lst xs], P => match intsOf xs with
    | some (n :: ns) => P (.int (minOf n ns))
    | _ => False
  | _, _ => False
/-- isinstance -/
def tyD : D → Option String
  | .non => some "NoneType"
  | .bl _ => some "bool"
  | .int _ => some "int"
  | .str _ => some "str"
  | .tup _ => some "tuple"
  | .lst _ => some "list"
  | _ => none
def isiD (t : String) (n : String) : Bool := t == n || (t == "bool" && n == "int")
def gIsi : List D → (D → Prop) → Prop
  | [d, .raw (.ty n)], P => match tyD d with
    | some t => (n = "int" ∨ n = "bool" ∨ n = "str" ∨ n = "tuple" ∨ n = "list") ∧ P (.bl (isiD t n))
    | none => False
  | _, _ => False
section
variable {K : PySem.W.Frag} {G H : Hp}
theorem intsOf_of : ∀ {vs : List V} {ds : List D} {ns : List Int}, Dps K G vs ds → intsOf ds = some ns → vs = ns.map V.int
  | _, _, _, .nil, h => by
    have e := Option.some.inj h
    subst e
    rfl
  | _, .int i :: r, _, .cons a s, h => by
    have h' : (intsOf r).map (i :: ·) = some _ := h
    obtain ⟨t, ht, e⟩ := Option.map_eq_some_iff.mp h'
    subst e
    cases a
    rw [intsOf_of s ht]
    rfl
  | _, .non :: _, _, .cons _ _, h => by cases h
  | _, .bl _ :: _, _, .cons _ _, h => by cases h
  | _, .str _ :: _, _, .cons _ _, h => by cases h
  | _, .raw _ :: _, _, .cons _ _, h => by cases h
  | _, .tup _ :: _, _, .cons _ _, h => by cases h
  | _, .lst _ :: _, _, .cons _ _, h => by cases h
  | _, .scr _ :: _, _, .cons _ _, h => by cases h
  | _, .fn _ :: _, _, .cons _ _, h => by cases h
  | _, .err _ _ :: _, _, .cons _ _, h => by cases h
theorem maxOf_ge : ∀ (ns : List Int) (m : Int), m ≤ maxOf m ns ∧ (∀ y ∈ ns, y ≤ maxOf m ns) ∧ (maxOf m ns = m ∨ maxOf m ns ∈ ns)
  | [], m => ⟨Int.le_refl _, fun _ h => by simp at h, .inl rfl⟩
  | x :: r, m => by
    obtain ⟨a, b, c⟩ := maxOf_ge r (if x > m then x else m)
    unfold maxOf
    have hx : x ≤ (if x > m then x else m) ∧ m ≤ (if x > m then x else m) := by split <;> omega
    refine ⟨Int.le_trans hx.2 a, fun y hy => ?_, ?_⟩
    · rcases List.mem_cons.mp hy with e | hy
      · rw [e]
        exact Int.le_trans hx.1 a
      · exact b y hy
    · rcases c with c | c
      · by_cases q : x > m
        · rw [if_pos q] at c
          rw [if_pos q, c]
          exact .inr List.mem_cons_self
        · rw [if_neg q] at c
          rw [if_neg q, c]
          exact .inl rfl
      · exact .inr (List.mem_cons_of_mem _ c)
theorem minOf_le : ∀ (ns : List Int) (m : Int), minOf m ns ≤ m ∧ (∀ y ∈ ns, minOf m ns ≤ y) ∧ (minOf m ns = m ∨ minOf m ns ∈ ns)
  | [], m => ⟨Int.le_refl _, fun _ h => by simp at h, .inl rfl⟩
  | x :: r, m => by
    obtain ⟨a, b, c⟩ := minOf_le r (if x < m then x else m)
    unfold minOf
    have hx : (if x < m then x else m) ≤ x ∧ (if x < m then x else m) ≤ m := by split <;> omega
    refine ⟨Int.le_trans a hx.2, fun y hy => ?_, ?_⟩
    · rcases List.mem_cons.mp hy with e | hy
      · rw [e]
        exact Int.le_trans a hx.1
      · exact b y hy
    · rcases c with c | c
      · by_cases q : x < m
        · rw [if_pos q] at c
          rw [if_pos q, c]
          exact .inr List.mem_cons_self
        · rw [if_neg q] at c
          rw [if_neg q, c]
          exact .inl rfl
      · exact .inr (List.mem_cons_of_mem _ c)
theorem one_of {vs : List V} {d : D} (h : Dps K G vs [d]) : ∃ v, vs = [v] ∧ Dp K G v d := by
  cases h with
  | cons a r =>
    cases r
    exact ⟨_, rfl, a⟩
theorem two_of {vs : List V} {d e : D} (h : Dps K G vs [d, e]) : ∃ v u, vs = [v, u] ∧ Dp K G v d ∧ Dp K G u e := by
  cases h with
  | cons a r =>
    obtain ⟨u, rfl, b⟩ := one_of r
    exact ⟨_, _, rfl, a, b⟩
theorem c_len : COp K (fun xs H Q => ∃ x n, xs = [x] ∧ LenV K x H n ∧ Q (.int n) H) gLen := by
  intro G H vs ds P Q sm h gp k
  unfold gLen at gp
  split at gp
  · obtain ⟨v, rfl, a⟩ := one_of h
    cases a with
    | tup a l r =>
      rw [← r.len] at gp
      exact ⟨_, _, rfl, .inr ⟨_, same_t sm a, rfl⟩, k _ _ _ _ gp (Grow.refl sm) (.int _)⟩
  · obtain ⟨v, rfl, a⟩ := one_of h
    cases a with
    | lst a l r =>
      rw [← r.len] at gp
      exact ⟨_, _, rfl, .inl ⟨_, SqL.of (sm _ _ a), rfl⟩, k _ _ _ _ gp (Grow.refl sm) (.int _)⟩
  · obtain ⟨v, rfl, a⟩ := one_of h
    cases a with
    | scr a =>
      refine ⟨_, _, rfl, .inl ⟨_, sm.seq a, rfl⟩, ?_⟩
      rw [List.length_map]
      exact k _ _ _ _ gp (Grow.refl sm) (.int _)
  · obtain ⟨v, rfl, a⟩ := one_of h
    cases a
    exact ⟨_, _, rfl, ⟨gp.1, rfl⟩, k _ _ _ _ gp.2 (Grow.refl sm) (.int _)⟩
  · exact gp.elim
theorem c_abs : COp K (fun xs H Q => ∃ i, xs = [.int i] ∧ Q (.int (if i < 0 then -i else i)) H) gAbs := by
  intro G H vs ds P Q sm h gp k
  unfold gAbs at gp
  split at gp
  · obtain ⟨v, rfl, a⟩ := one_of h
    cases a
    exact ⟨_, rfl, k _ _ _ _ gp (Grow.refl sm) (.int _)⟩
  · exact gp.elim
theorem c_int : COp K (fun xs H Q => (∃ i, xs = [.int i] ∧ Q (.int i) H) ∨ ∃ k, xs = [.bl k] ∧ Q (.int (if k then 1 else 0)) H) gInt := by
  intro G H vs ds P Q sm h gp k
  unfold gInt at gp
  split at gp
  · obtain ⟨v, rfl, a⟩ := one_of h
    cases a
    exact .inl ⟨_, rfl, k _ _ _ _ gp (Grow.refl sm) (.int _)⟩
  · obtain ⟨v, rfl, a⟩ := one_of h
    cases a
    exact .inr ⟨_, rfl, k _ _ _ _ gp (Grow.refl sm) (.int _)⟩
  · exact gp.elim
theorem c_max2 : COp K (fun xs H Q => ∃ i j, xs = [.int i, .int j] ∧ Q (.int (if j > i then j else i)) H) gMax2 := by
  intro G H vs ds P Q sm h gp k
  unfold gMax2 at gp
  split at gp
  · obtain ⟨v, u, rfl, a, b⟩ := two_of h
    cases a
    cases b
    exact ⟨_, _, rfl, k _ _ _ _ gp (Grow.refl sm) (.int _)⟩
  · exact gp.elim
theorem c_min2 : COp K (fun xs H Q => ∃ i j, xs = [.int i, .int j] ∧ Q (.int (if j < i then j else i)) H) gMin2 := by
  intro G H vs ds P Q sm h gp k
  unfold gMin2 at gp
  split at gp
  · obtain ⟨v, u, rfl, a, b⟩ := two_of h
    cases a
    cases b
    exact ⟨_, _, rfl, k _ _ _ _ gp (Grow.refl sm) (.int _)⟩
  · exact gp.elim
theorem c_tuple : COp K (fun xs H Q => ∃ p ys, xs = [.ref p] ∧ ((SqL K H p ys ∧ ∀ l, H l = none → Q (.ref l) (upd H l (.tup ys))) ∨ (SqT K H p ys ∧ Q (.ref p) H))) gTuple := by
  intro G H vs ds P Q sm h gp k
  unfold gTuple at gp
  split at gp
  · obtain ⟨v, rfl, a⟩ := one_of h
    cases a with
    | tup a l r => exact ⟨_, _, rfl, .inr ⟨same_t sm a, k _ _ _ _ gp (Grow.refl sm) (.tup a l r)⟩⟩
  · obtain ⟨v, rfl, a⟩ := one_of h
    cases a with
    | lst a l r =>
      refine ⟨_, _, rfl, .inl ⟨SqL.of (sm _ _ a), fun p hp => ?_⟩⟩
      exact k _ _ _ _ gp (Grow.new sm hp) (.tup (.inl (.inl upd_same)) l (r.up (Grow.new sm hp).g))
  · exact gp.elim
theorem c_max : COp K (rMax K) gMax := by
  intro G H vs ds P Q sm h gp k
  unfold gMax at gp
  split at gp
  · obtain ⟨v, rfl, a⟩ := one_of h
    split at gp
    · rename_i n ns hn
      cases a with
      | lst a l r =>
        have e := intsOf_of r hn
        subst e
        refine ⟨_, n :: ns, rfl, SqL.of (sm _ _ a), Nat.succ_pos _, fun m hm hle => ?_⟩
        obtain ⟨c1, c2, c3⟩ := maxOf_ge ns n
        have em : m = maxOf n ns := by
          have h1 : maxOf n ns ≤ m := by
            rcases c3 with c3 | c3
            · rw [c3]
              exact hle n List.mem_cons_self
            · exact hle _ (List.mem_cons_of_mem _ c3)
          have h2 : m ≤ maxOf n ns := by
            rcases List.mem_cons.mp hm with e | hm
            · rw [e]
              exact c1
            · exact c2 m hm
          omega
        rw [em]
        exact k _ _ _ _ gp (Grow.refl sm) (.int _)
    · exact gp.elim
  · exact gp.elim
theorem c_min : COp K (rMin K) gMin := by
  intro G H vs ds P Q sm h gp k
  unfold gMin at gp
  split at gp
  · obtain ⟨v, rfl, a⟩ := one_of h
    split at gp
    · rename_i n ns hn
      cases a with
      | lst a l r =>
        have e := intsOf_of r hn
        subst e
        refine ⟨_, n :: ns, rfl, SqL.of (sm _ _ a), Nat.succ_pos _, fun m hm hle => ?_⟩
        obtain ⟨c1, c2, c3⟩ := minOf_le ns n
        have em : m = minOf n ns := by
          have h1 : m ≤ minOf n ns := by
            rcases c3 with c3 | c3
            · rw [c3]
              exact hle n List.mem_cons_self
            · exact hle _ (List.mem_cons_of_mem _ c3)
          have h2 : minOf n ns ≤ m := by
            rcases List.mem_cons.mp hm with e | hm
            · rw [e]
              exact c1
            · exact c2 m hm
          omega
        rw [em]
        exact k _ _ _ _ gp (Grow.refl sm) (.int _)
    · exact gp.elim
  · exact gp.elim
theorem tyx_t {H : Hp} {p : Addr} {vs : List V} (h : SqT K H p vs) : TyX K H (.ref p) (.type "tuple") := by
  rcases h with (h | ⟨o, h⟩) | ⟨o, its, n, hk, hc, _⟩
  · exact .base (.tup h)
  · exact .fTuple h
  · exact .kTuple hk hc
theorem kit_isi {K : PySem.W.Frag} : ∀ {t n : String}, (t = "NoneType" ∨ t = "bool" ∨ t = "int" ∨ t = "str" ∨ t = "tuple" ∨ t = "list") → (n = "int" ∨ n = "bool" ∨ n = "str" ∨ n = "tuple" ∨ n = "list") → PySem.W.kitOne K (.type t) (.type n) = some (isiD t n) := by
  intro t n ht hn
  rcases ht with rfl | rfl | rfl | rfl | rfl | rfl <;> rcases hn with rfl | rfl | rfl | rfl | rfl <;> exact kit_ty (by decide +kernel)
theorem c_isi : COp K (rIsi K) gIsi := by
  intro G H vs ds P Q sm h gp k
  unfold gIsi at gp
  split at gp
  · rename_i d n
    obtain ⟨v, u, rfl, a, b⟩ := two_of h
    split at gp
    · rename_i t ht
      cases b
      have key : TyX K H v (.type t) ∧ (t = "NoneType" ∨ t = "bool" ∨ t = "int" ∨ t = "str" ∨ t = "tuple" ∨ t = "list") := by
        cases a with
        | non => have e := Option.some.inj ht; subst e; exact ⟨.base .non, by simp⟩
        | bl b => have e := Option.some.inj ht; subst e; exact ⟨.base (.bl b), by simp⟩
        | int i => have e := Option.some.inj ht; subst e; exact ⟨.base (.int i), by simp⟩
        | str z => have e := Option.some.inj ht; subst e; exact ⟨.base (.str z), by simp⟩
        | tup a l r => have e := Option.some.inj ht; subst e; exact ⟨tyx_t (same_t sm a), by simp⟩
        | lst a l r => have e := Option.some.inj ht; subst e; exact ⟨.base (.lst (sm _ _ a)), by simp⟩
        | raw _ => cases ht
        | scr _ => cases ht
        | fn _ => cases ht
        | err _ _ => cases ht
        | cl _ => cases ht
        | erf _ _ _ => cases ht
      exact ⟨v, .ty n, .type t, .type n, isiD t n, rfl, .ty n, key.1, kit_isi key.2 gp.1, k _ _ _ _ gp.2 (Grow.refl sm) (.bl _)⟩
    · exact gp.elim
  · exact gp.elim
end
section
variable {X : Cx} {W : WX} {e e2 : Expr} {p pos : Pos} {fa : DA}
theorem de_len (hm : X.mg "len" = none) (ha : PA X [e] (lA X.K W fa)) (hgl : Gl X "len" := by rfl) (he : starEach [e] X.env = (false, eval e X.env) :: starEach [] X.env := by rfl) : PE X (.Call (.Name "len" p) [e] [] pos) (lE X.K W (dCB gLen fa)) :=
  de_cb call_len c_len hm PySem.boot_len ha hgl (by decide) (by decide) he rfl
theorem de_ty {x : Str} {n : String} {pos : Pos} (hm : X.mg x = none) (hv : bootBuiltins x = some (.type n)) (hg : Gl X x := by rfl) (hn : x ≠ "__name__" := by decide) (hd : (x == ("__debug__" : Str)) = false := by decide) : PE X (.Name x pos) (lE X.K W (dC (.raw (.ty n)))) :=
  de_c (pe_bltn (v := .ty n) hg hm hv rfl hn hd) fun _ _ => .raw _
end
end DL
set_option Elab.async false
set_option linter.all false
set_option maxRecDepth 100000
set_option maxHeartbeats 4000000
set_option autoImplicit false
/-! The data level: targets, what is walked, comprehensions, statements, calls of defs. -/
namespace DL
open PySem PySem.Spec PyProof.Rows L2

/-! ### targets -/
/-- the slots agree but at is_ -/
def Eqw (is_ : List Nat) (σ σ' : L2.St) : Prop := σ.length = σ'.length ∧ ∀ j : Nat, j ∉ is_ → σ[j]? = σ'[j]?
theorem Eqw.refl (is_ : List Nat) (σ : L2.St) : Eqw is_ σ σ := ⟨rfl, fun _ _ => rfl⟩
theorem Eqw.trans {is_ js : List Nat} {σ σ1 σ2 : L2.St} (a : Eqw is_ σ σ1) (b : Eqw js σ1 σ2) : Eqw (is_ ++ js) σ σ2 :=
  ⟨a.1.trans b.1, fun j hj => (a.2 j fun z => hj (List.mem_append_left _ z)).trans (b.2 j fun z => hj (List.mem_append_right _ z))⟩
theorem wipe_get (σ : L2.St) : ∀ (vs : List Nat) (j : Nat), (wipe σ vs)[j]? = if j ∈ vs ∧ j < σ.length then some none else σ[j]?
  | [], j => by simp [wipe]
  | v :: vs, j => by
    unfold wipe
    rw [List.getElem?_set]
    have ih := wipe_get σ vs j
    by_cases h : v = j
    · subst h
      rw [wipe_length]
      by_cases hl : v < σ.length
      · simp [hl]
      · simp [hl]
    · rw [if_neg h, ih]
      by_cases hm : j ∈ vs ∧ j < σ.length
      · rw [if_pos hm, if_pos ⟨List.mem_cons_of_mem _ hm.1, hm.2⟩]
      · rw [if_neg hm, if_neg]
        rintro ⟨h1, h2⟩
        rcases List.mem_cons.mp h1 with e | h1
        · exact h e.symm
        · exact hm ⟨h1, h2⟩
theorem Eqw.wipe {is_ vs : List Nat} {σ σ' : L2.St} (a : Eqw is_ σ σ') (h : ∀ i ∈ is_, i ∈ vs) : L2.wipe σ' vs = L2.wipe σ vs := by
  apply List.ext_getElem?
  intro j
  rw [wipe_get, wipe_get, ← a.1]
  by_cases hm : j ∈ vs ∧ j < σ.length
  · rw [if_pos hm, if_pos hm]
  · rw [if_neg hm, if_neg hm]
    by_cases hj : j ∈ is_
    · have h1 : ¬ j < σ.length := fun z => hm ⟨h j hj, z⟩
      have h2 := a.1
      rw [List.getElem?_eq_none (by omega), List.getElem?_eq_none (by omega)]
    · exact (a.2 j hj).symm
def lG (K : PySem.W.Frag) (is_ : List Nat) (g : DG) : TG := fun v σ H Q => ∃ ρ G la d P, Re K G H la σ ρ ∧ Dp K G v d ∧ g d ρ P ∧ ∀ ρ' σ', P ρ' → Re K G H la σ' ρ' → Eqw is_ σ σ' → Q σ' H
abbrev DGs := List D → Env → (Env → Prop) → Prop
def lGs (K : PySem.W.Frag) (is_ : List Nat) (g : DGs) : TGs := fun vs σ H Q => ∃ ρ G la ds P, Re K G H la σ ρ ∧ Dps K G vs ds ∧ g ds ρ P ∧ ∀ ρ' σ', P ρ' → Re K G H la σ' ρ' → Eqw is_ σ σ' → Q σ' H
def gNm (i : Nat) : DG := fun d ρ Q => Q ⟨ρ.T, ρ.s.set i (some (.dat d))⟩
def gNl : DGs := fun ds ρ Q => match ds with
  | [] => Q ρ
  | _ => False
def gCs (t : DG) (u : DGs) : DGs := fun ds ρ Q => match ds with
  | d :: r => t d ρ fun ρ' => u r ρ' Q
  | _ => False
/-- (a, b, ..) = a tuple of so many -/
def gTp (n : Nat) (u : DGs) : DG := fun d ρ Q => match d with
  | .tup ds => ds.length = n ∧ u ds ρ Q
  | _ => False
theorem pg_imp {X : Cx} {e : Expr} {t t' : TG} (h : PG X e t) (w : ∀ v σ H Q, t' v σ H Q → t v σ H Q) : PG X e t' := ⟨fun pins s σ H v u Q I r q => h.run pins s σ H v u Q I r (w v σ H Q q)⟩
theorem pgs_imp {X : Cx} {es : List Expr} {t t' : TGs} (h : PGs X es t) (w : ∀ v σ H Q, t' v σ H Q → t v σ H Q) : PGs X es t' := ⟨fun pins s σ H v u Q I r q => h.run pins s σ H v u Q I r (w v σ H Q q)⟩
section
variable {X : Cx}
theorem dg_name (i : Nat) {x : Str} {pos : Pos} (hN : X.N.Nodup) (hi : X.N[i]? = some x := by rfl) (hx : Loc X.env.scope x := by first | exact Or.inl rfl | exact Or.inr rfl) (hf : X.fn x = true ∨ X.env.scope.names.lookup x = some .local := by first | exact .inl rfl | exact .inr rfl | assumption) :
    PG X (.Name x pos) (lG X.K [i] (gNm i)) := pg_imp (pg_name (i := i) hN hi hx hf) fun v σ H Q ⟨ρ, G, la, d, P, r, dp, g, q⟩ => q _ _ g (r.set (x := .dat d) dp) ⟨by simp, fun j hj => by
      have hj' : j ≠ i := by simpa using hj
      rw [List.getElem?_set_ne (Ne.symm hj')]⟩
theorem dgs_nil : PGs X [] (lGs X.K [] gNl) := pgs_imp pgs_nil fun v σ H Q ⟨ρ, G, la, ds, P, r, dp, g, q⟩ => by
  cases dp with
  | nil => exact ⟨rfl, q _ _ (show P ρ from g) r (Eqw.refl _ _)⟩
  | cons _ _ => exact (show False from g).elim
theorem dgs_cons {e : Expr} {es : List Expr} {t : DG} {u : DGs} {is_ js : List Nat} (h1 : PG X e (lG X.K is_ t)) (h2 : PGs X es (lGs X.K js u)) (hs : (assignEach (e :: es) X.env).map (·.2) = assign e X.env :: (assignEach es X.env).map (·.2) := by rfl) :
    PGs X (e :: es) (lGs X.K (is_ ++ js) (gCs t u)) := pgs_imp (pgs_cons h1 h2 hs) fun v σ H Q ⟨ρ, G, la, ds, P, r, dp, g, q⟩ => by
  cases dp with
  | nil => exact (show False from g).elim
  | cons a b =>
    refine ⟨_, _, rfl, ρ, G, la, _, _, r, a, g, fun ρ1 σ1 p1 r1 w1 => ⟨ρ1, G, la, _, P, r1, b, p1, fun ρ2 σ2 p2 r2 w2 => q ρ2 σ2 p2 r2 (w1.trans w2)⟩⟩
theorem dg_tup {es : List Expr} {k : Nat} {u : DGs} {n : Nat} {is_ : List Nat} {pos : Pos} (hc : X.calm = true) (h : PGs X es (lGs X.K is_ u)) (hn : (assignEach es X.env).length = n := by rfl) (hst : (assignEach es X.env).findIdx? (·.1) = none := by rfl) :
    PG X (.Tuple es k pos) (lG X.K is_ (gTp n u)) := pg_imp (pg_tup hc h hn hst) fun v σ H Q ⟨ρ, G, la, d, P, r, dp, g, q⟩ => by
  cases dp with
  | tup a l b =>
    have g' : _ ∧ u _ ρ P := g
    exact ⟨_, _, rfl, same_t r.ext a, by rw [b.len]; exact g'.1, ρ, G, la, _, P, r, b, g'.2, q⟩
  | _ => exact (show False from g).elim
end

/-! ### what is walked -/
/-- J gives the data ds, one a turn -/
structure WalkD (K : PySem.W.Frag) (J : It) (G : Hp) (ds : List D) : Prop where
  goes : ∀ (i : Nat) (H : Hp), i < ds.length → Same G H → J.go i H
  stops : ∀ H, Same G H → J.stop ds.length H
  yields : ∀ (i : Nat) (G' H : Hp) (x : V) (H' : Hp), Same G G' → Same G' H → J.yld i H x H' → ∀ d, ds[i]? = some d → ∃ G1, Grow G' H G1 H' ∧ Dp K G1 x d
def lI (K : PySem.W.Frag) (W : WX) (f : DI) : TI := fun σ H R => ∃ ρ G la P X, Re K G H la σ ρ ∧ f X ρ P ∧ (∀ ds ρ' G' la' H' J, P ds ρ' → Aft K G la σ ρ' G' la' H' → WalkD K J G' ds → ds.length ≤ 2 ^ 62 → R J H') ∧ XO K G la W X
theorem pi_imp {X : Cx} {tg e : Expr} {t t' : TI} (h : PI X tg e t) (w : ∀ σ H R, t' σ H R → t σ H R) : PI X tg e t' := ⟨fun pins s σ H R I q => h.run pins s σ H R I (w σ H R q)⟩
/-- a list or a tuple -/
def iSeq (K : PySem.W.Frag) (tl : TE) : TI := fun σ H R => tl σ H fun x H1 => ∃ a xs, x = .ref a ∧ ((SqL K H1 a xs ∧ R (Itl K a) H1) ∨ (SqT K H1 a xs ∧ R (Itt K a) H1))
theorem pi_seq {X : Cx} {tg l : Expr} {tl : TE} (hl : PE X l tl) : PI X tg l (iSeq X.K tl) := by
  constructor
  intro pins s σ H R I h
  refine thn (hl.run pins s σ H _ I h) ?_
  rintro v s1 ⟨x, H1, I1, r1, a, xs, rfl, q⟩
  cases r1
  have fp : ∀ b ∈ [s1.heap.objs.size], FpOk X pins H1 b := fun b hb => by
    obtain rfl : b = s1.heap.objs.size := by simpa using hb
    exact I1.fpOk (Nat.le_refl _) (I1.hok.fresh (Nat.le_refl _))
  rcases q with ⟨hq, q⟩ | ⟨hq, q⟩
  · obtain ⟨its, rv, p, hz⟩ := I1.list hq
    exact wpAny_pyIter_list p.isList ⟨_, [s1.heap.objs.size], _, _, H1, rfl, I1.kept (t' := s1.toks) fun b o e => Heap.get?_push_of_some _ e, turn_list a _, ⟨_, Heap.get?_push_size _ rfl, rfl, rfl⟩, fp, q⟩
  · obtain ⟨its, rv, p, hz⟩ := I1.tuple hq
    exact wpAny_pyIter_tuple (show s1.heap.IsTuple a its.toArray from p) ⟨_, [s1.heap.objs.size], _, _, H1, rfl, I1.kept (t' := s1.toks) fun b o e => Heap.get?_push_of_some _ e, turn_tuple a _, ⟨_, Heap.get?_push_size _ rfl, rfl, rfl⟩, fp, q⟩
def dSeq (f : DE) : DI := fun X ρ Q => f X ρ fun d ρ' => match d with
  | .tup ds => Q ds ρ'
  | .lst ds => Q ds ρ'
  | _ => False
theorem line62 : sizeLine ≤ 2 ^ 62 := by rw [sizeLine_eq]; decide
section
variable {K : PySem.W.Frag} {G H : Hp}
theorem walkD_l {p : Addr} {vs : List V} {ds : List D} (h : G p = some (.lst vs)) (d : Dps K G vs ds) : WalkD K (Itl K p) G ds := by
  refine ⟨fun i H hi e => ⟨vs, vs[i]'(by rw [d.len]; exact hi), SqL.of (e _ _ h), by simp [d.len, hi]⟩, fun H e => ⟨vs, SqL.of (e _ _ h), by rw [d.len]; exact Nat.le_refl _⟩, fun i G' H x H' e e' y z hz => ?_⟩
  obtain ⟨rfl, y⟩ := y
  have hx := y vs (SqL.of (e' _ _ (e _ _ h)))
  obtain ⟨d', hd, dd⟩ := d.getV hx
  rw [hz] at hd
  have q := Option.some.inj hd
  subst q
  exact ⟨G', Grow.refl e', dd.up e⟩
theorem walkD_t {p : Addr} {vs : List V} {ds : List D} (h : SqT K G p vs) (d : Dps K G vs ds) : WalkD K (Itt K p) G ds := by
  refine ⟨fun i H hi e => ⟨vs, vs[i]'(by rw [d.len]; exact hi), same_t e h, by simp [d.len, hi]⟩, fun H e => ⟨vs, same_t e h, by rw [d.len]; exact Nat.le_refl _⟩, fun i G' H x H' e e' y z hz => ?_⟩
  obtain ⟨rfl, y⟩ := y
  have hx := y vs (same_t (e.trans e') h)
  obtain ⟨d', hd, dd⟩ := d.getV hx
  rw [hz] at hd
  have q := Option.some.inj hd
  subst q
  exact ⟨G', Grow.refl e', dd.up e⟩
end
section
variable {X : Cx} {W : WX} {tg : Expr}
theorem di_seq {e : Expr} {f : DE} (h : PE X e (lE X.K W f)) : PI X tg e (lI X.K W (dSeq f)) :=
  pi_imp (pi_seq h) fun σ H R ⟨ρ, G, la, P, XX, r, h, q, xo⟩ => ⟨ρ, G, la, _, XX, r, h, fun d ρ1 v G1 la1 H1 p1 a1 z1 => by
    cases z1 with
    | tup a l b => exact ⟨_, _, rfl, .inr ⟨same_t a1.r.ext a, q _ _ _ _ _ _ (show P _ ρ1 from p1) a1 (walkD_t a b) (by rw [← b.len]; exact Nat.le_trans l line62)⟩⟩
    | lst a l b => exact ⟨_, _, rfl, .inl ⟨SqL.of (a1.r.ext _ _ a), q _ _ _ _ _ _ (show P _ ρ1 from p1) a1 (walkD_l a b) (by rw [← b.len]; exact Nat.le_trans l line62)⟩⟩
    | _ => exact (show False from p1).elim, xo⟩
/-- the ints from lo to hi - 1 -/
def rangeD (lo hi : Int) : List D := (List.range (hi - lo).toNat).map fun (k : Nat) => .int (lo + k)
theorem rangeD_len (lo hi : Int) : (rangeD lo hi).length = (hi - lo).toNat := by simp [rangeD]
theorem walkD_r {K : PySem.W.Frag} {G : Hp} (lo : Int) (n : Nat) : WalkD K (Itr lo n) G ((List.range n).map fun (k : Nat) => .int (lo + k)) := by
  refine ⟨fun i H hi _ => by show i < n; simpa using hi, fun H _ => by show n ≤ _; simp, fun i G' H x H' e e' y z hz => ?_⟩
  obtain ⟨rfl, rfl⟩ := y
  rw [List.getElem?_map] at hz
  cases q : (List.range n)[i]? with
  | none =>
    rw [q] at hz
    cases hz
  | some j =>
    rw [q] at hz
    have e1 : i = j := by
      have := List.getElem?_range (n := n) (i := i) (by
        obtain ⟨h1, _⟩ := List.getElem?_eq_some_iff.mp q
        simpa using h1)
      rw [q] at this
      exact (Option.some.inj this).symm
    subst e1
    have e2 : D.int (lo + i) = z := Option.some.inj hz
    subst e2
    exact ⟨G', Grow.refl e', .int _⟩
def dRng1 (fa : DA) : DI := fun X ρ Q => fa X ρ fun ss ρ' => match ss with
  | [.dat (.int j)] => (-(2 ^ 62) ≤ j ∧ j < 2 ^ 62) ∧ Q (rangeD 0 j) ρ'
  | _ => False
def dRng2 (fa : DA) : DI := fun X ρ Q => fa X ρ fun ss ρ' => match ss with
  | [.dat (.int i), .dat (.int j)] => (-(2 ^ 61) ≤ i ∧ i < 2 ^ 61 ∧ -(2 ^ 61) ≤ j ∧ j < 2 ^ 61) ∧ Q (rangeD i j) ρ'
  | _ => False
theorem di_range1 {a : Expr} {fa : DA} {p pos : Pos} (hm : X.mg "range" = none) (ha : PA X [a] (lA X.K W fa)) (hg : Gl X "range" := by rfl) (hs : starEach [a] X.env = [(false, eval a X.env)] := by rfl) : PI X tg (.Call (.Name "range" p) [a] [] pos) (lI X.K W (dRng1 fa)) :=
  pi_imp (pi_range1 hg hm ha hs) fun σ H R ⟨ρ, G, la, P, XX, r, h, q, xo⟩ => ⟨ρ, G, la, _, XX, r, h, fun xs ρ1 vs G1 la1 H1 p1 a1 z1 => by
    have p1' : (match (generalizing := false) xs with
      | [.dat (.int j)] => (-(2 ^ 62) ≤ j ∧ j < 2 ^ 62) ∧ P (rangeD 0 j) ρ1
      | _ => False) := p1
    split at p1'
    · rename_i j
      cases z1 with
      | cons a b =>
        cases b
        cases (show Dp _ _ _ (.int j) from a)
        refine ⟨j, rfl, p1'.1.1, p1'.1.2, q _ _ _ _ _ _ p1'.2 a1 ?_ (by rw [rangeD_len]; omega)⟩
        unfold rangeD
        rw [Int.sub_zero]
        exact walkD_r 0 j.toNat
    · exact p1'.elim, xo⟩
theorem di_range2 {a b : Expr} {fa : DA} {p pos : Pos} (hm : X.mg "range" = none) (ha : PA X [a, b] (lA X.K W fa)) (hg : Gl X "range" := by rfl) (hs : starEach [a, b] X.env = [(false, eval a X.env), (false, eval b X.env)] := by rfl) (hs2 : starEach [b] X.env = [(false, eval b X.env)] := by rfl) :
    PI X tg (.Call (.Name "range" p) [a, b] [] pos) (lI X.K W (dRng2 fa)) :=
  pi_imp (pi_range2 hg hm ha hs hs2) fun σ H R ⟨ρ, G, la, P, XX, r, h, q, xo⟩ => ⟨ρ, G, la, _, XX, r, h, fun xs ρ1 vs G1 la1 H1 p1 a1 z1 => by
    have p1' : (match (generalizing := false) xs with
      | [.dat (.int i), .dat (.int j)] => (-(2 ^ 61) ≤ i ∧ i < 2 ^ 61 ∧ -(2 ^ 61) ≤ j ∧ j < 2 ^ 61) ∧ P (rangeD i j) ρ1
      | _ => False) := p1
    split at p1'
    · rename_i i j
      cases z1 with
      | cons a b =>
        cases b with
        | cons b c =>
          cases c
          cases (show Dp _ _ _ (.int i) from a)
          cases (show Dp _ _ _ (.int j) from b)
          obtain ⟨⟨b1, b2, b3, b4⟩, p2⟩ := p1'
          refine ⟨i, j, rfl, ⟨by omega, by omega, by omega, by omega⟩, q _ _ _ _ _ _ p2 a1 (walkD_r i (j - i).toNat) (by rw [rangeD_len]; omega)⟩
    · exact p1'.elim, xo⟩
/-- zip of two lists, of two tuples -/
def zipD : List D → List D → List D
  | x :: xs, y :: ys => .tup [x, y] :: zipD xs ys
  | _, _ => []
theorem zipD_len : ∀ xs ys : List D, (zipD xs ys).length = min xs.length ys.length
  | [], _ => by simp [zipD]
  | _ :: _, [] => by simp [zipD]
  | _ :: xs, _ :: ys => by
    simp only [zipD, List.length_cons, zipD_len xs ys]
    omega
theorem zipD_get : ∀ (xs ys : List D) (i : Nat) (d : D), (zipD xs ys)[i]? = some d → ∃ x y, xs[i]? = some x ∧ ys[i]? = some y ∧ d = .tup [x, y]
  | [], _, i, d, h => by simp [zipD] at h
  | _ :: _, [], i, d, h => by simp [zipD] at h
  | x :: xs, y :: ys, 0, d, h => ⟨x, y, rfl, rfl, (Option.some.inj h).symm⟩
  | _ :: xs, _ :: ys, i + 1, d, h => zipD_get xs ys i d h
def dZip (fa : DA) : DI := fun X ρ Q => fa X ρ fun ss ρ' => match ss with
  | [.dat (.tup a), .dat (.tup b)] => Q (zipD a b) ρ'
  | [.dat (.lst a), .dat (.lst b)] => Q (zipD a b) ρ'
  | _ => False
theorem pair_dp {K : PySem.W.Frag} {G H : Hp} {T : Addr} {x y : V} {d e : D} (sm : Same G H) (hT : H T = none) (a : Dp K G x d) (b : Dp K G y e) : ∃ G1, Grow G H G1 (upd H T (.tup [x, y])) ∧ Dp K G1 (.ref T) (.tup [d, e]) :=
  ⟨_, Grow.new sm hT, .tup (.inl (.inl upd_same)) (by show 2 ≤ sizeLine; decide) (.cons (a.up (Grow.new sm hT).g) (.cons (b.up (Grow.new sm hT).g) .nil))⟩
theorem di_zip {e e2 : Expr} {fa : DA} {p pos tpos : Pos} {elts : List Expr} {kk : Nat} (hm : X.mg "zip" = none) (ha : PA X [e, e2] (lA X.K W fa)) (hg : Gl X "zip" := by rfl) (hs : starEach [e, e2] X.env = (false, eval e X.env) :: starEach [e2] X.env := by rfl) (hpl : (backTo pos (starEach [e2] X.env)).any (·.1) = false := by rfl) :
    PI X (.Tuple elts kk tpos) (.Call (.Name "zip" p) [e, e2] [] pos) (lI X.K W (dZip fa)) :=
  pi_imp (RZ.pi_zipA hg hm ha hs hpl) fun σ H R ⟨ρ, G, la, P, XX, r, h, q, xo⟩ => ⟨ρ, G, la, _, XX, r, h, fun xs ρ1 vs G1 la1 H1 p1 a1 z1 => by
    have p1' : (match (generalizing := false) xs with
      | [.dat (.tup a), .dat (.tup b)] => P (zipD a b) ρ1
      | [.dat (.lst a), .dat (.lst b)] => P (zipD a b) ρ1
      | _ => False) := p1
    split at p1'
    · rename_i da db
      cases z1 with
      | cons a b =>
        cases b with
        | cons b c =>
          cases c
          cases (show Dp _ _ _ (.tup da) from a) with
          | tup ha la_ ra =>
            cases (show Dp _ _ _ (.tup db) from b) with
            | tup hb lb rb =>
              rename_i pa va pb vb
              refine ⟨_, _, va, vb, rfl, .inr ⟨same_t a1.r.ext ha, same_t a1.r.ext hb, q _ _ _ _ _ _ p1' a1 ⟨fun i H hi e => ?_, fun H e => ?_, fun i G' H x H' e e' y z hz => ?_⟩ ?_⟩⟩
              · rw [zipD_len] at hi
                have h1 : i < va.length := by rw [ra.len]; omega
                have h2 : i < vb.length := by rw [rb.len]; omega
                exact ⟨va, vb, va[i], vb[i], same_t e ha, same_t e hb, by simp [h1], by simp [h2]⟩
              · refine ⟨va, vb, same_t e ha, same_t e hb, ?_⟩
                rw [zipD_len, ra.len, rb.len]
                omega
              · obtain ⟨T, u, w, rfl, hT, rfl, f1, f2⟩ := y
                obtain ⟨dx, dy, h1, h2, rfl⟩ := zipD_get _ _ _ _ hz
                obtain ⟨d1, g1, k1⟩ := ra.getV (f1 va (same_t (e.trans e') ha))
                obtain ⟨d2, g2, k2⟩ := rb.getV (f2 vb (same_t (e.trans e') hb))
                rw [h1] at g1
                rw [h2] at g2
                have q1 := Option.some.inj g1
                have q2 := Option.some.inj g2
                subst q1 q2
                exact pair_dp e' hT (k1.up e) (k2.up e)
              · rw [zipD_len, ← ra.len]
                exact Nat.le_trans (Nat.min_le_left _ _) (Nat.le_trans la_ line62)
    · rename_i da db
      cases z1 with
      | cons a b =>
        cases b with
        | cons b c =>
          cases c
          cases (show Dp _ _ _ (.lst da) from a) with
          | lst ha la_ ra =>
            cases (show Dp _ _ _ (.lst db) from b) with
            | lst hb lb rb =>
              rename_i pa va pb vb
              refine ⟨_, _, va, vb, rfl, .inl ⟨SqL.of (a1.r.ext _ _ ha), SqL.of (a1.r.ext _ _ hb), q _ _ _ _ _ _ p1' a1 ⟨fun i H hi e => ?_, fun H e => ?_, fun i G' H x H' e e' y z hz => ?_⟩ ?_⟩⟩
              · rw [zipD_len] at hi
                have h1 : i < va.length := by rw [ra.len]; omega
                have h2 : i < vb.length := by rw [rb.len]; omega
                exact ⟨va, vb, va[i], vb[i], SqL.of (e _ _ ha), SqL.of (e _ _ hb), by simp [h1], by simp [h2]⟩
              · refine ⟨va, vb, SqL.of (e _ _ ha), SqL.of (e _ _ hb), ?_⟩
                rw [zipD_len, ra.len, rb.len]
                omega
              · obtain ⟨T, u, w, rfl, hT, rfl, f1, f2⟩ := y
                obtain ⟨dx, dy, h1, h2, rfl⟩ := zipD_get _ _ _ _ hz
                obtain ⟨d1, g1, k1⟩ := ra.getV (f1 va (SqL.of (e' _ _ (e _ _ ha))))
                obtain ⟨d2, g2, k2⟩ := rb.getV (f2 vb (SqL.of (e' _ _ (e _ _ hb))))
                rw [h1] at g1
                rw [h2] at g2
                have q1 := Option.some.inj g1
                have q2 := Option.some.inj g2
                subst q1 q2
                exact pair_dp e' hT (k1.up e) (k2.up e)
              · rw [zipD_len, ← ra.len]
                exact Nat.le_trans (Nat.min_le_left _ _) (Nat.le_trans la_ line62)
    · exact p1'.elim, xo⟩
end
end DL
set_option Elab.async false
set_option linter.all false
set_option maxRecDepth 100000
set_option maxHeartbeats 4000000
set_option autoImplicit false
/-! The data level: comprehensions, statements, calls of defs, defs. -/
namespace DL
open PySem PySem.Spec PyProof.Rows L2

/-! ### comprehensions -/
def X0 : XP := fun _ _ => False
def W0 : WX := fun _ _ _ _ => False
def wipeS (s : List (Option Sl)) : List Nat → List (Option Sl)
  | [] => s
  | v :: vs => (wipeS s vs).set v none
/-- the turns of a comprehension; the list that is made stands in the table at k -/
def compD (g : DG) (t : DT) (e : DE) (own : List Nat) (k : Nat) : List D → Env → (Env → Prop) → Prop
  | [], ρ, Q => Q ρ
  | d :: ds, ρ, Q => g d ⟨ρ.T, wipeS ρ.s own⟩ fun ρ1 => t X0 ρ1 fun b ρ2 => if b = true then e X0 ρ2 fun y ρ3 => match ρ3.T[k]? with
      | some (.lst acc) => acc.length < sizeLine ∧ compD g t e own k ds ⟨ρ3.T.set k (.lst (acc ++ [y])), ρ3.s⟩ Q
      | _ => False
    else compD g t e own k ds ρ2 Q
def dYes : DT := fun _ ρ Q => Q true ρ
section
variable {K : PySem.W.Frag} {G G' G2 H H' H2 : Hp} {la la' la2 : List Addr} {σ σ' : L2.St} {ρ ρ' ρ2 : Env} {W : WX} {X : XP} {T : List Ob}
theorem wipeS_len (s : List (Option Sl)) : ∀ vs : List Nat, (wipeS s vs).length = s.length
  | [] => rfl
  | v :: vs => by
    unfold wipeS
    rw [List.length_set, wipeS_len s vs]
theorem wipeS_some {s : List (Option Sl)} {i : Nat} {x : Sl} : ∀ {vs : List Nat}, (wipeS s vs)[i]? = some (some x) → s[i]? = some (some x) ∧ i ∉ vs
  | [], h => ⟨h, by simp⟩
  | v :: vs, h => by
    unfold wipeS at h
    by_cases hi : v = i
    · subst hi
      rw [List.getElem?_set] at h
      split at h
      · split at h <;> cases h
      · rename_i n
        exact absurd rfl n
    · rw [List.getElem?_set_ne hi] at h
      obtain ⟨h1, h2⟩ := wipeS_some h
      exact ⟨h1, by simp only [List.mem_cons, not_or]; exact ⟨fun e => hi e.symm, h2⟩⟩
theorem wipe_keep {i : Nat} {v : V} : ∀ {vs : List Nat}, i ∉ vs → (L2.wipe σ vs)[i]? = σ[i]?
  | [], _ => rfl
  | w :: vs, h => by
    unfold L2.wipe
    have h1 : w ≠ i := fun e => h (by rw [e]; exact List.mem_cons_self)
    rw [List.getElem?_set_ne h1]
    exact wipe_keep (v := v) fun z => h (List.mem_cons_of_mem _ z)
/-- the own slots forgotten at both -/
theorem Re.wipe (r : Re K G H la σ ρ) (vs : List Nat) : Re K G H la (L2.wipe σ vs) ⟨ρ.T, wipeS ρ.s vs⟩ :=
  ⟨r.tb, by rw [L2.wipe_length]; exact (wipeS_len _ _).trans r.sl, fun i x h => by
    obtain ⟨h1, h2⟩ := wipeS_some h
    obtain ⟨v, a, b⟩ := r.at_ i x h1
    exact ⟨v, (wipe_keep (v := v) h2).trans a, b⟩⟩
/-- back in the outer slots -/
theorem Re.unwipe {σ : L2.St} {vs : List Nat} (r : Re K G H la (L2.wipe σ vs) ρ) : Re K G H la σ ⟨ρ.T, wipeS ρ.s vs⟩ :=
  ⟨r.tb, (wipeS_len _ _).trans (r.sl.trans (L2.wipe_length _ _)), fun i x h => by
    obtain ⟨h1, h2⟩ := wipeS_some h
    obtain ⟨v, a, b⟩ := r.at_ i x h1
    exact ⟨v, (wipe_keep (v := v) h2).symm.trans a, b⟩⟩
theorem Re.dropS (r : Re K G H la σ ρ) (vs : List Nat) : Re K G H la σ ⟨ρ.T, wipeS ρ.s vs⟩ :=
  ⟨r.tb, (wipeS_len _ _).trans r.sl, fun i x h => r.at_ i x (wipeS_some h).1⟩
theorem wipe_idem (σ : L2.St) (vs : List Nat) : L2.wipe (L2.wipe σ vs) vs = L2.wipe σ vs := by
  apply List.ext_getElem?
  intro j
  rw [wipe_get, wipe_get, wipe_length]
  by_cases hm : j ∈ vs ∧ j < σ.length
  · rw [if_pos hm, if_pos hm]
  · rw [if_neg hm, if_neg hm]
theorem Rl.take (r : Rl K G H la T) (n : Nat) : Rl K G H (la.take n) (T.take n) :=
  ⟨r.ext, r.nd.sublist (List.take_sublist _ _), by simp [r.len], (fun k a o h1 h2 => by
    rw [List.getElem?_take] at h1 h2
    split at h1
    · rename_i hk
      rw [if_pos hk] at h2
      exact r.tab k a o h1 h2
    · cases h1), (fun k a h => by
      rw [List.getElem?_take] at h
      split at h
      · exact r.there k a h
      · cases h), r.nt, r.tbl⟩
theorem pre_take (p : la <+: la') : la'.take la.length = la := by
  obtain ⟨t, rfl⟩ := p
  exact List.take_left
def lowSl (n : Nat) : Sl → Bool
  | .dat _ => true
  | .ob k => decide (k < n)
  | .clo _ _ la0 => la0.isEmpty
theorem SlR.take {v : V} {n : Nat} : ∀ {x : Sl}, SlR K G la v x → lowSl n x = true → SlR K G (la.take n) v x
  | .dat d, h, _ => h
  | .ob k, ⟨a, h, e⟩, hk => ⟨a, by
    have hk' : k < n := by simpa [lowSl] using hk
    rw [List.getElem?_take, if_pos hk']
    exact h, e⟩
  | .clo _ _ la0, ⟨e, sm, _⟩, hk => ⟨e, sm, by
    have : la0 = [] := by simpa [lowSl] using hk
    rw [this]
    exact List.nil_prefix⟩
/-- the list made so far is done: it is data, the table is what it was -/
theorem comp_done {acc : List D} {n : Nat} {a : Addr} (r : Re K G H la σ ρ) (hn : n < la.length) (ha : la[n]? = some a) (hk : ρ.T[n]? = some (.lst acc)) (hs : ∀ (i : Nat) (x : Sl), ρ.s[i]? = some (some x) → lowSl n x = true) :
    ∃ G', Same G G' ∧ Dp K G' (.ref a) (.lst acc) ∧ Re K G' H (la.take n) σ ⟨ρ.T.take n, ρ.s⟩ := by
  obtain ⟨vs, hH, gn, s1, dp, rl⟩ := r.tb.freeze ha hk
  refine ⟨_, s1, dp, ?_, r.sl, fun i x h => ?_⟩
  · have q := rl.take n
    have e : (ρ.T.set n .dead).take n = ρ.T.take n := by
      rw [List.take_set]
      exact List.set_eq_of_length_le (by rw [List.length_take]; omega)
    rw [e] at q
    exact q
  · obtain ⟨v, b, c⟩ := r.at_ i x h
    exact ⟨v, b, (c.grow s1 List.prefix_rfl).take (hs i x h)⟩
end

/-- own objects that stand in no slot from n on -/
def lowS (n : Nat) (s : List (Option Sl)) : Bool := s.all fun x => match x with
  | some (.ob k) => decide (k < n)
  | some (.clo _ _ la0) => la0.isEmpty
  | _ => true
def dComp (fi : DI) (g : DG) (t : DT) (e : DE) (own : List Nat) : DE := fun X ρ Q => fi X ρ fun ds ρ1 => compD g t e own ρ1.T.length ds ⟨ρ1.T ++ [.lst []], wipeS ρ1.s own⟩ fun ρ2 => match ρ2.T[ρ1.T.length]? with
  | some (.lst acc) => lowS ρ1.T.length (wipeS ρ2.s own) = true ∧ Q (.lst acc) ⟨ρ2.T.take ρ1.T.length, wipeS ρ2.s own⟩
  | _ => False
theorem lowS_at {n : Nat} {s : List (Option Sl)} (h : lowS n s = true) : ∀ (i : Nat) (x : Sl), s[i]? = some (some x) → lowSl n x = true := fun i x e => by
  have q := List.all_eq_true.mp h _ (List.mem_of_getElem? e)
  cases x <;> simpa [lowSl] using q
section
variable {X : Cx} {W : WX}
theorem comp_core {K : PySem.W.Frag} {fi : DI} {g : DG} {t : DT} {e : DE} {own is_ : List Nat} (hio : ∀ i ∈ is_, i ∈ own) : ∀ (σ : L2.St) (H : Hp) (Q : VK), lE K W (dComp fi g t e own) σ H Q → tLc (lI K W fi) (lG K is_ g) (lT K W0 t) (lE K W0 e) own σ H Q := fun σ H Q ⟨ρ, G, la, P, XX, re, h, q, xo⟩ =>
  ⟨ρ, G, la, _, XX, re, h, fun ds ρ1 G1 la1 H1 J p1 a1 wk lz Dn hD => by
    have l1 : la1.length = ρ1.T.length := a1.r.tb.len
    have fr := a1.r.tb.fresh (xs := []) (vs := []) hD (Nat.zero_le _) .nil
    let fin : Env → Prop := fun ρ2 => match ρ2.T[ρ1.T.length]? with
      | some (.lst acc) => lowS ρ1.T.length (wipeS ρ2.s own) = true ∧ P (.lst acc) ⟨ρ2.T.take ρ1.T.length, wipeS ρ2.s own⟩
      | _ => False
    have p1' : compD g t e own ρ1.T.length ds ⟨ρ1.T ++ [.lst []], wipeS ρ1.s own⟩ fin := p1
    -- the invariant
    let Wt : Nat → Nat → Hp → Prop := fun i m H2 => m + i = ds.length ∧ ∃ ρ2 G2 la2, Aft K G1 (la1 ++ [Dn]) (L2.wipe σ own) ρ2 G2 la2 H2 ∧ compD g t e own ρ1.T.length (ds.drop i) ρ2 fin
    have r0 : Re K G1 (upd H1 Dn (.lst [])) (la1 ++ [Dn]) (L2.wipe σ own) ⟨ρ1.T ++ [.lst []], wipeS ρ1.s own⟩ := by
      have rr : Re K G1 (upd H1 Dn (.lst [])) (la1 ++ [Dn]) σ ⟨ρ1.T ++ [.lst []], ρ1.s⟩ := ⟨fr, a1.r.sl, fun i x hx => by
        obtain ⟨v, b, c⟩ := a1.r.at_ i x hx
        exact ⟨v, b, c.grow (Same.refl _) (List.prefix_append _ _)⟩⟩
      exact rr.wipe own
    refine ⟨Wt, ⟨ds.length, by simp, ⟨ρ1.T ++ [.lst []], wipeS ρ1.s own⟩, G1, la1 ++ [Dn], Aft.refl r0, by simpa using p1'⟩, ?_⟩
    rintro i m H2 ⟨hm, ρ2, G2, la2, a2, c2⟩
    by_cases hi : i < ds.length
    · right
      have ed : ds.drop i = ds[i] :: ds.drop (i + 1) := List.drop_eq_getElem_cons hi
      rw [ed] at c2
      refine ⟨wk.goes i H2 hi (a2.g.trans a2.r.ext), fun H3 => ∃ ρ3 G3 la3, Aft K G1 (la1 ++ [Dn]) (L2.wipe σ own) ρ3 G3 la3 H3 ∧ compD g t e own ρ1.T.length (ds.drop (i + 1)) ρ3 fin, fun H3 ⟨ρ3, G3, la3, a3, c3⟩ => ⟨m - 1, by omega, by omega, ρ3, G3, la3, a3, c3⟩, fun x H3 y => ?_⟩
      obtain ⟨G3, gr, dx⟩ := wk.yields i G2 H2 x H3 a2.g a2.r.ext y ds[i] (List.getElem?_eq_getElem hi)
      have a3 := a2.grow gr
      refine ⟨_, G3, la2, ds[i], _, (a3.r.dropS own), dx, c2, fun ρ4 σ4 p4 r4 w4 => ⟨?_, ρ4, G3, la2, _, X0, r4, p4, fun b ρ5 G5 la5 H5 p5 a5 => ?_, fun _ _ _ _ _ _ _ _ z => z.elim⟩⟩
      · exact (w4.wipe hio).trans (wipe_idem _ _)
      · have wso : L2.wipe σ4 own = L2.wipe σ own := by
          exact (w4.wipe hio).trans (wipe_idem _ _)
        -- behind a turn: the own slots forgotten
        have back : ∀ {ρx : Env} {Gx : Hp} {lx : List Addr} {Hx : Hp}, Same G1 Gx → la1 ++ [Dn] <+: lx → Re K Gx Hx lx σ4 ρx → Aft K G1 (la1 ++ [Dn]) (L2.wipe σ own) ⟨ρx.T, wipeS ρx.s own⟩ Gx lx Hx := fun g1 g2 g3 => ⟨g1, g2, by
          have q := g3.wipe own
          rw [wso] at q
          exact q⟩
        have p5' : if b = true then e X0 ρ5 fun y ρ3 => match ρ3.T[ρ1.T.length]? with
            | some (.lst acc) => acc.length < sizeLine ∧ compD g t e own ρ1.T.length (ds.drop (i + 1)) ⟨ρ3.T.set ρ1.T.length (.lst (acc ++ [y])), ρ3.s⟩ fin
            | _ => False
          else compD g t e own ρ1.T.length (ds.drop (i + 1)) ρ5 fin := p5
        have cw : ∀ {ρx : Env}, compD g t e own ρ1.T.length (ds.drop (i + 1)) ρx fin → compD g t e own ρ1.T.length (ds.drop (i + 1)) ⟨ρx.T, wipeS ρx.s own⟩ fin := by
          intro ρx hx
          have ww : wipeS (wipeS ρx.s own) own = wipeS ρx.s own := by
            have idem : ∀ (s : List (Option Sl)) (vs : List Nat), (∀ v ∈ vs, v < s.length → s[v]? = some none) → wipeS s vs = s := by
              intro s vs
              induction vs with
              | nil => intro _; rfl
              | cons v vs ih =>
                intro hv
                unfold wipeS
                rw [ih fun u hu => hv u (List.mem_cons_of_mem _ hu)]
                apply List.ext_getElem?
                intro j
                rw [List.getElem?_set]
                split
                · rename_i hj
                  split
                  · rename_i hl
                    rw [← hj, hv v List.mem_cons_self hl]
                  · rename_i hl
                    rw [← hj, List.getElem?_eq_none (by omega)]
                · rfl
            have at_ : ∀ (s : List (Option Sl)) (vs : List Nat), ∀ v ∈ vs, v < s.length → (wipeS s vs)[v]? = some none := by
              intro s vs
              induction vs with
              | nil => intro v hv; simp at hv
              | cons u vs ih =>
                intro v hv hl
                unfold wipeS
                rw [List.getElem?_set]
                split
                · rw [if_pos (by rw [wipeS_len]; omega)]
                · rename_i hne
                  rcases List.mem_cons.mp hv with e | hv
                  · exact absurd e.symm hne
                  · exact ih v hv hl
            exact idem _ _ fun v hv hl => at_ _ _ v hv (by rwa [wipeS_len] at hl)
          cases hd : ds.drop (i + 1) with
          | nil =>
            rw [hd] at hx
            have hx' : fin ρx := hx
            show fin ⟨ρx.T, wipeS ρx.s own⟩
            show (match ρx.T[ρ1.T.length]? with
              | some (.lst acc) => lowS ρ1.T.length (wipeS (wipeS ρx.s own) own) = true ∧ P (.lst acc) ⟨ρx.T.take ρ1.T.length, wipeS (wipeS ρx.s own) own⟩
              | _ => False)
            rw [ww]
            exact hx'
          | cons d2 ds2 =>
            rw [hd] at hx
            show g d2 ⟨ρx.T, wipeS (wipeS ρx.s own) own⟩ _
            rw [ww]
            exact hx
        cases b with
        | false =>
          refine iteF ?_
          have p6 : compD g t e own ρ1.T.length (ds.drop (i + 1)) ρ5 fin := p5'
          exact ⟨⟨ρ5.T, wipeS ρ5.s own⟩, G5, la5, back ((a2.g.trans gr.g).trans a5.g) (a2.p.trans a5.p) a5.r, cw p6⟩
        | true =>
          refine iteT ?_
          have p6 : e X0 ρ5 fun y ρ3 => match ρ3.T[ρ1.T.length]? with
            | some (.lst acc) => acc.length < sizeLine ∧ compD g t e own ρ1.T.length (ds.drop (i + 1)) ⟨ρ3.T.set ρ1.T.length (.lst (acc ++ [y])), ρ3.s⟩ fin
            | _ => False := p5'
          refine ⟨ρ5, G5, la5, _, X0, a5.r, p6, fun y ρ7 v7 G7 la7 H7 p7 a7 z7 => ?_, fun _ _ _ _ _ _ _ _ z => z.elim⟩
          have p7' : (match (generalizing := false) ρ7.T[ρ1.T.length]? with
            | some (.lst acc) => acc.length < sizeLine ∧ compD g t e own ρ1.T.length (ds.drop (i + 1)) ⟨ρ7.T.set ρ1.T.length (.lst (acc ++ [y])), ρ7.s⟩ fin
            | _ => False) := p7
          split at p7'
          · rename_i acc hk
            have pp : la1 ++ [Dn] <+: la7 := (a2.p.trans a5.p).trans a7.p
            have hla : la7[ρ1.T.length]? = some Dn := by
              obtain ⟨tl, rfl⟩ := pp
              rw [List.append_assoc, List.getElem?_append_right (by omega), ← l1, Nat.sub_self]
              rfl
            obtain ⟨gn, vs, hH, lv, dv⟩ := a7.r.tb.tab _ _ _ hla hk
            refine ⟨vs, hH, by rw [dv.len]; exact p7'.1, ?_⟩
            have wr := a7.r.tb.write (ws := vs ++ [v7]) (ys := acc ++ [y]) hla hk (by rw [List.length_append, List.length_singleton, dv.len]; exact p7'.1) (dv.app (.cons z7 .nil))
            have r8 : Re K G7 (upd H7 Dn (.lst (vs ++ [v7]))) la7 σ4 ⟨ρ7.T.set ρ1.T.length (.lst (acc ++ [y])), ρ7.s⟩ := ⟨wr, a7.r.sl, a7.r.at_⟩
            exact ⟨⟨ρ7.T.set ρ1.T.length (.lst (acc ++ [y])), wipeS ρ7.s own⟩, G7, la7, back (ρx := ⟨ρ7.T.set ρ1.T.length (.lst (acc ++ [y])), ρ7.s⟩) (((a2.g.trans gr.g).trans a5.g).trans a7.g) pp r8, cw (ρx := ⟨ρ7.T.set ρ1.T.length (.lst (acc ++ [y])), ρ7.s⟩) p7'.2⟩
          · exact p7'.elim
    · left
      have ei : i = ds.length := by omega
      subst ei
      rw [List.drop_length] at c2
      have c3 : fin ρ2 := c2
      refine ⟨wk.stops H2 (a2.g.trans a2.r.ext), ?_⟩
      have c3' : (match (generalizing := false) ρ2.T[ρ1.T.length]? with
        | some (.lst acc) => lowS ρ1.T.length (wipeS ρ2.s own) = true ∧ P (.lst acc) ⟨ρ2.T.take ρ1.T.length, wipeS ρ2.s own⟩
        | _ => False) := c3
      split at c3'
      · rename_i acc hk
        have hla : la2[ρ1.T.length]? = some Dn := by
          obtain ⟨tl, e2⟩ := a2.p
          rw [← e2, List.append_assoc, List.getElem?_append_right (by omega), ← l1, Nat.sub_self]
          rfl
        have hlt : ρ1.T.length < la2.length := (List.getElem?_eq_some_iff.mp hla).1
        obtain ⟨G3, s3, d3, r3⟩ := comp_done (ρ := ⟨ρ2.T, wipeS ρ2.s own⟩) a2.r.unwipe hlt hla hk (lowS_at c3'.1)
        have et : la2.take ρ1.T.length = la1 := by
          rw [← l1]
          exact pre_take ((List.prefix_append _ _).trans a2.p)
        rw [et] at r3
        exact q _ _ _ _ _ _ c3'.2 ⟨(a1.g.trans a2.g).trans s3, a1.p, r3⟩ d3
      · exact c3'.elim, xo⟩
end
end DL
set_option Elab.async false
set_option linter.all false
set_option maxRecDepth 100000
set_option maxHeartbeats 4000000
set_option autoImplicit false
/-! The data level: statements, calls of defs, defs. -/
namespace DL
open PySem PySem.Spec PyProof.Rows L2

/-! ### comprehensions as expressions -/
section
variable {X : Cx} {W : WX}
theorem dts_nil : PTs X [] (lT X.K W dYes) := ⟨fun pins s σ H Q I h => (pts_nil (X := X)).run pins s σ H Q I (by
  obtain ⟨ρ, G, la, P, XX, r, f, q, _⟩ := h
  exact q _ _ _ _ _ f (Aft.refl r))⟩
theorem dts_one {c : Expr} {t : DT} (h : PT X c (lT X.K W t)) : PTs X [c] (lT X.K W t) := pts_one h
theorem takes0' {X : Cx} : Takes X W0 := takes0
theorem de_comp {elt tg iter : Expr} {ifs : List Expr} {scope : Scope} {own : List (Str × Nat)} {pos : Pos} {fi : DI} {g : DG} {t : DT} {e : DE} {is_ : List Nat} (hc : X.calm = true) (hN : X.N.Nodup) (hi : PI X tg iter (lI X.K W fi)) (ok : blkC X.N X.env.scope scope own = true)
    (hg : ∀ (s : Shared) (H : Hp) (C : Addr) (cl : List (Str × Addr)) (fp : List Addr), PG (X.blk s H scope (compEnvC scope cl C X.env) fp) tg (lG X.K is_ g)) (ht : ∀ (s : Shared) (H : Hp) (C : Addr) (cl : List (Str × Addr)) (fp : List Addr), PTs (X.blk s H scope (compEnvC scope cl C X.env) fp) ifs (lT X.K W0 t))
    (he : ∀ (s : Shared) (H : Hp) (C : Addr) (cl : List (Str × Addr)) (fp : List Addr), PE (X.blk s H scope (compEnvC scope cl C X.env) fp) elt (lE X.K W0 e)) (hio : ∀ i ∈ is_, i ∈ own.map (·.2) := by decide) (hs : ∀ x, foldedSetIterable iter X.env x = pure x := by intro _; rfl) :
    PE X (.ListComp elt [⟨tg, iter, ifs, 0⟩] scope pos) (lE X.K W (dComp fi g t e (own.map (·.2)))) :=
  pe_imp (pe_lc hc hN hi (blkOk_by ok) hg ht he hs) (comp_core hio)
end

theorem pre_at {α : Type} {l l' : List α} {i : Nat} {a : α} (p : l <+: l') (h : l[i]? = some a) : l'[i]? = some a := by
  obtain ⟨t, rfl⟩ := p
  rw [List.getElem?_append_left (List.getElem?_eq_some_iff.mp h).1]
  exact h
/-! ### statements -/
def sNil : DS := fun E ρ => E.nx ρ
def sSeq (a b : DS) : DS := fun E ρ => a { E with nx := b E } ρ
def sSet (i : Nat) (f : DL') : DS := fun E ρ => f E.xn ρ fun x ρ' => E.nx ⟨ρ'.T, ρ'.s.set i (some x)⟩
def sRet (f : DL') : DS := fun E ρ => f E.xn ρ E.rt
def sRetN : DS := fun E ρ => E.rt (.dat .non) ρ
def sDrop (f : DL') : DS := fun E ρ => f E.xn ρ fun _ ρ' => E.nx ρ'
def sIf (t : DT) (a b : DS) : DS := fun E ρ => t E.xn ρ fun c ρ' => if c = true then a E ρ' else b E ρ'
def loopD (g : DG) (B : DS) (E : DN) : List D → Env → Prop
  | [], ρ => E.nx ρ
  | d :: ds, ρ => g d ρ fun ρ' => B { E with nx := loopD g B E ds, ct := loopD g B E ds, bk := E.nx } ρ'
def sFor (fi : DI) (g : DG) (B : DS) : DS := fun E ρ => fi E.xn ρ fun ds ρ' => loopD g B E ds ρ'
def sWhile (t : DT) (B : DS) : DS := fun E ρ => ∃ V : Nat → Env → Prop, (∃ m, V m ρ) ∧ ∀ m ρ, V m ρ → t E.xn ρ fun b ρ' => if b = true then B { E with nx := fun ρ2 => ∃ m', m' < m ∧ V m' ρ2, ct := fun ρ2 => ∃ m', m' < m ∧ V m' ρ2, bk := E.nx } ρ' else E.nx ρ'
def sPar2 (i j : Nat) (f g : DL') : DS := fun E ρ => f E.xn ρ fun x ρ1 => g E.xn ρ1 fun y ρ2 => E.nx ⟨ρ2.T, (ρ2.s.set i (some x)).set j (some y)⟩
def sPar3 (i j l : Nat) (f g h : DL') : DS := fun E ρ => f E.xn ρ fun x ρ1 => g E.xn ρ1 fun y ρ2 => h E.xn ρ2 fun z ρ3 => E.nx ⟨ρ3.T, ((ρ3.s.set i (some x)).set j (some y)).set l (some z)⟩
def sTo (f : DE) (g : DG) : DS := fun E ρ => f E.xn ρ fun d ρ' => g d ρ' E.nx
/-- x.append(e), x a name -/
def sApp (i : Nat) (f : DE) : DS := fun E ρ => match ρ.s[i]? with
  | some (some (.ob k)) => match ρ.T[k]? with
    | some (.lst _) => f E.xn ρ fun d ρ' => match ρ'.T[k]? with
      | some (.lst xs) => xs.length < sizeLine ∧ E.nx ⟨ρ'.T.set k (.lst (xs ++ [d])), ρ'.s⟩
      | _ => False
    | _ => False
  | _ => False
/-- x[j] = e, x a name -/
def sSetIx (i : Nat) (fj fv : DE) : DS := fun E ρ => fv E.xn ρ fun d ρ1 => match ρ1.s[i]? with
  | some (some (.ob k)) => fj E.xn ρ1 fun z ρ2 => match z, ρ2.T[k]? with
    | .int j, some (.lst xs) => match ixN xs.length j with
      | some m => E.nx ⟨ρ2.T.set k (.lst (xs.set m d)), ρ2.s⟩
      | none => False
    | _, _ => False
  | _ => False
/-- x[j] of a list that may change, x a name -/
def dIxO (i : Nat) (fj : DE) : DE := fun X ρ Q => match ρ.s[i]? with
  | some (some (.ob k)) => fj X ρ fun z ρ' => match z, ρ'.T[k]? with
    | .int j, some (.lst xs) => match atI xs j with
      | some d => Q d ρ'
      | none => False
    | _, _ => False
  | _ => False
def dLenO (i : Nat) : DE := fun X ρ Q => match ρ.s[i]? with
  | some (some (.ob k)) => match ρ.T[k]? with
    | some (.lst xs) => Q (.int xs.length) ρ
    | _ => False
  | _ => False
def sNever : DS := fun _ _ => False

section
variable {X : Cx} {W : WX} {st : Stmt} {rest : List Stmt} {pos : Pos}
theorem dss_nil : PSs X [] (lS X.K W sNil) := pss_imp pss_nil fun D σ H ⟨ρ, G, la, E, r, f, b⟩ => b.nx _ _ _ _ _ f (Aft.refl r)
theorem dss_cons {f g : DS} (h1 : PS X st (lS X.K W f)) (h2 : PSs X rest (lS X.K W g)) : PSs X (st :: rest) (lS X.K W (sSeq f g)) := pss_imp (pss_cons h1 h2) fun D σ H ⟨ρ, G, la, E, r, f, b⟩ =>
  ⟨ρ, G, la, _, r, f, ⟨fun ρ' σ' G' la' H' p a => ⟨ρ', G', la', E, a.r, p, b.up a.g a.p⟩, b.bk, b.ct, b.rt, b.xn⟩⟩
theorem dss_one {f : DS} (h : PS X st (lS X.K W f)) : PSs X [st] (lS X.K W f) := pss_one h
theorem set_core {i : Nat} {f : DL'} : ∀ (D : Ends) (σ : L2.St) (H : Hp), lS X.K W (sSet i f) D σ H → tAsg (lL X.K W f) (gName i) D σ H := fun D σ H ⟨ρ, G, la, E, r, f, b⟩ =>
  ⟨ρ, G, la, _, _, r, f, fun x ρ' v G' la' H' p a z => b.nx _ _ _ _ _ p ⟨a.g, a.p, a.r.set z⟩, b.xn⟩
theorem ds_set (i : Nat) {x : Str} {e : Expr} {f : DL'} {pos' : Pos} (hN : X.N.Nodup) (he : PE X e (lL X.K W f)) (hi : X.N[i]? = some x := by rfl) (hx : Loc X.env.scope x := by first | exact Or.inl rfl | exact Or.inr rfl) (hs : swapsWith e (some (.Name x pos')) pos.line X.env = pure false := by rfl)
    (hf : X.fn x = true ∨ X.env.scope.names.lookup x = some .local := by first | exact .inl rfl | exact .inr rfl | assumption) : PS X (.Assign [.Name x pos'] e pos) (lS X.K W (sSet i f)) := ps_imp (ps_set hN hi hx he hs hf) set_core
theorem ds_setC (i : Nat) {y : Str} {py : Pos} {elt tg iter : Expr} {ifs : List Expr} {scope : Scope} {own : List (Str × Nat)} {pos spos : Pos} {fi : DI} {g : DG} {t : DT} {e : DE} {is_ : List Nat} (hc : X.calm = true) (hN : X.N.Nodup) (hi : PI X tg iter (lI X.K W fi)) (ok : blkC X.N X.env.scope scope own = true)
    (hg : ∀ (s : Shared) (H : Hp) (C : Addr) (cl : List (Str × Addr)) (fp : List Addr), PG (X.blk s H scope (compEnvC scope cl C X.env) fp) tg (lG X.K is_ g)) (ht : ∀ (s : Shared) (H : Hp) (C : Addr) (cl : List (Str × Addr)) (fp : List Addr), PTs (X.blk s H scope (compEnvC scope cl C X.env) fp) ifs (lT X.K W0 t))
    (he : ∀ (s : Shared) (H : Hp) (C : Addr) (cl : List (Str × Addr)) (fp : List Addr), PE (X.blk s H scope (compEnvC scope cl C X.env) fp) elt (lE X.K W0 e)) (hy : X.N[i]? = some y := by rfl) (hyl : X.env.scope.names.lookup y = some .local := by rfl)
    (hsw : swapsWith (.ListComp elt [⟨tg, iter, ifs, 0⟩] scope pos) (some (.Name y py)) spos.line X.env = pure true := by exact sw_true rfl rfl rfl (by decide +kernel)) (hio : ∀ i ∈ is_, i ∈ own.map (·.2) := by decide) (hs : ∀ x, foldedSetIterable iter X.env x = pure x := by intro _; rfl) :
    PS X (.Assign [.Name y py] (.ListComp elt [⟨tg, iter, ifs, 0⟩] scope pos) spos) (lS X.K W (sSet i (dDat (dComp fi g t e (own.map (·.2)))))) :=
  ps_imp (ps_setLc hc hN hy hyl hsw hi (blkOk_by ok) hg ht he hs) fun D σ H ⟨ρ, G, la, E, r, f, b⟩ => comp_core hio σ H _ ⟨ρ, G, la, fun d ρ' => E.nx ⟨ρ'.T, ρ'.s.set i (some (.dat d))⟩, _, r, f, fun d ρ' v G' la' H' p a z => b.nx _ _ _ _ _ p ⟨a.g, a.p, a.r.set (x := .dat d) z⟩, b.xn⟩
theorem ds_ret {e : Expr} {f : DL'} (he : PE X e (lL X.K W f)) : PS X (.Return (some e) pos) (lS X.K W (sRet f)) := ps_imp (ps_ret he) fun D σ H ⟨ρ, G, la, E, r, f, b⟩ => ⟨ρ, G, la, _, _, r, f, fun x ρ' v G' la' H' p a z => b.rt _ _ _ _ _ _ _ p a z, b.xn⟩
theorem ds_expr {e : Expr} {f : DL'} (he : PE X e (lL X.K W f)) (hs : swapsWith e none pos.line X.env = pure false := by rfl) : PS X (.Expr e pos) (lS X.K W (sDrop f)) := ps_imp (ps_expr he hs) fun D σ H ⟨ρ, G, la, E, r, f, b⟩ => ⟨ρ, G, la, _, _, r, f, fun x ρ' v G' la' H' p a z => b.nx _ _ _ _ _ p a, b.xn⟩
theorem ds_if {c : Expr} {a b : List Stmt} {t : DT} {f g : DS} (hc : PT X c (lT X.K W t)) (ha : PSs X a (lS X.K W f)) (hb : PSs X b (lS X.K W g)) : PS X (.If c a b pos) (lS X.K W (sIf t f g)) := ps_imp (ps_if hc ha hb) fun D σ H ⟨ρ, G, la, E, r, h, b⟩ =>
  ⟨ρ, G, la, _, _, r, h, fun c ρ' G' la' H' p a => by
    cases c with
    | true => exact iteT ⟨ρ', G', la', E, a.r, (show f E ρ' from p), b.up a.g a.p⟩
    | false => exact iteF ⟨ρ', G', la', E, a.r, (show g E ρ' from p), b.up a.g a.p⟩, b.xn⟩
theorem dss_never : PSs X rest (lS X.K W sNever) := pss_imp pss_never fun D σ H ⟨ρ, G, la, E, r, h, b⟩ => h
theorem ds_for {tg iter : Expr} {body : List Stmt} {fi : DI} {g : DG} {B : DS} {is_ : List Nat} (po : PassesOwn (model X.prog X.w) X.A X.env X.xe) (hc : X.calm = true) (hi : PI X tg iter (lI X.K W fi)) (hg : PG X tg (lG X.K is_ g)) (hb : PSs X body (lS X.K W B))
    (hs : ∀ x, foldedSetIterable iter X.env x = pure x := by intro _; rfl) : PS X (.For tg iter body [] pos) (lS X.K W (sFor fi g B)) := ps_imp (ps_for po hc hi hg hb hs) fun D σ H ⟨ρ, G, la, E, r, h, b⟩ =>
  ⟨ρ, G, la, _, _, r, h, fun ds ρ1 G1 la1 H1 J p1 a1 wk lz => by
    refine ⟨fun i m σ2 H2 => m + i = ds.length ∧ ∃ ρ2 G2 la2, Aft X.K G1 la1 σ2 ρ2 G2 la2 H2 ∧ loopD g B E (ds.drop i) ρ2, ⟨ds.length, by simp, ρ1, G1, la1, Aft.refl a1.r, by simpa using p1⟩, ?_⟩
    rintro i m σ2 H2 ⟨hm, ρ2, G2, la2, a2, c2⟩
    by_cases hi : i < ds.length
    · right
      have ed : ds.drop i = ds[i] :: ds.drop (i + 1) := List.drop_eq_getElem_cons hi
      rw [ed] at c2
      refine ⟨wk.goes i H2 hi (a2.g.trans a2.r.ext), fun σ3 H3 => ∃ ρ3 G3 la3, Aft X.K G1 la1 σ3 ρ3 G3 la3 H3 ∧ loopD g B E (ds.drop (i + 1)) ρ3, fun σ3 H3 ⟨ρ3, G3, la3, a3, c3⟩ => ⟨m - 1, by omega, by omega, ρ3, G3, la3, a3, c3⟩, fun x H3 y => ?_⟩
      obtain ⟨G3, gr, dx⟩ := wk.yields i G2 H2 x H3 a2.g a2.r.ext y ds[i] (List.getElem?_eq_getElem hi)
      have a3 := a2.grow gr
      refine ⟨ρ2, G3, la2, ds[i], _, a3.r, dx, c2, fun ρ4 σ4 p4 r4 _ => ⟨ρ4, G3, la2, _, r4, p4, ?_⟩⟩
      have b2 : Bk X.K G3 la2 W E D := b.up (a1.g.trans a3.g) (a1.p.trans a3.p)
      exact ⟨fun ρ5 σ5 G5 la5 H5 p5 a5 => ⟨ρ5, G5, la5, ⟨a3.g.trans a5.g, a3.p.trans a5.p, a5.r⟩, p5⟩, b2.nx, fun ρ5 σ5 G5 la5 H5 p5 a5 => ⟨ρ5, G5, la5, ⟨a3.g.trans a5.g, a3.p.trans a5.p, a5.r⟩, p5⟩, b2.rt, b2.xn⟩
    · left
      have ei : i = ds.length := by omega
      subst ei
      rw [List.drop_length] at c2
      exact ⟨wk.stops H2 (a2.g.trans a2.r.ext), b.nx ρ2 σ2 G2 la2 H2 c2 ⟨a1.g.trans a2.g, a1.p.trans a2.p, a2.r⟩⟩, b.xn⟩
theorem ds_while {c : Expr} {body : List Stmt} {t : DT} {B : DS} (po : PassesOwn (model X.prog X.w) X.A X.env X.xe) (hc : PT X c (lT X.K W t)) (hb : PSs X body (lS X.K W B)) : PS X (.While c body [] pos) (lS X.K W (sWhile t B)) := ps_imp (ps_while po hc hb) fun D σ H ⟨ρ, G, la, E, r, h, b⟩ => by
  obtain ⟨V, ⟨m0, v0⟩, turn⟩ := h
  refine ⟨fun m σ2 H2 => ∃ ρ2 G2 la2, Aft X.K G la σ2 ρ2 G2 la2 H2 ∧ V m ρ2, ⟨m0, ρ, G, la, Aft.refl r, v0⟩, ?_⟩
  rintro m σ2 H2 ⟨ρ2, G2, la2, a2, v2⟩
  have b2 := b.up a2.g a2.p
  refine ⟨ρ2, G2, la2, _, _, a2.r, turn m ρ2 v2, fun cc ρ3 G3 la3 H3 p3 a3 => ?_, b2.xn⟩
  have b3 := b2.up a3.g a3.p
  cases cc with
  | true =>
    refine iteT ⟨fun σ4 H4 => ∃ m', m' < m ∧ ∃ ρ4 G4 la4, Aft X.K G la σ4 ρ4 G4 la4 H4 ∧ V m' ρ4, fun σ4 H4 ⟨m', hm, z⟩ => ⟨m', hm, z⟩, ρ3, G3, la3, _, a3.r, p3, ?_⟩
    have next : ∀ (ρ' : Env) (σ' : L2.St) (G' : Hp) (la' : List Addr) (H' : Hp), (∃ m', m' < m ∧ V m' ρ') → Aft X.K G3 la3 σ' ρ' G' la' H' → ∃ m', m' < m ∧ ∃ ρ4 G4 la4, Aft X.K G la σ' ρ4 G4 la4 H' ∧ V m' ρ4 := fun ρ' σ' G' la' H' ⟨m', hm, hv⟩ a => ⟨m', hm, ρ', G', la', ⟨(a2.g.trans a3.g).trans a.g, (a2.p.trans a3.p).trans a.p, a.r⟩, hv⟩
    exact ⟨next, b3.nx, next, b3.rt, b3.xn⟩
  | false => exact iteF (b3.nx _ _ _ _ _ p3 (Aft.refl a3.r))
theorem ds_par2 (i j : Nat) {x y : Str} {a b : Expr} {f g : DL'} {px py pt : Pos} {kt k2 pt2} (hc : X.calm = true) (hN : X.N.Nodup) (ha : PA X [a, b] (lA X.K W (dCons f (dCons g dNil)))) (hw : swappedStores [.Tuple [.Name x px, .Name y py] kt pt] (.Tuple [a, b] k2 pt2) X.env = pure (some [x, y]) := by rfl)
    (hi : X.N[i]? = some x := by rfl) (hj : X.N[j]? = some y := by rfl) (hij : i ≠ j := by decide) (hx : X.env.scope.names.lookup x = some .local := by rfl) (hy : X.env.scope.names.lookup y = some .local := by rfl)
    (hs : swapsWithSole [.Tuple [.Name x px, .Name y py] kt pt] (.Tuple [a, b] k2 pt2) pos.line X.env = pure false := by rfl) : PS X (.Assign [.Tuple [.Name x px, .Name y py] kt pt] (.Tuple [a, b] k2 pt2) pos) (lS X.K W (sPar2 i j f g)) :=
  ps_imp (ps_par hc hN hi hj hij hx hy ha hw hs) fun D σ H ⟨ρ, G, la, E, r, h, b⟩ => ⟨ρ, G, la, fun xs ρ2 => ∃ u v, xs = [u, v] ∧ E.nx ⟨ρ2.T, (ρ2.s.set i (some u)).set j (some v)⟩, _, r, by
    show f E.xn ρ fun x ρ1 => g E.xn ρ1 fun y ρ2 => ∃ u v, [x, y] = [u, v] ∧ E.nx ⟨ρ2.T, (ρ2.s.set i (some u)).set j (some v)⟩
    have e : (fun (x : Sl) (ρ1 : Env) => g E.xn ρ1 fun y ρ2 => ∃ u v, [x, y] = [u, v] ∧ E.nx ⟨ρ2.T, (ρ2.s.set i (some u)).set j (some v)⟩) = fun x ρ1 => g E.xn ρ1 fun y ρ2 => E.nx ⟨ρ2.T, (ρ2.s.set i (some x)).set j (some y)⟩ := by
      funext x ρ1
      congr 1
      funext y ρ2
      apply propext
      constructor
      · rintro ⟨u, v, h1, h2⟩
        cases h1
        exact h2
      · intro h2
        exact ⟨x, y, rfl, h2⟩
    rw [e]
    exact h, fun xs ρ2 vs G2 la2 H2 p a z => by
    obtain ⟨u, v, rfl, p⟩ := p
    cases z with
    | cons z1 z =>
      cases z with
      | cons z2 z =>
        cases z
        exact ⟨_, _, rfl, b.nx _ _ _ _ _ p ⟨a.g, a.p, (a.r.set z1).set (ρ := ⟨ρ2.T, ρ2.s.set i (some u)⟩) z2⟩⟩, b.xn⟩
theorem ds_to {tg e : Expr} {f : DE} {g : DG} {is_ : List Nat} (he : PE X e (lE X.K W f)) (hg : PG X tg (lG X.K is_ g)) (hs : swapsWithSole [tg] e pos.line X.env = pure false := by rfl) (hw : swappedStores [tg] e X.env = pure none := by rfl)
    (h1 : (assignEach [tg] X.env).map (·.2) = [assign tg X.env] := by rfl) : PS X (.Assign [tg] e pos) (lS X.K W (sTo f g)) := ps_imp (ps_asg he hg hs hw h1) fun D σ H ⟨ρ, G, la, E, r, h, b⟩ =>
  ⟨ρ, G, la, _, _, r, h, fun d ρ' v G' la' H' p a z => ⟨ρ', G', la', d, _, a.r, z, p, fun ρ2 σ2 p2 r2 _ => b.nx _ _ _ _ _ p2 ⟨a.g, a.p, r2⟩⟩, b.xn⟩
theorem ds_app (i : Nat) {x : Str} {e : Expr} {f : DE} {p apos cpos : Pos} (he : PE X e (lE X.K W f)) (hN : X.N[i]? = some x := by rfl) (hv : Vis X.env.scope x := by first | exact Or.inl rfl | exact Or.inr (Or.inl rfl) | exact Or.inr (Or.inr rfl)) (hd : (x == ("__debug__" : Str)) = false := by decide)
    (hcd : (x == ("__classdict__" : Str)) = false := by decide) (hbase : attributeBase (.Name x p) "append" X.env (eval (.Name x p) X.env) = eval (.Name x p) X.env := by rfl)
    (hfew : ((backTo cpos (starEach [e] X.env)).all (fun x => !x.1) && (backToKw cpos (keywordEach [] X.env)).all (fun x => x.1.isSome) && decide ([e].length + ([] : List Keyword).length + (if ([] : List Keyword).isEmpty then 0 else 1) < 30)) = true := by rfl)
    (hline : (apos.endLine == cpos.line) = true := by rfl) (hs : starEach [e] X.env = (false, eval e X.env) :: starEach [] X.env := by rfl) (hsw : swapsWith (.Call (.Attribute (.Name x p) "append" apos) [e] [] cpos) none pos.line X.env = pure false := by rfl) :
    PS X (.Expr (.Call (.Attribute (.Name x p) "append" apos) [e] [] cpos) pos) (lS X.K W (sApp i f)) :=
  ps_imp (ps_expr (pe_bm (r := rAppend) PySem.F.plainAttrs_list PySem.F.slot_list_append PySem.F.type_list_append mt_append (pe_var (i := i) hN hv hd hcd) (pa_cons he pa_nil hs) hbase hfew hline hs rfl) hsw) fun D σ H ⟨ρ, G, la, E, r, h, b⟩ => by
    unfold sApp at h
    split at h
    · rename_i k hk
      obtain ⟨v, hv, a, ha, ev⟩ := r.at_ _ _ hk
      subst ev
      refine ⟨_, hv, ?_⟩
      split at h
      · rename_i xs hxs
        obtain ⟨gn, vs, hH, lv, dv⟩ := r.tb.tab k a _ ha hxs
        refine ⟨.inl ⟨rfl, _, SqL.of hH⟩, ρ, G, la, _, _, r, h, fun d ρ1 v1 G1 la1 H1 p1 a1 z1 => ?_, b.xn⟩
        have p1' : (match (generalizing := false) ρ1.T[k]? with
          | some (.lst xs) => xs.length < sizeLine ∧ E.nx ⟨ρ1.T.set k (.lst (xs ++ [d])), ρ1.s⟩
          | _ => False) := p1
        split at p1'
        · rename_i ys hys
          have ha1 := pre_at a1.p ha
          obtain ⟨gn1, ws, hH1, lw, dw⟩ := a1.r.tb.tab k a _ ha1 hys
          refine ⟨a, ws, v1, rfl, rfl, hH1, by rw [dw.len]; exact p1'.1, b.nx _ _ _ _ _ p1'.2 ⟨a1.g, a1.p, ⟨a1.r.tb.write ha1 hys (by rw [List.length_append, List.length_singleton, dw.len]; exact p1'.1) (dw.app (.cons z1 .nil)), a1.r.sl, a1.r.at_⟩⟩⟩
        · exact p1'.elim
      · exact h.elim
    · exact h.elim
theorem ds_setix (i : Nat) {x : Str} {e ej : Expr} {fj fv : DE} {p spos : Pos} (hv : PE X e (lE X.K W fv)) (hj : PE X ej (lE X.K W fj)) (hN : X.N[i]? = some x := by rfl) (hvis : Vis X.env.scope x := by first | exact Or.inl rfl | exact Or.inr (Or.inl rfl) | exact Or.inr (Or.inr rfl)) (hd : (x == ("__debug__" : Str)) = false := by decide)
    (hcd : (x == ("__classdict__" : Str)) = false := by decide) (ha : ∀ v, assign (.Subscript (.Name x p) ej spos) X.env v = (do
      let ov ← holding [v] (eval (.Name x p) X.env)
      let iv ← holding [v, ov] (eval ej X.env)
      standAt spos
      holding [v, ov, iv] (setItem ov iv v)
      release [v, ov, iv] []) := by intro _; rfl) (hs : swapsWithSole [.Subscript (.Name x p) ej spos] e pos.line X.env = pure false := by rfl) (hw : swappedStores [.Subscript (.Name x p) ej spos] e X.env = pure none := by rfl)
    (h1 : (assignEach [.Subscript (.Name x p) ej spos] X.env).map (·.2) = [assign (.Subscript (.Name x p) ej spos) X.env] := by rfl) : PS X (.Assign [.Subscript (.Name x p) ej spos] e pos) (lS X.K W (sSetIx i fj fv)) :=
  ps_imp (ps_asg hv (pg_sub (pe_var (i := i) hN hvis hd hcd) hj set_list ha) hs hw h1) fun D σ H ⟨ρ, G, la, E, r, h, b⟩ =>
  ⟨ρ, G, la, _, _, r, h, fun d ρ1 v G1 la1 H1 p1 a1 z1 => by
    have p1' : (match (generalizing := false) ρ1.s[i]? with
      | some (some (.ob k)) => fj E.xn ρ1 fun z ρ2 => match z, ρ2.T[k]? with
        | .int j, some (.lst xs) => match ixN xs.length j with
          | some m => E.nx ⟨ρ2.T.set k (.lst (xs.set m d)), ρ2.s⟩
          | none => False
        | _, _ => False
      | _ => False) := p1
    split at p1'
    · rename_i k hk
      obtain ⟨u, hu, a, hla, ev⟩ := a1.r.at_ _ _ hk
      subst ev
      refine ⟨_, hu, ρ1, G1, la1, _, _, a1.r, p1', fun z ρ2 w G2 la2 H2 p2 a2 z2 => ?_, b.xn.up a1.g a1.p⟩
      have p2' : (match (generalizing := false) z, ρ2.T[k]? with
        | .int j, some (.lst xs) => match ixN xs.length j with
          | some m => E.nx ⟨ρ2.T.set k (.lst (xs.set m d)), ρ2.s⟩
          | none => False
        | _, _ => False) := p2
      split at p2'
      · rename_i j xs hz
        cases z2
        split at p2'
        · rename_i m hm
          have ha2 := pre_at a2.p hla
          obtain ⟨gn1, ws, hH1, lw, dw⟩ := a2.r.tb.tab k a _ ha2 hz
          refine ⟨a, ws, j, m, rfl, rfl, hH1, by rw [dw.len]; exact hm, b.nx _ _ _ _ _ p2' ⟨a1.g.trans a2.g, a1.p.trans a2.p, ⟨a2.r.tb.write ha2 hz (by rw [List.length_set]; exact lw) (Dps.set (z1.up a2.g) m dw), a2.r.sl, a2.r.at_⟩⟩⟩
        · exact p2'.elim
      · exact p2'.elim
    · exact p1'.elim, b.xn⟩
theorem de_ixO (i : Nat) {x : Str} {ej : Expr} {fj : DE} {p : Pos} (hj : PE X ej (lE X.K W fj)) (hN : X.N[i]? = some x := by rfl) (hvis : Vis X.env.scope x := by first | exact Or.inl rfl | exact Or.inr (Or.inl rfl) | exact Or.inr (Or.inr rfl)) (hd : (x == ("__debug__" : Str)) = false := by decide)
    (hcd : (x == ("__classdict__" : Str)) = false := by decide) (hs : PlainIx ej := by exact fun _ _ => rfl) : PE X (.Subscript (.Name x p) ej pos) (lE X.K W (dIxO i fj)) :=
  pe_imp (pe_ix ix_list (pe_var (i := i) hN hvis hd hcd) hj hs) fun σ H Q ⟨ρ, G, la, P, XX, r, h, q, xo⟩ => by
    unfold dIxO at h
    split at h
    · rename_i k hk
      obtain ⟨v, hv, a, ha, ev⟩ := r.at_ _ _ hk
      subst ev
      refine ⟨_, hv, ρ, G, la, _, XX, r, h, fun z ρ2 w G2 la2 H2 p2 a2 z2 => ?_, xo⟩
      have p2' : (match (generalizing := false) z, ρ2.T[k]? with
        | .int j, some (.lst xs) => match atI xs j with
          | some d => P d ρ2
          | none => False
        | _, _ => False) := p2
      split at p2'
      · rename_i j xs hz
        cases z2
        split at p2'
        · rename_i d hd
          have ha2 := pre_at a2.p ha
          obtain ⟨gn1, ws, hH1, lw, dw⟩ := a2.r.tb.tab k a _ ha2 hz
          obtain ⟨v', hv', dv⟩ := dw.atI hd
          exact ⟨a, ws, j, v', rfl, rfl, SqL.of hH1, hv', q _ _ _ _ _ _ p2' a2 dv⟩
        · exact p2'.elim
      · exact p2'.elim
    · exact h.elim
theorem de_lenO (i : Nat) {x : Str} {p p2 : Pos} (hm : X.mg "len" = none) (hN : X.N[i]? = some x := by rfl) (hvis : Vis X.env.scope x := by first | exact Or.inl rfl | exact Or.inr (Or.inl rfl) | exact Or.inr (Or.inr rfl)) (hd : (x == ("__debug__" : Str)) = false := by decide)
    (hcd : (x == ("__classdict__" : Str)) = false := by decide) (hgl : Gl X "len" := by rfl) (he : starEach [.Name x p2] X.env = (false, eval (.Name x p2) X.env) :: starEach [] X.env := by rfl) : PE X (.Call (.Name "len" p) [.Name x p2] [] pos) (lE X.K W (dLenO i)) :=
  pe_imp (pe_callB call_len hgl hm PySem.boot_len (pa_cons (pe_var (i := i) hN hvis hd hcd) pa_nil he) (by decide) (by decide) he rfl) fun σ H Q ⟨ρ, G, la, P, XX, r, h, q, xo⟩ => by
    unfold dLenO at h
    split at h
    · rename_i k hk
      obtain ⟨v, hv, a, ha, ev⟩ := r.at_ _ _ hk
      subst ev
      split at h
      · rename_i xs hxs
        obtain ⟨gn, vs, hH, lv, dv⟩ := r.tb.tab k a _ ha hxs
        rw [← dv.len] at h
        exact ⟨_, hv, _, _, rfl, .inl ⟨_, SqL.of hH, rfl⟩, q _ _ _ _ _ _ h (Aft.refl r) (.int _)⟩
      · exact h.elim
    · exact h.elim
end

/-! ### calls of defs -/
abbrev DF := List Sl → List Ob → (Sl → List Ob → Prop) → (Xn → List Ob → Prop) → Prop
/-- a def's promise, by data: n arguments -/
def spD (K : PySem.W.Frag) (n : Nat) (F : DF) : Sp := fun vs H Q E => vs.length = n ∧ ∃ ss G la T P PX, Rl K G H la T ∧ SlsR K G la vs ss ∧ F ss T P PX ∧
  (∀ r T' v G' la' H', P r T' → Same G G' → la <+: la' → Rl K G' H' la' T' → SlR K G' la' v r → Q v H') ∧ (∀ x T' G' la' H' cls od, PX x T' → Same G G' → la <+: la' → Rl K G' H' la' T' → XR K G' H' x cls od → E cls od H')
def dCall (n : Nat) (F : DF) (fa : DA) : DL' := fun X ρ Q => fa X ρ fun ss ρ1 => ss.length = n ∧ F ss ρ1.T (fun r T' => Q r ⟨T', ρ1.s⟩) (fun x T' => X x ⟨T', ρ1.s⟩)
section
variable {X : Cx} {W : WX} {x : Str} {p pos : Pos} {e : Expr} {es : List Expr} {fa : DA} {k n : Nat} {f : Addr} {fd : FuncData} {ps : List Str} {F : DF}
theorem call_core {K : PySem.W.Frag} : ∀ (σ : L2.St) (H : Hp) (Q : VK), lL K W (dCall n F fa) σ H Q → tCallS (spD K n F) (WE W) (lA K W fa) σ H Q := fun σ H Q ⟨ρ, G, la, P, XX, r, h, q, xo⟩ =>
  ⟨ρ, G, la, _, XX, r, h, fun ss ρ1 vs G1 la1 H1 p1 a1 z1 => ⟨z1.len.trans p1.1, ss, G1, la1, ρ1.T, _, _, a1.r.tb, z1, p1.2, fun r2 T' v G' la' H' pr g pp rl sr => q _ _ _ _ _ _ pr ⟨a1.g.trans g, a1.p.trans pp, ⟨rl, a1.r.sl, fun i y hy => by
      obtain ⟨u, hu, ru⟩ := a1.r.at_ i y hy
      exact ⟨u, hu, ru.grow g pp⟩⟩⟩ sr, fun y T' G' la' H' cls od px g pp rl xr => xo y ⟨T', ρ1.s⟩ σ G' la' H' cls od px ⟨a1.g.trans g, a1.p.trans pp, ⟨rl, a1.r.sl, fun i y hy => by
      obtain ⟨u, hu, ru⟩ := a1.r.at_ i y hy
      exact ⟨u, hu, ru.grow g pp⟩⟩⟩ xr⟩, xo⟩
theorem dl_call (Fk : FnOk X.prog X.w X.K X.mg X.base (L2.CX X.prog X.w) k f fd ps (spD X.K n F)) (hr : Room k X.A) (hm : X.mg x = some (.ref f)) (hk : PySem.W.keepIn X.K (.ref f) = true) (hb : Binds X.K fd ps []) (tk : Takes X W) (ha : PA X (e :: es) (lA X.K W fa)) (hg : Gl X x := by rfl)
    (hdb : (x == ("__debug__" : Str)) = false := by decide) (he : starEach (e :: es) X.env = (false, eval e X.env) :: starEach es X.env := by rfl) (hpl : (backTo pos (starEach es X.env)).any (·.1) = false := by rfl) : PE X (.Call (.Name x p) (e :: es) [] pos) (lL X.K W (dCall n F fa)) :=
  pe_imp (pe_callS Fk hr hg hm hk hb (fun σ => passAt tk σ) ha hdb he hpl) call_core
end

/-! ### defs -/
def retD (n : Nat) (P : Sl → List Ob → Prop) : Sl → Env → Prop := fun x ρ => match x with
  | .dat d => P (.dat d) (ρ.T.take n)
  | .ob k => if k < n then P (.ob k) (ρ.T.take n) else match ρ.T[k]? with
    | some o => P (.ob n) (ρ.T.take n ++ [o])
    | none => False
  | .clo _ _ _ => False
def endsOf (n : Nat) (P : Sl → List Ob → Prop) (PX : Xn → List Ob → Prop) : DN := { nx := fun ρ => P (.dat .non) (ρ.T.take n), rt := retD n P, xn := fun x ρ => PX x (ρ.T.take n) }
def startD (m n : Nat) (ss : List Sl) (T : List Ob) : Env := ⟨T, ss.map some ++ List.replicate (m - n) none⟩
section
variable {P : Program} {w : World} {K : PySem.W.Frag} {mg : Str → Option Value} {base : Heap}
theorem start_re {G H : Hp} {la : List Addr} {T : List Ob} {vs : List V} {ss : List Sl} {m n : Nat} {N : List Str} (hm : m = N.length) (hn : n = ss.length) (rl : Rl K G H la T) (sr : SlsR K G la vs ss) : Re K G H la (L2.start N vs) (startD m n ss T) := by
  subst hm
  refine ⟨rl, ?_, fun i y hy => ?_⟩
  · show (ss.map some ++ List.replicate (N.length - n) none).length = (vs.map some ++ List.replicate (N.length - vs.length) none).length
    have e1 := sr.len
    simp only [List.length_append, List.length_map, List.length_replicate]
    omega
  · have hy' : (ss.map some ++ List.replicate (N.length - n) none)[i]? = some (some y) := hy
    by_cases hi : i < ss.length
    · rw [List.getElem?_append_left (by simpa using hi), List.getElem?_map] at hy'
      obtain ⟨z, hz, e⟩ := Option.map_eq_some_iff.mp hy'
      have e' := Option.some.inj e
      subst e'
      obtain ⟨v, hv, rv⟩ := sr.get hz
      refine ⟨v, ?_, rv⟩
      show (vs.map some ++ List.replicate (N.length - vs.length) none)[i]? = _
      rw [List.getElem?_append_left (by rw [List.length_map, sr.len]; exact hi), List.getElem?_map, hv]
      rfl
    · rw [List.getElem?_append_right (by simpa using hi), List.getElem?_replicate] at hy'
      split at hy' <;> cases hy'
theorem ends_bk {G : Hp} {la : List Addr} {T : List Ob} {Pd : Sl → List Ob → Prop} {PX : Xn → List Ob → Prop} {Q : VK} {E : XK} (lT : la.length = T.length)
    (q : ∀ r T' v G' la' H', Pd r T' → Same G G' → la <+: la' → Rl K G' H' la' T' → SlR K G' la' v r → Q v H') (qx : ∀ x T' G' la' H' cls od, PX x T' → Same G G' → la <+: la' → Rl K G' H' la' T' → XR K G' H' x cls od → E cls od H') :
    Bk K G la (fun cls d _ H => E cls d H) (endsOf T.length Pd PX) { nx := fun _ H' => Q .non H', rt := Q } := by
  have tr : ∀ {ρ' : Env} {σ' : L2.St} {G' : Hp} {la' : List Addr} {H' : Hp}, Aft K G la σ' ρ' G' la' H' → la'.take T.length = la ∧ Rl K G' H' la (ρ'.T.take T.length) := fun {ρ' σ' G' la' H'} a => by
    have e : la'.take T.length = la := by
      rw [← lT]
      exact pre_take a.p
    have z := a.r.tb.take T.length
    rw [e] at z
    exact ⟨e, z⟩
  refine ⟨fun ρ' σ' G' la' H' p a => ?_, fun ρ' σ' G' la' H' p a => p.elim, fun ρ' σ' G' la' H' p a => p.elim, fun y ρ' v σ' G' la' H' p a z => ?_, fun y ρ' σ' G' la' H' cls od p a xr => ?_⟩
  · exact q _ _ _ G' la H' p a.g List.prefix_rfl (tr a).2 (show Dp K G' .non .non from .non)
  · cases y with
    | dat d => exact q _ _ _ G' la H' p a.g List.prefix_rfl (tr a).2 z
    | clo _ _ _ => exact (show False from p).elim
    | ob j =>
      obtain ⟨b, hb, ev⟩ := z
      subst ev
      have p' : if j < T.length then Pd (.ob j) (ρ'.T.take T.length) else match ρ'.T[j]? with
        | some o => Pd (.ob T.length) (ρ'.T.take T.length ++ [o])
        | none => False := p
      by_cases hj : j < T.length
      · rw [if_pos hj] at p'
        refine q _ _ _ G' la H' p' a.g List.prefix_rfl (tr a).2 ⟨b, ?_, rfl⟩
        rw [← (tr a).1, List.getElem?_take, if_pos hj]
        exact hb
      · rw [if_neg hj] at p'
        split at p'
        · rename_i o ho
          obtain ⟨e1, r1⟩ := tr a
          have nb : b ∉ la := fun hm => by
            obtain ⟨i, hi, e2⟩ := List.getElem_of_mem hm
            have h1 : la'[i]? = some b := pre_at a.p (by rw [List.getElem?_eq_getElem hi, e2])
            obtain ⟨l1, x1⟩ := List.getElem?_eq_some_iff.mp h1
            obtain ⟨l2, x2⟩ := List.getElem?_eq_some_iff.mp hb
            have := (List.getElem_inj a.r.tb.nd).mp (x1.trans x2.symm)
            omega
          have lt2 : (ρ'.T.take T.length).length = T.length := by rw [← r1.len, lT]
          refine q _ _ _ G' (la ++ [b]) H' p' a.g (List.prefix_append _ _) ⟨r1.ext, ?_, by simp [lt2, lT], fun i c u h1 h2 => ?_, fun i c h1 => ?_, r1.nt, r1.tbl⟩ ⟨b, ?_, rfl⟩
          · rw [List.nodup_append]
            exact ⟨r1.nd, by simp, fun c hc d hd => by
              have e3 : d = b := by simpa using hd
              rw [e3]
              intro z
              exact nb (z ▸ hc)⟩
          · by_cases hi : i < la.length
            · rw [List.getElem?_append_left hi] at h1
              rw [List.getElem?_append_left (by omega)] at h2
              exact r1.tab i c u h1 h2
            · rw [List.getElem?_append_right (by omega)] at h1
              rw [List.getElem?_append_right (by omega), lt2, ← lT] at h2
              cases e4 : i - la.length with
              | zero =>
                rw [e4] at h1 h2
                have q1 := Option.some.inj h1
                have q2 := Option.some.inj h2
                subst q1 q2
                exact a.r.tb.tab j _ _ hb ho
              | succ m =>
                rw [e4] at h1
                simp at h1
          · by_cases hi : i < la.length
            · rw [List.getElem?_append_left hi] at h1
              exact r1.there i c h1
            · rw [List.getElem?_append_right (by omega)] at h1
              cases e4 : i - la.length with
              | zero =>
                rw [e4] at h1
                have q1 := Option.some.inj h1
                subst q1
                exact a.r.tb.there j _ hb
              | succ m =>
                rw [e4] at h1
                simp at h1
          · rw [← lT, List.getElem?_append_right (Nat.le_refl _)]
            simp
        · exact p'.elim
  · exact qx _ _ G' la H' cls od p a.g List.prefix_rfl (tr a).2 xr
theorem fn_D {x qual : Str} {st : Stmt} {f : Addr} {fd : FuncData} {N ps : List Str} {k n : Nat} {F : DF} {B : DS} (Fn : Fun K x qual st f fd) (S : FnScope N ps (defScope st)) (hn : ps.length = n)
    (hB : ∀ (cdv : Value) (A : Around) (outer : List PySem.Env) (s : Shared) (H : Hp) (E : XK), Room k (A.deeper (envOfC qual (defScope st) s.heap.objs.size f cdv)) →
      PSs (cxOf (L2.CX P w) P w K mg base N qual (defScope st) f cdv A outer s H E) (defBody st) (lS K (fun cls d _ H => E cls d H) B))
    (hF : ∀ (ss : List Sl) (T : List Ob) (Q : Sl → List Ob → Prop) (QX : Xn → List Ob → Prop), ss.length = n → F ss T Q QX → B (endsOf T.length Q QX) (startD N.length n ss T)) :
    FnOk P w K mg base (L2.CX P w) (k + 1) f fd ps (spD K n F) := by
  refine Fn.okX S (fun vs H Q E h => h.1.trans hn.symm) (fun cdv A outer s H vs Q E hr h => ⟨_, hB cdv A outer s H E hr, ?_⟩)
  obtain ⟨hl, ss, G, la, T, Pd, PX, rl, sr, fp, q, qx⟩ := h
  exact ⟨startD N.length n ss T, G, la, endsOf T.length Pd PX, start_re rfl (hl.symm.trans sr.len) rl sr, hF ss T Pd PX (sr.len.symm.trans hl) fp, ends_bk rl.len q qx⟩
end
end DL
set_option Elab.async false
set_option linter.all false
set_option maxRecDepth 100000
set_option maxHeartbeats 4000000
set_option autoImplicit false
/-! The data level: tuple * int of any size; enumerate of a tuple. -/
namespace DL
open PySem PySem.Spec PyProof.Rows L2

/-! ### tuple * int -/
theorem tmul_same (l : Addr) (items : Array Value) (n : Nat) (dd : Option Addr) (sl : Array (Option Value)) (x : Int) (u : Tok) (c0 : (decide (x < -(2 ^ 63)) || decide (x ≥ 2 ^ 63)) = false) (c1 : (items.isEmpty || x == 1) = true) :
    Meets (Builtin.«tuple.__mul__» ⟨[.ref l, .int x u], []⟩) (fun _ R s => s.heap.get? l = some { cls := .type "tuple", dict := dd, data := .seq items n, slots := sl } ∧ R (.ok (.ret (Value.ref l))) s) :=
  .of_wp fun prog w A R s h => by
    obtain ⟨hp, g, d, tk, os⟩ := s
    obtain ⟨hl, h⟩ := h
    have f1 := AutoSeq1.idx_int
    wp_walk using AutoSeq1.wpAny_loadPart' hl
    repeat (first
      | (refine wpAny_ite_false (decide_eq_false (by rw [c0]; exact Bool.false_ne_true)) ?_; wp_walk using AutoSeq1.wpAny_loadPart' hl)
      | (refine wpAny_ite_true (decide_eq_true c1) ?_; wp_walk using AutoSeq1.wpAny_loadPart' hl))
    exact ⟨_, rfl, h⟩
theorem tmul_none (l : Addr) (items : Array Value) (n : Nat) (dd : Option Addr) (sl : Array (Option Value)) (x : Int) (u : Tok) (c0 : (decide (x < -(2 ^ 63)) || decide (x ≥ 2 ^ 63)) = false) (c1 : (items.isEmpty || x == 1) = false) (c2 : (decide (x ≤ 0) || items.isEmpty) = true) :
    Meets (Builtin.«tuple.__mul__» ⟨[.ref l, .int x u], []⟩) (fun _ R s => s.heap.get? l = some { cls := .type "tuple", dict := dd, data := .seq items n, slots := sl } ∧
      R (.ok (.ret (Value.ref s.heap.objs.size))) { s with heap := s.heap.push { cls := Value.type "tuple", data := Data.seq #[] }, toks := s.toks }) :=
  .of_wp fun prog w A R s h => by
    obtain ⟨hp, g, d, tk, os⟩ := s
    obtain ⟨hl, h⟩ := h
    have f1 := AutoSeq1.idx_int
    wp_walk using AutoSeq1.wpAny_loadPart' hl
    repeat (first
      | (refine wpAny_ite_false (decide_eq_false (by rw [c0]; exact Bool.false_ne_true)) ?_; wp_walk using AutoSeq1.wpAny_loadPart' hl)
      | (refine wpAny_ite_false (decide_eq_false (by rw [c1]; exact Bool.false_ne_true)) ?_; wp_walk using AutoSeq1.wpAny_loadPart' hl)
      | (refine wpAny_ite_true (decide_eq_true c2) ?_; wp_walk using AutoSeq1.wpAny_loadPart' hl))
    exact ⟨_, rfl, h⟩
/-- t * k: k = 1 gives t itself, k ≤ 0 the empty one -/
def rRepA (K : PySem.W.Frag) : R2 := fun x y H Q => ∃ l k xs, x = .ref l ∧ y = .int k ∧ SqT K H l xs ∧ -1000 ≤ k ∧ k ≤ 1000 ∧ xs.length ≤ 1000 ∧ ((xs = [] ∨ k = 1) → Q (.ref l) H) ∧ (¬ (xs = [] ∨ k = 1) → ∀ p, H p = none → Q (.ref p) (upd H p (.tup (List.replicate k.toNat xs).flatten)))
section
variable {X : Cx}
theorem op_repA : OpR X (binaryOp .Mult) (rRepA X.K) := by
  intro pins s σ H x y v u Q I rx ry h
  obtain ⟨l, k, xs, rfl, rfl, hT, h0, h1, hz, q1, q2⟩ := h
  by_cases big : xs ≠ [] ∧ 2 ≤ k
  · exact op_repT pins s σ H _ _ v u Q I rx ry ⟨l, k, xs, rfl, rfl, hT, big.1, big.2, h1, hz, q2 fun z => z.elim big.1 fun e => by omega⟩
  cases rx
  obtain ⟨t, rfl⟩ := ry
  obtain ⟨its, r, ⟨⟨cls, dd, data, sl⟩, ho, hc, n, hd⟩, hs⟩ := I.tuple hT
  simp only at hc hd
  subst hc hd
  have nil_eq : its = [] ↔ xs = [] := r.nil_iff
  have c0 : (decide (k < -(2 ^ 63)) || decide (k ≥ 2 ^ 63)) = false := by
    rw [decide_eq_false (by omega), decide_eq_false (by omega)] <;> rfl
  have emp : its.toArray.isEmpty = decide (xs = []) := by
    cases its with
    | nil => rw [decide_eq_true (nil_eq.mp rfl)]; rfl
    | cons a b => rw [decide_eq_false fun z => nomatch nil_eq.mpr z]; rfl
  by_cases same : xs = [] ∨ k = 1
  · have c1 : (its.toArray.isEmpty || k == 1) = true := by
      rw [emp]
      rcases same with e | e
      · rw [decide_eq_true e, Bool.true_or]
      · rw [e]
        simp
    exact wpAny_binaryOp_repeat_ref (T := "tuple") (U := "int") (by decide) ⟨_, ho, rfl⟩ (fun s' => typeIs_int s' k t) noFill_tuple_mul F.fills_int_mul F.slot_int_rmul repeat_tuple F.slot_int_index.lookup
      (call_meets F.slot_int_rmul (typeIs_int s k t) F.entry_int_rmul (F.args_int_rmul_2 _ _) (int_rmul_tuple k t l its.toArray n dd sl)
        ⟨ho, rfl, ⟨_, ho, rfl⟩, call_meets F.slot_tuple_mul ⟨_, ho, rfl⟩ F.entry_tuple_mul (F.args_tuple_mul_2 _ _) (tmul_same l its.toArray n dd sl k t c0 c1) ⟨ho, ⟨.ref l, H, I, rfl, q1 same⟩⟩⟩)
  · have hk : k ≤ 0 := by
      have n1 : xs ≠ [] := fun e => same (.inl e)
      have n2 : ¬ 2 ≤ k := fun e => big ⟨n1, e⟩
      have n3 : k ≠ 1 := fun e => same (.inr e)
      omega
    have c1 : (its.toArray.isEmpty || k == 1) = false := by
      rw [emp, decide_eq_false fun e => same (.inl e), Bool.false_or]
      exact beq_eq_false_iff_ne.mpr fun e => same (.inr e)
    have c2 : (decide (k ≤ 0) || its.toArray.isEmpty) = true := by rw [decide_eq_true hk, Bool.true_or]
    have ek : (List.replicate k.toNat xs).flatten = [] := by
      rw [show k.toNat = 0 by omega]
      rfl
    rw [ek] at q2
    refine wpAny_binaryOp_repeat_ref (T := "tuple") (U := "int") (by decide) ⟨_, ho, rfl⟩ (fun s' => typeIs_int s' k t) noFill_tuple_mul F.fills_int_mul F.slot_int_rmul repeat_tuple F.slot_int_index.lookup
      (call_meets F.slot_int_rmul (typeIs_int s k t) F.entry_int_rmul (F.args_int_rmul_2 _ _) (int_rmul_tuple k t l its.toArray n dd sl)
        ⟨ho, rfl, ⟨_, ho, rfl⟩, call_meets F.slot_tuple_mul ⟨_, ho, rfl⟩ F.entry_tuple_mul (F.args_tuple_mul_2 _ _) (tmul_none l its.toArray n dd sl k t c0 c1 c2) ⟨ho, ?_⟩⟩)
    refine ⟨.ref s.heap.objs.size, _, I.laid (t' := s.toks) (o := .tup []) (fun b ob q => Heap.get?_push_of_some _ q) (Nat.le_refl _) ⟨Nat.zero_le _, [], .nil, IsTup.new _ _⟩, rfl, q2 same _ (I.hok.fresh (Nat.le_refl _))⟩
/-- * of ints, tuple * int -/
def rMulA (K : PySem.W.Frag) : R2 := fun x y H Q => rI CMulW (fun i j => .int (i * j)) x y H Q ∨ rRepA K x y H Q
theorem op_mulA : OpR X (binaryOp .Mult) (rMulA X.K) := op_mulW.or op_repA
end
def gMulA : D → D → (D → Prop) → Prop
  | .int i, .int j, P => CMulW i j ∧ P (.int (i * j))
  | .tup xs, .int k, P => (-1000 ≤ k ∧ k ≤ 1000 ∧ xs.length ≤ 1000) ∧ P (.tup (List.replicate k.toNat xs).flatten)
  | _, _, _ => False
theorem rep_len {xs : List V} {k : Int} (h1 : k ≤ 1000) (hz : xs.length ≤ 1000) : (List.replicate k.toNat xs).flatten.length ≤ sizeLine := by
  rw [PyProof.Rows.lm_len_rep_flat, sizeLine_eq]
  have a1 : k.toNat * xs.length ≤ 1000 * 1000 := Nat.mul_le_mul (by omega) hz
  omega
theorem g_mulA {K : PySem.W.Frag} : GOp K (rMulA K) gMulA := by
  intro G H x y d e P Q sm dx dy gp k
  unfold gMulA at gp
  split at gp
  · cases dx
    cases dy
    exact .inl ⟨_, _, rfl, rfl, gp.1, k _ _ _ _ gp.2 (Grow.refl sm) (.int _)⟩
  · cases dy
    cases dx with
    | tup a l r =>
      rename_i xs kk p vs
      obtain ⟨⟨b1, b2, b3⟩, p1⟩ := gp
      refine .inr ⟨_, kk, vs, rfl, rfl, same_t sm a, b1, b2, by rw [r.len]; exact b3, fun z => ?_, fun z q hq => ?_⟩
      · have e1 : (List.replicate kk.toNat xs).flatten = xs := by
          rcases z with z | z
          · rw [(nil_iff r).mp z]
            simp
          · rw [z]
            simp
        rw [e1] at p1
        exact k _ _ _ _ p1 (Grow.refl sm) (.tup a l r)
      · exact k _ _ _ _ p1 (Grow.new sm hq) (.tup (.inl (.inl upd_same)) (rep_len b2 (by rw [r.len]; exact b3)) ((r.rep _).up (Grow.new sm hq).g))
  · exact gp.elim

/-! ### enumerate of a tuple -/
section
variable {prog : Program} {w : World} {A : Around} {E : Value → Shared → Prop} {s : Shared}
theorem en_new (l : Addr) (items : Array Value) :
    Meets (Builtin.«enumerate.__new__» ⟨[.type "enumerate", .ref l], []⟩) (fun _ R s => s.heap.IsTuple l items ∧
      R (.ok (.ret (.ref (s.heap.push { cls := .type "tuple_iterator", data := .fields #[.ref l, .int 0 0] }).objs.size)))
        { s with heap := (s.heap.push { cls := .type "tuple_iterator", data := .fields #[.ref l, .int 0 0] }).push { cls := .type "enumerate", data := .fields #[.none, .bool false, .ref s.heap.objs.size, rawInt 0, .none, .none] } }) :=
  .of_wp fun prog w A R s h => by
    obtain ⟨hp, g, d, tk, os⟩ := s
    obtain ⟨hT, h⟩ := h
    have hsub := sub_enumerate
    have hL : Heap.IsTuple (Shared.heap ⟨hp, g, d, tk, os⟩) l items := hT
    wp_walk
    refine wpAny_stack_any fun st => wpAny_pure ?_
    split
    · rename_i c _ _ _ _ _
      cases (c == Value.type "enumerate") <;> (wp_walk using wpAny_pyIter_tuple hL; exact ⟨_, rfl, h⟩)
    · wp_walk using wpAny_pyIter_tuple hL
      exact ⟨_, rfl, h⟩
theorem en_call {l : Addr} {items : Array Value} {Q : Value → Shared → Prop} (hT : s.heap.IsTuple l items)
    (h : ∀ h', IsEnum h' (s.heap.objs.size + 1) s.heap.objs.size 0 .none → h'.IsTupleIter s.heap.objs.size l 0 → h'.objs.size = s.heap.objs.size + 2 → (∀ b o, s.heap.get? b = some o → h'.get? b = some o) → Q (.ref (s.heap.objs.size + 1)) { s with heap := h' }) :
    wpAny (model prog w) A (call (.type "enumerate") [.ref l]) Q E s := by
  refine callType_new F.called_enumerate (by decide) (F.typeCall_enumerate_1 _) (F.newCall_enumerate_1 _) (fun obj => F.args_object_init_2 obj _) F.entry_enumerate_new (en_new l items) ⟨hT, ?_⟩
  generalize e1 : s.heap.push { cls := .type "tuple_iterator", data := .fields #[.ref l, .int 0 0] } = h1
  have z1 : h1.objs.size = s.heap.objs.size + 1 := by rw [← e1]; exact Heap.size_push ..
  have g1 : h1.get? s.heap.objs.size = some { cls := .type "tuple_iterator", data := .fields #[.ref l, .int 0 0] } := by rw [← e1]; exact Heap.get?_push_size _ rfl
  have k1 : ∀ b o, s.heap.get? b = some o → h1.get? b = some o := fun b o x => by rw [← e1]; exact Heap.get?_push_of_some _ x
  have g2 : (h1.push { cls := .type "enumerate", data := .fields #[.none, .bool false, .ref s.heap.objs.size, rawInt 0, .none, .none] }).get? h1.objs.size = some _ := Heap.get?_push_size _ rfl
  rw [z1] at g2
  show _ ∧ _
  rw [z1]
  exact ⟨⟨_, g2, rfl⟩, h _ g2 ⟨_, Heap.get?_push_of_some _ g1, rfl, rfl⟩ (by rw [Heap.size_push, z1]) fun b o x => Heap.get?_push_of_some _ (k1 b o x)⟩
theorem en_item {e it l : Addr} {i : Nat} {items : Array Value} {x old : Value} {Q : Option Value → Shared → Prop} (he : IsEnum s.heap e it i old) (hit : s.heap.IsTupleIter it l i) (hl : s.heap.IsTuple l items) (hx : items[i]? = some x) (hne : e ≠ it)
    (hQ : ∀ h', IsEnumOut h' e it ((i : Int) + 1) x s.heap.objs.size → h'.IsTupleIter it l (i + 1) → h'.get? s.heap.objs.size = some { cls := .type "tuple", data := .seq #[.int i s.toks, x] } → h'.objs.size = s.heap.objs.size + 1 →
      (∀ b o, b ≠ e → b ≠ it → s.heap.get? b = some o → h'.get? b = some o) → Q (some (.ref s.heap.objs.size)) { s with heap := h', toks := s.toks + 1 }) :
    wpAny (model prog w) A (pyNext (.ref e)) Q E s := by
  have hT : s.TypeIs (.ref e) "enumerate" := ⟨_, he, rfl⟩
  have core : ∀ E' : Value → Shared → Prop, wpAny (model prog w) A.in1 (Builtin.«enumerate.__next__» ⟨[.ref e], []⟩) (fun fin s' => ∃ v, fin = .done (.ret v) ∧ Q (some v) s') E' s := by
    intro E'
    obtain ⟨hp, g, d, tk, os⟩ := s
    show wpAny _ _ (field (.ref e) 2 >>= _) _ _ _
    refine wpAny_bind (wpAny_field he rfl (x := .ref it) rfl ?_)
    refine wpAny_bind (RZ.nextOf_tuple_item hit hl hx fun m1 it1 b1 => ?_)
    have b1' : Heap.SameBut it hp m1 := b1
    have e1 : IsEnum m1 e it i old := (b1'.2 e hne).trans he
    show wpAny _ _ (field (.ref e) 3 >>= _) _ _ ⟨m1, g, d, tk, os⟩
    refine wpAny_bind (wpAny_field e1 rfl (x := rawInt i) rfl ?_)
    show wpAny _ _ (field (.ref e) 4 >>= _) _ _ ⟨m1, g, d, tk, os⟩
    refine wpAny_bind (wpAny_field e1 rfl (x := .none) rfl ?_)
    show wpAny _ _ (mkInt i >>= _) _ _ ⟨m1, g, d, tk, os⟩
    refine wpAny_bind (wpAny_mkInt ?_)
    show wpAny _ _ (setField (.ref e) 3 (rawInt ((i : Int) + 1)) >>= _) _ _ ⟨m1, g, d, tk + 1, os⟩
    refine wpAny_bind (wpAny_setField_rec e1 (by simp) fun m2 e2 b2 => ?_)
    have b2' : Heap.SameBut e m1 m2 := b2
    have e2' : IsEnum m2 e it ((i : Int) + 1) old := e2
    show wpAny _ _ (setField (.ref e) 4 .none >>= _) _ _ ⟨m2, g, d, tk + 1, os⟩
    refine wpAny_bind (wpAny_setField_rec e2' (by simp) fun m3 e3 b3 => ?_)
    have b3' : Heap.SameBut e m2 m3 := b3
    have e3' : IsEnum m3 e it ((i : Int) + 1) old := e3
    show wpAny _ _ (newTuple [.int i tk, x] >>= _) _ _ ⟨m3, g, d, tk + 1, os⟩
    refine wpAny_bind (wpAny_newTuple ?_)
    have sz3 : m3.objs.size = hp.objs.size := by rw [b3'.1, b2'.1, b1'.1]
    have elt : e < hp.objs.size := Heap.lt_size he
    have up3 : ∀ b o, b ≠ e → b ≠ it → hp.get? b = some o → m3.get? b = some o := fun b o n1 n2 q => b3'.extBut b o n1 (b2'.extBut b o n1 (b1'.extBut b o n2 q))
    have it3 : m3.IsTupleIter it l (i + 1) := (it1.extBut b2'.extBut (Ne.symm hne)).extBut b3'.extBut (Ne.symm hne)
    generalize q4 : m3.push { cls := .type "tuple", data := .seq #[.int i tk, x] } = m4
    have e4 : IsEnum m4 e it ((i : Int) + 1) old := by rw [← q4]; exact Heap.get?_push_of_some _ e3'
    have t4 : m4.get? hp.objs.size = some { cls := .type "tuple", data := .seq #[.int i tk, x] } := by rw [← q4, ← sz3]; exact Heap.get?_push_size _ rfl
    have sz4 : m4.objs.size = hp.objs.size + 1 := by rw [← q4, Heap.size_push, sz3]
    have up4 : ∀ b o, b ≠ e → b ≠ it → hp.get? b = some o → m4.get? b = some o := fun b o n1 n2 q => by rw [← q4]; exact Heap.get?_push_of_some _ (up3 b o n1 n2 q)
    have it4 : m4.IsTupleIter it l (i + 1) := by
      obtain ⟨o, ho, rr⟩ := it3
      exact ⟨o, by rw [← q4]; exact Heap.get?_push_of_some _ ho, rr⟩
    show wpAny _ _ (Builtin.SmallTypes.ownedTupleIsFree (.ref e) >>= _) _ _ ⟨m4, g, d, tk + 1, os⟩
    rw [sz3]
    refine wpAny_bind ?_
    unfold Builtin.SmallTypes.ownedTupleIsFree
    refine wpAny_bind (wpAny_field e4 rfl (x := .none) rfl (wpAny_pure ?_))
    simp only [if_true]
    refine wpAny_bind (wpAny_rule ?_)
    refine wpAny_bind (wpAny_field e4 rfl (x := old) rfl ?_)
    refine wpAny_bind (wpAny_setField_rec e4 (by simp) fun m5 e5 b5 => ?_)
    have b5' : Heap.SameBut e m4 m5 := b5
    have e5' : IsEnum m5 e it ((i : Int) + 1) x := e5
    show wpAny _ _ (Builtin.SmallTypes.ownedTupleHandOut (.ref e) (.ref hp.objs.size) >>= _) _ _ ⟨m5, g, d, tk + 1, os⟩
    refine wpAny_bind ?_
    unfold Builtin.SmallTypes.ownedTupleHandOut
    refine wpAny_bind (wpAny_setField_rec e5' (by simp) fun m6 e6 b6 => ?_)
    have b6' : Heap.SameBut e m5 m6 := b6
    have e6' : IsEnumOut m6 e it ((i : Int) + 1) x hp.objs.size := e6
    refine wpAny_setField_rec e6' (by simp) fun m7 e7 b7 => ?_
    have b7' : Heap.SameBut e m6 m7 := b7
    have e7' : IsEnumOut m7 e it ((i : Int) + 1) x hp.objs.size := e7
    have up7 : ∀ b o, b ≠ e → m4.get? b = some o → m7.get? b = some o := fun b o n q => b7'.extBut b o n (b6'.extBut b o n (b5'.extBut b o n q))
    refine wpAny_bind (wpAny_letGo (wpAny_pure ⟨_, rfl, hQ m7 e7' (it4.at fun o q => up7 it o (Ne.symm hne) q) (up7 _ _ (Nat.ne_of_gt elt) t4) (by rw [b7'.1, b6'.1, b5'.1, sz4]) fun b o n1 n2 q => up7 b o n1 (up4 b o n1 n2 q)⟩))
  unfold pyNext
  refine wpAny_bind (wpAny_attempt (wpAny_callSpecial?_slot (name := Str.ofString "__next__") hT F.slot_enumerate_next (wpAny_call_entry F.slot_enumerate_next hT F.entry_enumerate_next ?_ (F.args_enumerate_next_1 _))))
  exact wpAny_mono (core _) (fun fin s' ⟨v, e1, q⟩ => ⟨v, e1, wpAny_pure q⟩) fun _ _ z => z
theorem en_end {e it l : Addr} {i : Nat} {items : Array Value} {old : Value} {Q : Option Value → Shared → Prop} (hh : A.handled = none) (he : IsEnum s.heap e it i old) (hit : s.heap.IsTupleIter it l i) (hl : s.heap.IsTuple l items) (hx : items[i]? = none)
    (hQ : ∀ h', Heap.ExtBut it s.heap h' → Q none { s with heap := h' }) : wpAny (model prog w) A (pyNext (.ref e)) Q E s := by
  have hT : s.TypeIs (.ref e) "enumerate" := ⟨_, he, rfl⟩
  unfold pyNext
  refine wpAny_bind (wpAny_attempt (wpAny_callSpecial?_slot (name := Str.ofString "__next__") hT F.slot_enumerate_next (wpAny_call_entry F.slot_enumerate_next hT F.entry_enumerate_next ?_ (F.args_enumerate_next_1 _))))
  show wpAny _ _ (field (.ref e) 2 >>= _) _ _ _
  refine wpAny_bind (wpAny_field he rfl (x := .ref it) rfl ?_)
  refine wpAny_bind (RZ.nextOf_tuple_end hh hit hl hx fun h' x he' ⟨o, ho, hc⟩ => ?_)
  exact wpAny_bind (wpAny_isInstance (T := "StopIteration") (b := true) ⟨o, ho, hc⟩ isSubtype_stop (wpAny_pure (hQ _ he')))
end
/-- the tuple at a, each item with its number in a new pair -/
def IteT (K : PySem.W.Frag) (a : Addr) : It :=
  ⟨fun i H => ∃ (xs : List V) (x : V), SqT K H a xs ∧ xs[i]? = some x, fun i H v H' => ∃ T x, v = .ref T ∧ H T = none ∧ H' = upd H T (.tup [.int (i : Nat), x]) ∧ ∀ xs, SqT K H a xs → xs[i]? = some x, fun i H => ∃ xs : List V, SqT K H a xs ∧ xs.length ≤ i⟩
theorem en_turn {P : Program} {w : World} {K : PySem.W.Frag} {elts : List Expr} {kk : Nat} {tpos : Pos} (a e it : Addr) : Turn P w K (.Tuple elts kk tpos) (IteT K a) [e, it] e (fun i h => (∃ old, IsEnum h e it ((i : Nat) : Int) old) ∧ h.IsTupleIter it a i ∧ e ≠ it) where
  mem := by simp
  obj := fun i h st b hb => by
    obtain ⟨⟨old, he⟩, ⟨o, ho, hc, hd⟩, _⟩ := st
    rcases (show b = e ∨ b = it by simpa using hb) with rfl | rfl
    · exact ⟨_, he, fun v q => nomatch q⟩
    · exact ⟨o, ho, fun v q => by rw [hd] at q; cases q⟩
  keep := fun i h h' ⟨⟨old, he⟩, hi, hne⟩ k => ⟨⟨old, k e (by simp) _ he⟩, hi.at fun o q => k it (by simp) o q, hne⟩
  item := by
    intro X hP hw hK hc i pins s σ H E I hf st hg
    subst hP hw hK
    obtain ⟨⟨old, he⟩, hit, hne⟩ := st
    obtain ⟨xs, x, hq, hx⟩ := hg
    obtain ⟨its, rv, p, hz⟩ := I.tuple hq
    obtain ⟨u, hu, ru⟩ := rv.get hx
    have hel : e < s.heap.objs.size := Heap.lt_size he
    have hil : it < s.heap.objs.size := by obtain ⟨_, q, _⟩ := hit; exact Heap.lt_size q
    refine en_item he hit (show s.heap.IsTuple a its.toArray from p) (x := u) (by simpa using hu) hne fun h1 ho hit' hT hsz hk => ⟨_, rfl, wpAny_letOwnedTupleGo_enum (s := { s with heap := h1, toks := s.toks + 1 }) ho fun h2 he' sb => ?_⟩
    have hT2 : h2.get? s.heap.objs.size = some { cls := .type "tuple", data := .seq #[.int i s.toks, u] } := (sb.2 _ (Nat.ne_of_gt hel)).trans hT
    have new : ObjOk X.prog X.w (upd H s.heap.objs.size (.tup [.int (i : Nat), x])) h2 s.heap.objs.size (.tup [.int (i : Nat), x]) := ⟨by show 2 ≤ sizeLine; decide, [.int i s.toks, u], .cons ⟨_, rfl⟩ (.cons ru .nil), ⟨_, hT2, rfl, _, rfl⟩⟩
    have I1 : Inv X pins σ (upd H s.heap.objs.size (.tup [.int (i : Nat), x])) { s with heap := h2, toks := s.toks + 1 } :=
      I.turnedNew (ch := [e, it]) (fun b ob hb q => (sb.2 b (fun z => hb (by simp [z]))).trans (hk b ob (fun z => hb (by simp [z])) (fun z => hb (by simp [z])) q)) hf (Nat.le_refl _) new
    refine ⟨.ref s.heap.objs.size, _, I1, rfl, ⟨_, x, rfl, I.hok.fresh (Nat.le_refl _), rfl, fun ys hy => by rw [I.tuple_inj hy hq]; exact hx⟩, ⟨⟨u, ?_⟩, hit'.at fun o q => (sb.2 it (Ne.symm hne)).trans q, hne⟩, fun b hb => ?_⟩
    · have e1 : ((i + 1 : Nat) : Int) = (i : Int) + 1 := by omega
      rw [e1]
      exact he'
    · have hb' : b < s.heap.objs.size := by
        rcases (show b = e ∨ b = it by simpa using hb) with rfl | rfl
        · exact hel
        · exact hil
      rw [upd_ne (Nat.ne_of_lt hb')]
      exact (hf b hb).1
  done := by
    intro X hP hw hK hc i pins s σ H E I hf st hg
    subst hP hw hK
    obtain ⟨⟨old, he⟩, hit, hne⟩ := st
    obtain ⟨xs, hq, hx⟩ := hg
    obtain ⟨its, rv, p, hz⟩ := I.tuple hq
    obtain ⟨f0, f1, f2, f3, f4, f5⟩ := hf it (by simp)
    have hl := rv.length
    exact en_end (I.ok.hd hc) he hit (show s.heap.IsTuple a its.toArray from p) (by simp; omega) fun h' eb => ⟨rfl, I.turned (t' := s.toks) (fun b o hb q => eb b o hb q) f0 f1 f3 f4 f5⟩
  self := fun A i s Q E ⟨⟨_, he⟩, _⟩ h => wpAny_pyIter_enum he h
/-- enumerate of a list, of a tuple -/
def iEnA (K : PySem.W.Frag) (ta : TA) : TI := fun σ H R => ta σ H fun vs H1 => ∃ a xs, vs = [.ref a] ∧ ((SqL K H1 a xs ∧ R (Ite K a) H1) ∨ (SqT K H1 a xs ∧ R (IteT K a) H1))
theorem pi_enA {X : Cx} {e : Expr} {ta : TA} {p pos tpos : Pos} {elts : List Expr} {kk : Nat} (hg : Gl X "enumerate") (hm : X.mg "enumerate" = none) (ha : PA X [e] ta) (hs : starEach [e] X.env = [(false, eval e X.env)] := by rfl) : PI X (.Tuple elts kk tpos) (.Call (.Name "enumerate" p) [e] [] pos) (iEnA X.K ta) := by
  constructor
  intro pins s σ H R I h
  refine Call_ (ld_blt I hg hm boot_enumerate (PyProof.Rows.callWith_type1 (thn (ha.run pos pins s σ H _ I h) ?_) hs rfl))
  rintro us s1 ⟨vs, H1, I1, r1, a, xs, rfl, q⟩
  cases r1 with
  | cons r rr =>
    cases rr
    cases r
    have fp : ∀ b ∈ [s1.heap.objs.size + 1, s1.heap.objs.size], FpOk X pins H1 b := fun b hb => by
      have hle : s1.heap.objs.size ≤ b := by
        rcases (show b = s1.heap.objs.size + 1 ∨ b = s1.heap.objs.size by simpa using hb) with z | z <;> omega
      exact I1.fpOk hle (I1.hok.fresh hle)
    rcases q with ⟨hq, q⟩ | ⟨hq, q⟩
    · obtain ⟨its, rv, p', hz⟩ := I1.list hq
      exact call_enumerate_list p'.isList fun h' he hit hsz hk => wpAny_pyIter_enum he ⟨_, _, _, _, H1, rfl, I1.kept (t' := s1.toks) hk, turn_enum a (s1.heap.objs.size + 1) s1.heap.objs.size, ⟨⟨.none, he⟩, hit, Nat.succ_ne_self _⟩, fp, q⟩
    · obtain ⟨its, rv, p', hz⟩ := I1.tuple hq
      exact en_call (show s1.heap.IsTuple a its.toArray from p') fun h' he hit hsz hk => wpAny_pyIter_enum he ⟨_, _, _, _, H1, rfl, I1.kept (t' := s1.toks) hk, en_turn a (s1.heap.objs.size + 1) s1.heap.objs.size, ⟨⟨.none, he⟩, hit, Nat.succ_ne_self _⟩, fp, q⟩
/-- pairs of a number and an item -/
def enumD : Nat → List D → List D
  | _, [] => []
  | n, x :: xs => .tup [.int n, x] :: enumD (n + 1) xs
theorem enumD_len : ∀ (xs : List D) (n : Nat), (enumD n xs).length = xs.length
  | [], _ => rfl
  | _ :: xs, n => congrArg (· + 1) (enumD_len xs (n + 1))
theorem enumD_get : ∀ (xs : List D) (n i : Nat) (d : D), (enumD n xs)[i]? = some d → ∃ x, xs[i]? = some x ∧ d = .tup [.int ((n + i : Nat) : Int), x]
  | [], n, i, d, h => by simp [enumD] at h
  | x :: xs, n, 0, d, h => ⟨x, rfl, (Option.some.inj h).symm⟩
  | x :: xs, n, i + 1, d, h => by
    obtain ⟨y, h1, h2⟩ := enumD_get xs (n + 1) i d h
    exact ⟨y, h1, by rw [h2, show n + 1 + i = n + (i + 1) by omega]⟩
def dEnum (fa : DA) : DI := fun X ρ Q => fa X ρ fun ss ρ' => match ss with
  | [.dat (.tup a)] => Q (enumD 0 a) ρ'
  | [.dat (.lst a)] => Q (enumD 0 a) ρ'
  | _ => False
theorem di_enum {X : Cx} {W : WX} {e : Expr} {fa : DA} {p pos tpos : Pos} {elts : List Expr} {kk : Nat} (hm : X.mg "enumerate" = none) (ha : PA X [e] (lA X.K W fa)) (hg : Gl X "enumerate" := by rfl) (hs : starEach [e] X.env = [(false, eval e X.env)] := by rfl) :
    PI X (.Tuple elts kk tpos) (.Call (.Name "enumerate" p) [e] [] pos) (lI X.K W (dEnum fa)) :=
  pi_imp (pi_enA hg hm ha hs) fun σ H R ⟨ρ, G, la, P, XX, r, h, q, xo⟩ => ⟨ρ, G, la, _, XX, r, h, fun xs ρ1 vs G1 la1 H1 p1 a1 z1 => by
    have p1' : (match (generalizing := false) xs with
      | [.dat (.tup a)] => P (enumD 0 a) ρ1
      | [.dat (.lst a)] => P (enumD 0 a) ρ1
      | _ => False) := p1
    split at p1'
    · rename_i da
      cases z1 with
      | cons a b =>
        cases b
        cases (show Dp _ _ _ (.tup da) from a) with
        | tup ha lz ra =>
          rename_i pa va
          refine ⟨pa, va, rfl, .inr ⟨same_t a1.r.ext ha, q _ _ _ _ _ _ p1' a1 ⟨fun i H hi e => ?_, fun H e => ?_, fun i G' H x H' e e' y z hz => ?_⟩ ?_⟩⟩
          · rw [enumD_len] at hi
            have h1 : i < va.length := by rw [ra.len]; exact hi
            exact ⟨va, va[i], same_t e ha, by simp [h1]⟩
          · exact ⟨va, same_t e ha, by rw [enumD_len, ra.len]; exact Nat.le_refl _⟩
          · obtain ⟨T, u, rfl, hT, rfl, f1⟩ := y
            obtain ⟨dx, h1, rfl⟩ := enumD_get _ _ _ _ hz
            obtain ⟨d1, g1, k1⟩ := ra.getV (f1 va (same_t (e.trans e') ha))
            rw [h1] at g1
            have q1 := Option.some.inj g1
            subst q1
            rw [Nat.zero_add]
            exact pair_dp e' hT (.int _) (k1.up e)
          · rw [enumD_len, ← ra.len]
            exact Nat.le_trans lz line62
    · rename_i da
      cases z1 with
      | cons a b =>
        cases b
        cases (show Dp _ _ _ (.lst da) from a) with
        | lst ha lz ra =>
          rename_i pa va
          refine ⟨pa, va, rfl, .inl ⟨SqL.of (a1.r.ext _ _ ha), q _ _ _ _ _ _ p1' a1 ⟨fun i H hi e => ?_, fun H e => ?_, fun i G' H x H' e e' y z hz => ?_⟩ ?_⟩⟩
          · rw [enumD_len] at hi
            have h1 : i < va.length := by rw [ra.len]; exact hi
            exact ⟨va, va[i], SqL.of (e _ _ ha), by simp [h1]⟩
          · exact ⟨va, SqL.of (e _ _ ha), by rw [enumD_len, ra.len]; exact Nat.le_refl _⟩
          · obtain ⟨T, u, rfl, hT, rfl, f1⟩ := y
            obtain ⟨dx, h1, rfl⟩ := enumD_get _ _ _ _ hz
            obtain ⟨d1, g1, k1⟩ := ra.getV (f1 va (SqL.of (e' _ _ (e _ _ ha))))
            rw [h1] at g1
            have q1 := Option.some.inj g1
            subst q1
            rw [Nat.zero_add]
            exact pair_dp e' hT (.int _) (k1.up e)
          · rw [enumD_len, ← ra.len]
            exact Nat.le_trans lz line62
    · exact p1'.elim, xo⟩
end DL
set_option Elab.async false
set_option linter.all false
set_option maxRecDepth 100000
set_option maxHeartbeats 4000000
set_option autoImplicit false
/-! The data level: what was left: - of ints, is of bools, list * int, max with a default, fresh lists, three names at once; names of built-ins. -/
namespace DL
open PySem PySem.Spec PyProof.Rows L2

theorem bt_int : bootBuiltins "int" = some (.type "int") := by decide +kernel
theorem bt_bool : bootBuiltins "bool" = some (.type "bool") := by decide +kernel
theorem bt_str : bootBuiltins "str" = some (.type "str") := by decide +kernel
theorem bt_tuple : bootBuiltins "tuple" = some (.type "tuple") := by decide +kernel
theorem bt_list : bootBuiltins "list" = some (.type "list") := by decide +kernel
theorem bt_isinstance : bootBuiltins "isinstance" = some (.builtin "isinstance") := by decide +kernel
theorem bt_abs : bootBuiltins "abs" = some (.builtin "abs") := by decide +kernel
theorem bt_max : bootBuiltins "max" = some (.builtin "max") := by decide +kernel
theorem bt_min : bootBuiltins "min" = some (.builtin "min") := by decide +kernel

section
variable {X : Cx} {W : WX}
theorem de_neg {a : Expr} {fa : DE} {pos : Pos} (ha : PE X a (lE X.K W fa)) : PE X (.UnaryOp .USub a pos) (lE X.K W (dUn gNeg fa)) := de_un un_neg (fun G H x d P Q sm dx gp k => by
  unfold gNeg at gp
  split at gp
  · cases dx
    exact ⟨_, rfl, k _ _ _ _ gp (Grow.refl sm) (.int _)⟩
  · exact gp.elim) ha
end
/-! ### is, is not of bools -/
def gIsB : D → D → (D → Prop) → Prop
  | .bl a, .bl b, P => P (.bl (decide (a = b)))
  | _, _, _ => False
def gNotB : D → D → (D → Prop) → Prop
  | .bl a, .bl b, P => P (.bl (!decide (a = b)))
  | _, _, _ => False
/-! ### * : ints, tuples, lists -/
def rMulB (K : PySem.W.Frag) : R2 := fun x y H Q => rMulA K x y H Q ∨ rRep x y H Q
theorem op_mulB {X : Cx} : OpR X (binaryOp .Mult) (rMulB X.K) := op_mulA.or op_rep
def gMulB : D → D → (D → Prop) → Prop
  | .int i, .int j, P => CMulW i j ∧ P (.int (i * j))
  | .tup xs, .int k, P => (-1000 ≤ k ∧ k ≤ 1000 ∧ xs.length ≤ 1000) ∧ P (.tup (List.replicate k.toNat xs).flatten)
  | .lst xs, .int k, P => (-1000 ≤ k ∧ k ≤ 1000 ∧ xs.length ≤ 1000) ∧ P (.lst (List.replicate k.toNat xs).flatten)
  | _, _, _ => False
theorem g_mulB {K : PySem.W.Frag} : GOp K (rMulB K) gMulB := by
  intro G H x y d e P Q sm dx dy gp k
  unfold gMulB at gp
  split at gp
  · exact .inl (g_mulA G H x y _ _ P Q sm dx dy gp k)
  · exact .inl (g_mulA G H x y _ _ P Q sm dx dy gp k)
  · cases dy
    cases dx with
    | lst a l r =>
      rename_i xs kk p vs
      obtain ⟨⟨b1, b2, b3⟩, p1⟩ := gp
      have lz := rep_len (xs := vs) b2 (by rw [r.len]; exact b3)
      refine .inr ⟨_, kk, vs, rfl, rfl, sm _ _ a, by omega, by omega, ?_, fun q hq => k _ _ _ _ p1 (Grow.new sm hq) (.lst upd_same lz ((r.rep _).up (Grow.new sm hq).g))⟩
      rw [PyProof.Rows.lm_len_rep_flat, Nat.mul_comm] at lz
      exact lz
  · exact gp.elim
/-! ### a list that may be changed, by list(..) -/
def dNewOf (fa : DA) : DL' := fun X ρ Q => fa X ρ fun xs ρ' => match xs with
  | [.dat (.tup ds)] => Q (.ob ρ'.T.length) ⟨ρ'.T ++ [.lst ds], ρ'.s⟩
  | [.dat (.lst ds)] => Q (.ob ρ'.T.length) ⟨ρ'.T ++ [.lst ds], ρ'.s⟩
  | _ => False
section
variable {X : Cx} {W : WX}
theorem newOf_core {K : PySem.W.Frag} {G1 H1 : Hp} {la1 : List Addr} {σ : L2.St} {ρ1 : Env} {p : Addr} {vs : List V} {ds : List D} (r : Re K G1 H1 la1 σ ρ1) (hp : H1 p = none) (l : vs.length ≤ sizeLine) (d : Dps K G1 vs ds) :
    Re K G1 (upd H1 p (.lst vs)) (la1 ++ [p]) σ ⟨ρ1.T ++ [.lst ds], ρ1.s⟩ ∧ SlR K G1 (la1 ++ [p]) (.ref p) (.ob ρ1.T.length) := by
  refine ⟨⟨r.tb.fresh hp l d, r.sl, fun j y hj => ?_⟩, p, ?_, rfl⟩
  · obtain ⟨u, hu, ru⟩ := r.at_ j y hj
    exact ⟨u, hu, ru.grow (Same.refl _) (List.prefix_append _ _)⟩
  · rw [← r.tb.len, List.getElem?_append_right (Nat.le_refl _)]
    simp
theorem dl_listN {e : Expr} {p pos : Pos} {fa : DA} (hm : X.mg "list" = none) (ha : PA X [e] (lA X.K W fa)) (hgl : Gl X "list" := by rfl) (he : starEach [e] X.env = (false, eval e X.env) :: starEach [] X.env := by rfl) (hpl : (backTo pos (starEach [] X.env)).any (·.1) = false := by rfl) :
    PE X (.Call (.Name "list" p) [e] [] pos) (lL X.K W (dNewOf fa)) :=
  pe_imp (pe_callTy call_list_of hgl hm bt_list ha (by decide) (by decide) he hpl) fun σ H Q ⟨ρ, G, la, P, XX, re, h, q, xo⟩ =>
  ⟨ρ, G, la, _, XX, re, h, fun xs ρ1 vs G1 la1 H1 p1 a1 z1 => by
    have p1' : (match (generalizing := false) xs with
      | [.dat (.tup ds)] => P (.ob ρ1.T.length) ⟨ρ1.T ++ [.lst ds], ρ1.s⟩
      | [.dat (.lst ds)] => P (.ob ρ1.T.length) ⟨ρ1.T ++ [.lst ds], ρ1.s⟩
      | _ => False) := p1
    split at p1'
    · rename_i ds
      cases z1 with
      | cons a b =>
        cases b
        cases (show Dp _ _ _ (.tup ds) from a) with
        | tup ha l r =>
          refine ⟨_, _, rfl, .inr (same_t a1.r.ext ha), fun p hp => ?_⟩
          obtain ⟨c1, c2⟩ := newOf_core a1.r hp l r
          exact q _ _ _ G1 (la1 ++ [p]) _ p1' ⟨a1.g, a1.p.trans (List.prefix_append _ _), c1⟩ c2
    · rename_i ds
      cases z1 with
      | cons a b =>
        cases b
        cases (show Dp _ _ _ (.lst ds) from a) with
        | lst ha l r =>
          refine ⟨_, _, rfl, .inl (SqL.of (a1.r.ext _ _ ha)), fun p hp => ?_⟩
          obtain ⟨c1, c2⟩ := newOf_core a1.r hp l r
          exact q _ _ _ G1 (la1 ++ [p]) _ p1' ⟨a1.g, a1.p.trans (List.prefix_append _ _), c1⟩ c2
    · exact p1'.elim, xo⟩
end
end DL
set_option Elab.async false
set_option linter.all false
set_option maxRecDepth 100000
set_option maxHeartbeats 4000000
set_option autoImplicit false
/-! The data level: lemmas for walking by simp. -/
namespace DL
open PySem PySem.Spec PyProof.Rows L2
theorem valK_dat (Q : D → Env → Prop) (d : D) (ρ : Env) : @valK ⟨Q⟩ (.dat d) ρ = Q d ρ := rfl
theorem valK_ob (Q : D → Env → Prop) (k : Nat) (ρ : Env) : @valK ⟨Q⟩ (.ob k) ρ = match ρ.T[k]? with
    | some (.lst xs) => Q (.lst xs) ⟨ρ.T.set k .dead, ρ.s⟩
    | _ => False := rfl
/-! ### places of short lists -/
section
variable {α : Type}
theorem atI_nat (xs : List α) (i : Nat) : atI xs (i : Int) = xs[i]? := by
  unfold atI ixN
  by_cases h : (i : Int) < xs.length
  · rw [if_pos (by omega), if_pos h]
    rfl
  · rw [if_pos (by omega), if_neg h]
    show none = _
    rw [List.getElem?_eq_none (by omega)]
theorem atI_0 (x : α) (r : List α) : atI (x :: r) 0 = some x := atI_nat (x :: r) 0
theorem atI_1 (x y : α) (r : List α) : atI (x :: y :: r) 1 = some y := atI_nat (x :: y :: r) 1
theorem atI_2 (x y z : α) (r : List α) : atI (x :: y :: z :: r) 2 = some z := atI_nat (x :: y :: z :: r) 2
theorem atI_last (xs : List α) (x : α) : atI (xs ++ [x]) (-1) = some x := by
  unfold atI ixN
  rw [if_neg (by omega), if_pos (by simp; omega)]
  show (xs ++ [x])[(((xs ++ [x]).length : Int) + -1).toNat]? = some x
  rw [show (((xs ++ [x]).length : Int) + -1).toNat = xs.length by simp; omega]
  simp
theorem atI_pos {xs : List α} {i : Int} (h : 0 ≤ i) : atI xs i = xs[i.toNat]? := by
  have := atI_nat xs i.toNat
  rwa [Int.toNat_of_nonneg h] at this
theorem atI_some {xs : List α} {i : Int} (h : 0 ≤ i) (h2 : i < xs.length) : atI xs i = some (xs[i.toNat]'(by omega)) := by
  rw [atI_pos h, List.getElem?_eq_getElem]
theorem ixN_pos {n : Nat} {i : Int} (h : 0 ≤ i) (h2 : i < n) : ixN n i = some i.toNat := by
  unfold ixN
  rw [if_pos h, if_pos h2]
theorem ixN_20 : ixN 2 0 = some 0 := rfl
theorem ixN_21 : ixN 2 1 = some 1 := rfl
theorem atI_map' (f : Int → D) (xs : List Int) (i : Int) : atI (xs.map f) i = (atI xs i).map f := by
  unfold atI
  rw [List.length_map]
  cases ixN xs.length i with
  | none => rfl
  | some j => simp
theorem set_last (T : List α) (x y : α) : (T ++ [x]).set T.length y = T ++ [y] := by simp
theorem get_last (T : List α) (x : α) : (T ++ [x])[T.length]? = some x := by simp
theorem take_last (T : List α) (x : α) : (T ++ [x]).take T.length = T := by simp
end
/-! ### equality of data -/
theorem deq_str (a b : Str) : deq (.str a) (.str b) = (a == b) := by simp [deq, toP, PyData.eqv]
theorem deq_int (a b : Int) : deq (.int a) (.int b) = (a == b) := by simp [deq, toP, PyData.eqv]
theorem deq_non : deq .non .non = true := by simp [deq, toP, PyData.eqv]
theorem deq_bl (a b : Bool) : deq (.bl a) (.bl b) = (a == b) := by simp [deq, toP, PyData.eqv]
theorem deq_tt (a b : List D) : deq (.tup a) (.tup b) = deqs a b := by simp [deq, deqs, toP, PyData.eqv]
theorem deq_ll (a b : List D) : deq (.lst a) (.lst b) = deqs a b := by simp [deq, deqs, toP, PyData.eqv]
theorem deqs_nn : deqs [] [] = true := by simp [deqs, toPs, PyData.eqvAll]
theorem deqs_cc (a b : D) (r s : List D) : deqs (a :: r) (b :: s) = (deq a b && deqs r s) := by simp [deq, deqs, toPs, PyData.eqvAll]
theorem deqs_nc (b : D) (s : List D) : deqs [] (b :: s) = false := by simp [deqs, toPs, PyData.eqvAll]
theorem deqs_cn (b : D) (s : List D) : deqs (b :: s) [] = false := by simp [deqs, toPs, PyData.eqvAll]
mutual
theorem eqvP_refl : ∀ (n : Nat) (d : D), okd n d = true → PyData.eqv (toP d) (toP d) = true
  | _, .non, _ => by simp [toP, PyData.eqv]
  | _, .bl b, _ => by simp [toP, PyData.eqv]
  | _, .int b, _ => by simp [toP, PyData.eqv]
  | _, .str b, _ => by simp [toP, PyData.eqv]
  | n, .raw _, h => by simp [okd] at h
  | 0, .tup xs, h => by simp [okd] at h
  | n + 1, .tup xs, h => by
    simp only [okd] at h
    simp only [toP, PyData.eqv]
    exact eqvPs_refl n xs h
  | 0, .lst xs, h => by simp [okd] at h
  | n + 1, .lst xs, h => by
    simp only [okd] at h
    simp only [toP, PyData.eqv]
    exact eqvPs_refl n xs h
  | n, .scr ns, h => by
    simp only [toP, PyData.eqv]
    clear h
    induction ns with
    | nil => simp [PyData.eqvAll]
    | cons x r ih => simp [PyData.eqvAll, PyData.eqv, ih]
theorem eqvPs_refl : ∀ (n : Nat) (ds : List D), okds n ds = true → PyData.eqvAll (toPs ds) (toPs ds) = true
  | _, [], _ => by simp [toPs, PyData.eqvAll]
  | n, d :: ds, h => by
    simp only [okds, Bool.and_eq_true] at h
    simp only [toPs, PyData.eqvAll, Bool.and_eq_true]
    exact ⟨eqvP_refl n d h.1, eqvPs_refl n ds h.2⟩
end
mutual
theorem okd_up : ∀ (n : Nat) (d : D), okd n d = true → okd (n + 1) d = true
  | _, .non, _ => by simp [okd]
  | _, .bl b, _ => by simp [okd]
  | _, .int b, _ => by simp [okd]
  | _, .str b, _ => by simp [okd]
  | n, .raw _, h => by simp [okd] at h
  | 0, .tup xs, h => by simp [okd] at h
  | n + 1, .tup xs, h => by
    simp only [okd] at h ⊢
    exact okds_up n xs h
  | 0, .lst xs, h => by simp [okd] at h
  | n + 1, .lst xs, h => by
    simp only [okd] at h ⊢
    exact okds_up n xs h
  | n, .scr ns, h => by simp [okd] at h
theorem okds_up : ∀ (n : Nat) (ds : List D), okds n ds = true → okds (n + 1) ds = true
  | _, [], _ => by simp [okds]
  | n, d :: ds, h => by
    simp only [okds, Bool.and_eq_true] at h ⊢
    exact ⟨okd_up n d h.1, okds_up n ds h.2⟩
end
theorem okds_iff (n : Nat) : ∀ ds : List D, okds n ds = true ↔ ∀ d ∈ ds, okd n d = true
  | [] => by simp [okds]
  | d :: ds => by simp [okds, okds_iff n ds]
theorem okd_item {n : Nat} {ds : List D} {d : D} (h : okd (n + 1) (.tup ds) = true) (m : d ∈ ds) : okd (n + 1) d = true := by
  simp only [okd] at h
  exact okd_up _ _ ((okds_iff n ds).mp h d m)
theorem okd_non (n : Nat) : okd n .non = true := by simp [okd]
theorem okd_bl (n : Nat) (b : Bool) : okd n (.bl b) = true := by simp [okd]
theorem okd_int (n : Nat) (i : Int) : okd n (.int i) = true := by simp [okd]
theorem okd_str (n : Nat) (x : Str) : okd n (.str x) = true := by simp [okd]
theorem okds_nil (n : Nat) : okds n [] = true := by simp [okds]
theorem okds_cons (n : Nat) (d : D) (r : List D) : okds n (d :: r) = (okd n d && okds n r) := by simp [okds]
theorem okd_60t (xs : List D) : okd 60 (.tup xs) = okds 59 xs := by simp [okd]
theorem okd_59t (xs : List D) : okd 59 (.tup xs) = okds 58 xs := by simp [okd]
theorem okd_58t (xs : List D) : okd 58 (.tup xs) = okds 57 xs := by simp [okd]
theorem okd_60l (xs : List D) : okd 60 (.lst xs) = okds 59 xs := by simp [okd]
theorem okd_59l (xs : List D) : okd 59 (.lst xs) = okds 58 xs := by simp [okd]
theorem okd_58l (xs : List D) : okd 58 (.lst xs) = okds 57 xs := by simp [okd]
theorem st_tk : (("to" : Str) == ("bark" : Str)) = false := by decide
theorem st_tb : (("to" : Str) == ("back" : Str)) = false := by decide
theorem st_tf : (("to" : Str) == ("front" : Str)) = false := by decide
theorem st_kt : (("bark" : Str) == ("to" : Str)) = false := by decide
theorem st_kb : (("bark" : Str) == ("back" : Str)) = false := by decide
theorem st_kf : (("bark" : Str) == ("front" : Str)) = false := by decide
theorem st_bt : (("back" : Str) == ("to" : Str)) = false := by decide
theorem st_bk : (("back" : Str) == ("bark" : Str)) = false := by decide
theorem st_bf : (("back" : Str) == ("front" : Str)) = false := by decide
theorem st_ft : (("front" : Str) == ("to" : Str)) = false := by decide
theorem st_fk : (("front" : Str) == ("bark" : Str)) = false := by decide
theorem st_fb : (("front" : Str) == ("back" : Str)) = false := by decide
theorem nat_num (n : Nat) : ((@OfNat.ofNat Nat n (instOfNatNat n) : Nat) : Int) = (@OfNat.ofNat Int n (@instOfNat n)) := rfl
/-! ### tuples of whole numbers -/
def tupI (xs : List Int) : D := .tup (xs.map .int)
theorem okds_ints (n : Nat) (xs : List Int) : okds n (xs.map .int) = true := by
  rw [okds_iff]
  intro d hd
  obtain ⟨x, _, rfl⟩ := List.mem_map.mp hd
  simp [okd]
theorem okd_tupI (n : Nat) (xs : List Int) : okd (n + 1) (tupI xs) = true := by
  simp only [tupI, okd]
  exact okds_ints n xs
theorem dat_tI (xs : List Int) : D.tup (xs.map .int) = tupI xs := rfl
theorem intsOf_map : ∀ xs : List Int, intsOf (xs.map .int) = some xs
  | [] => rfl
  | x :: r => by
    show (intsOf (r.map .int)).map (x :: ·) = _
    rw [intsOf_map r]
    rfl
theorem cutL_map {α β : Type} (f : α → β) (xs : List α) (lo hi : Option Int) : cutL (xs.map f) lo hi = (cutL xs lo hi).map f := by
  unfold cutL
  rw [List.length_map, List.map_take, List.map_drop]
theorem cut_to {α : Type} (xs : List α) {i : Int} (h : 0 ≤ i) (h2 : i ≤ xs.length) : cutL xs none (some i) = xs.take i.toNat := by
  unfold cutL
  rw [HT.sIx_none, show HT.sIx xs.length xs.length (some i) = min i.toNat xs.length by
    have := HT.sIx_nat xs.length xs.length i.toNat
    rwa [Int.toNat_of_nonneg h] at this]
  rw [show min i.toNat xs.length = i.toNat by omega]
  simp
theorem cut_from {α : Type} (xs : List α) {i : Int} (h : 0 ≤ i) : cutL xs (some i) none = xs.drop i.toNat := by
  unfold cutL
  rw [HT.sIx_none, show HT.sIx xs.length 0 (some i) = min i.toNat xs.length by
    have := HT.sIx_nat xs.length 0 i.toNat
    rwa [Int.toNat_of_nonneg h] at this]
  by_cases q : i.toNat ≤ xs.length
  · rw [Nat.min_eq_left q]
    rw [List.take_of_length_le]
    simp
  · rw [Nat.min_eq_right (by omega)]
    simp
    omega
/-! ### walks -/
theorem loop_inv {g : DG} {B : DS} {E : DN} (I : List D → Env → Prop) (step : ∀ d r ρ, I (d :: r) ρ → ∀ N : Env → Prop, (∀ ρ', I r ρ' → N ρ') → g d ρ fun ρ' => B { E with nx := N, ct := N, bk := E.nx } ρ') (done : ∀ ρ, I [] ρ → E.nx ρ) : ∀ (ds : List D) (ρ : Env), I ds ρ → loopD g B E ds ρ
  | [], ρ, h => done ρ h
  | d :: ds, ρ, h => step d ds ρ h (loopD g B E ds) fun ρ' h' => loop_inv I step done ds ρ' h'
theorem comp_inv {g : DG} {t : DT} {e : DE} {own : List Nat} {k : Nat} {T : List Ob} {s0 : List (Option Sl)} {Q : Env → Prop} (hk : k = T.length) (I : List D → List D → List Ob → Prop)
    (step : ∀ d r acc T', T'.length = k → acc.length + (d :: r).length ≤ sizeLine → I (d :: r) acc T' → ∀ R : Option D → Env → Prop, (∀ o T'' s', T''.length = k → I r (acc ++ o.toList) T'' → wipeS s' own = s0 → R o ⟨T'' ++ [.lst acc], s'⟩) →
      g d ⟨T' ++ [.lst acc], s0⟩ fun ρ1 => t X0 ρ1 fun b ρ2 => if b = true then e X0 ρ2 fun y ρ3 => R (some y) ρ3 else R none ρ2)
    (done : ∀ acc T' s', T'.length = k → I [] acc T' → wipeS s' own = s0 → Q ⟨T' ++ [.lst acc], s'⟩) : ∀ (ds acc : List D) (T' : List Ob) (s' : List (Option Sl)), T'.length = k → acc.length + ds.length ≤ sizeLine → I ds acc T' → wipeS s' own = s0 → compD g t e own k ds ⟨T' ++ [.lst acc], s'⟩ Q
  | [], acc, T', s', hl, _, h, hs => done acc T' s' hl h hs
  | d :: ds, acc, T', s', hl, hz, h, hs => by
    unfold compD
    simp only
    rw [hs]
    refine step d ds acc T' hl hz h (fun o ρ3 => match o with
      | some y => match ρ3.T[k]? with
        | some (.lst acc) => acc.length < sizeLine ∧ compD g t e own k ds ⟨ρ3.T.set k (.lst (acc ++ [y])), ρ3.s⟩ Q
        | _ => False
      | none => compD g t e own k ds ρ3 Q) ?_
    intro o T'' s'' hl2 h2 hs2
    rw [List.length_cons] at hz
    cases o with
    | none => exact comp_inv hk I step done ds acc T'' s'' hl2 (by omega) (by simpa using h2) hs2
    | some y =>
      show (match (T'' ++ [Ob.lst acc])[k]? with
        | some (.lst acc) => acc.length < sizeLine ∧ compD g t e own k ds ⟨(T'' ++ [Ob.lst _]).set k (.lst (acc ++ [y])), s''⟩ Q
        | _ => False)
      rw [← hl2, get_last]
      simp only
      rw [set_last, hl2]
      exact ⟨by omega, comp_inv hk I step done ds (acc ++ [y]) T'' s'' hl2 (by rw [List.length_append]; simp; omega) h2 hs2⟩
/-- a comprehension whose turns change nothing else -/
theorem dComp_pure {fi : DI} {g : DG} {t : DT} {e : DE} {own : List Nat} {X : XP} {ρ : Env} {Q : D → Env → Prop} (h : D → Option D) (ds : List D) (T : List Ob) (s s0 : List (Option Sl)) (hfi : ∀ P : List D → Env → Prop, P ds ⟨T, s⟩ → fi X ρ P)
    (hs : wipeS s own = s0) (hs2 : wipeS s0 own = s0) (hlow : lowS T.length s0 = true) (hz : ds.length ≤ sizeLine)
    (step : ∀ d ∈ ds, ∀ acc, ∀ R : Option D → Env → Prop, (∀ s', wipeS s' own = s0 → R (h d) ⟨T ++ [.lst acc], s'⟩) → g d ⟨T ++ [.lst acc], s0⟩ fun ρ1 => t X0 ρ1 fun b ρ2 => if b = true then e X0 ρ2 fun y ρ3 => R (some y) ρ3 else R none ρ2)
    (q : Q (.lst (ds.filterMap h)) ⟨T, s0⟩) : dComp fi g t e own X ρ Q := by
  unfold dComp
  apply hfi
  simp only
  rw [hs]
  refine comp_inv rfl (fun r acc T' => T' = T ∧ (∀ d ∈ r, d ∈ ds) ∧ acc ++ r.filterMap h = ds.filterMap h) ?_ ?_ ds [] T s0 rfl (by simpa using hz) ⟨rfl, fun d h => h, rfl⟩ hs2
  · rintro d r acc T' hl hz ⟨rfl, hm, he⟩ R hR
    refine step d (hm d List.mem_cons_self) acc R fun s' hs' => hR _ _ _ rfl ⟨rfl, fun d' m => hm d' (List.mem_cons_of_mem _ m), ?_⟩ hs'
    rw [← he, List.filterMap_cons]
    cases h d <;> simp
  · rintro acc T' s' hl ⟨rfl, hm, he⟩ hs'
    simp only [List.filterMap_nil, List.append_nil] at he
    rw [get_last]
    simp only
    rw [hs', take_last, he]
    exact ⟨hlow, q⟩
/-- a comprehension whose turns change lists -/
theorem dComp_any {fi : DI} {g : DG} {t : DT} {e : DE} {own : List Nat} {X : XP} {ρ : Env} {Q : D → Env → Prop} (I : List D → List D → List Ob → Prop) (ds : List D) (T : List Ob) (s s0 : List (Option Sl)) (hfi : ∀ P : List D → Env → Prop, P ds ⟨T, s⟩ → fi X ρ P)
    (hs : wipeS s own = s0) (hs2 : wipeS s0 own = s0) (hlow : lowS T.length s0 = true) (hz : ds.length ≤ sizeLine) (h0 : I ds [] T)
    (step : ∀ d r acc T', T'.length = T.length → acc.length + (d :: r).length ≤ sizeLine → I (d :: r) acc T' → ∀ R : Option D → Env → Prop, (∀ o T'' s', T''.length = T.length → I r (acc ++ o.toList) T'' → wipeS s' own = s0 → R o ⟨T'' ++ [.lst acc], s'⟩) →
      g d ⟨T' ++ [.lst acc], s0⟩ fun ρ1 => t X0 ρ1 fun b ρ2 => if b = true then e X0 ρ2 fun y ρ3 => R (some y) ρ3 else R none ρ2)
    (q : ∀ acc T', T'.length = T.length → I [] acc T' → Q (.lst acc) ⟨T', s0⟩) : dComp fi g t e own X ρ Q := by
  unfold dComp
  apply hfi
  simp only
  rw [hs]
  refine comp_inv rfl I step ?_ ds [] T s0 rfl (by simpa using hz) h0 hs2
  intro acc T' s' hl hI hs'
  simp only
  rw [← hl, get_last]
  simp only
  rw [hs', take_last, hl]
  exact ⟨hlow, q acc T' hl hI⟩
def compK (g : DG) (t : DT) (e : DE) (own : List Nat) (Q : D → Env → Prop) : List D → Env → Prop := fun ds ρ1 => compD g t e own ρ1.T.length ds ⟨ρ1.T ++ [.lst []], wipeS ρ1.s own⟩ fun ρ2 => match ρ2.T[ρ1.T.length]? with
  | some (.lst acc) => lowS ρ1.T.length (wipeS ρ2.s own) = true ∧ Q (.lst acc) ⟨ρ2.T.take ρ1.T.length, wipeS ρ2.s own⟩
  | _ => False
def compC [h : Kept (D → Env → Prop)] (g : DG) (t : DT) (e : DE) (own : List Nat) : List D → Env → Prop := compK g t e own h.q
theorem dComp_eq (fi : DI) (g : DG) (t : DT) (e : DE) (own : List Nat) (X : XP) (ρ : Env) (Q : D → Env → Prop) : dComp fi g t e own X ρ Q = fi X ρ (@compC ⟨Q⟩ g t e own) := rfl
theorem compK_any {g : DG} {t : DT} {e : DE} {own : List Nat} {Q : D → Env → Prop} (I : List D → List D → List Ob → Prop) {ds : List D} {T : List Ob} {s : List (Option Sl)} (s0 : List (Option Sl))
    (hs : wipeS s own = s0) (hs2 : wipeS s0 own = s0) (hlow : lowS T.length s0 = true) (hz : ds.length ≤ sizeLine) (h0 : I ds [] T)
    (step : ∀ d r acc T', T'.length = T.length → acc.length + (d :: r).length ≤ sizeLine → I (d :: r) acc T' → ∀ R : Option D → Env → Prop, (∀ o T'' s', T''.length = T.length → I r (acc ++ o.toList) T'' → wipeS s' own = s0 → R o ⟨T'' ++ [.lst acc], s'⟩) →
      g d ⟨T' ++ [.lst acc], s0⟩ fun ρ1 => t X0 ρ1 fun b ρ2 => if b = true then e X0 ρ2 fun y ρ3 => R (some y) ρ3 else R none ρ2)
    (q : ∀ acc T', T'.length = T.length → I [] acc T' → Q (.lst acc) ⟨T', s0⟩) : compK g t e own Q ds ⟨T, s⟩ :=
  dComp_any (fi := fun _ ρ P => P ds ⟨T, s⟩) (X := X0) (ρ := ⟨T, s⟩) I ds T s s0 (fun _ h => h) hs hs2 hlow hz h0 step q
theorem compK_pure {g : DG} {t : DT} {e : DE} {own : List Nat} {Q : D → Env → Prop} (h : D → Option D) {ds : List D} {T : List Ob} {s : List (Option Sl)} (s0 : List (Option Sl))
    (hs : wipeS s own = s0) (hs2 : wipeS s0 own = s0) (hlow : lowS T.length s0 = true) (hz : ds.length ≤ sizeLine)
    (step : ∀ d ∈ ds, ∀ acc, ∀ R : Option D → Env → Prop, (∀ s', wipeS s' own = s0 → R (h d) ⟨T ++ [.lst acc], s'⟩) → g d ⟨T ++ [.lst acc], s0⟩ fun ρ1 => t X0 ρ1 fun b ρ2 => if b = true then e X0 ρ2 fun y ρ3 => R (some y) ρ3 else R none ρ2)
    (q : Q (.lst (ds.filterMap h)) ⟨T, s0⟩) : compK g t e own Q ds ⟨T, s⟩ :=
  dComp_pure (fi := fun _ ρ P => P ds ⟨T, s⟩) (X := X0) (ρ := ⟨T, s⟩) h ds T s s0 (fun _ h => h) hs hs2 hlow hz step q
theorem take_len {α : Type} {T T' : List α} (h : T'.length = T.length) : T'.take T.length = T' := List.take_of_length_le (by omega)
end DL
set_option Elab.async false
set_option linter.all false
set_option maxRecDepth 100000
set_option maxHeartbeats 4000000
set_option autoImplicit false
/-! max(xs, default=d). -/
namespace PySem
theorem mxd_args (a d : Value) : argsOk "max" ⟨[a], [("default", d)]⟩ := by
  unfold argsOk
  kernel_rfl
section
variable {prog : Program} {w : World} {A : Around} {R : Result → Shared → Prop} {I : Addr} {fp wr : List Addr} {n : Nat} {P : Nat → Value → Prop} {St : Nat → Heap → Prop}
theorem mxd_loop (Wk : Walks prog w A.in1 I fp wr n P St) (lt : Nat → Nat → Bool) (cmp : CmpOf prog w A.in1 .Gt P lt) (S : Addr) (nS : S ∉ fp) (d : Value) :
    ∀ (m j : Nat) (s : Shared) (its : Array Value) (cc : Nat), n - j = m → j ≤ n → St j s.heap → ((j = 0 ∧ its = #[]) ∨ (∃ vb, 0 < j ∧ P (argBest lt (j - 1)) vb ∧ its = #[vb, vb])) → s.heap.get? S = some { cls := .type "list", dict := none, data := .seq its cc, slots := #[] } →
    (∀ (v : Value) (h2 : Heap) (tk : Nat), ((n = 0 ∧ v = d) ∨ (0 < n ∧ P (argBest lt (n - 1)) v)) → (∀ b o, b ∉ wr → b ≠ S → s.heap.get? b = some o → h2.get? b = some o) → R (.ok (.ret v)) { s with heap := h2, toks := tk }) →
    codeAny (model prog w) A (.builtin "max.loop" ⟨[.ref I, .none, .ref S], [("default", d)]⟩) R s := by
  have nw : S ∉ wr := fun z => nS (Wk.sub _ z)
  have nm : (toString "max" ++ toString ".loop" : String) = "max.loop" := by decide
  intro m
  induction m with
  | zero =>
    intro j s its cc hm hj st hb hS hR
    have hn : j = n := by omega
    subst hn
    refine codeAny_builtin F.entry_max_loop ?_
    rw [Around.under_plainId F.plain_max_loop _]
    show wpAny _ A.in1 (seqItems? (.ref S) >>= _) _ _ s
    refine wpAny_bind (wpAny_seqItems hS rfl ?_)
    show wpAny _ A.in1 (tryCatch (pyNext (.ref I)) _ >>= _) _ _ s
    refine wpAny_bind (wpAny_tryCatch (Wk.done s _ _ st fun h2 tk kp => ?_))
    have hS2 := kp S _ nw hS
    rcases hb with ⟨rfl, rfl⟩ | ⟨vb, j0, hp, rfl⟩
    · show wpAny _ A.in1 (rule _ >>= _) _ _ _
      refine wpAny_bind (wpAny_rule (wpAny_pure ?_))
      exact hR d h2 tk (.inl ⟨rfl, rfl⟩) fun b o x1 x2 e => kp b o x1 e
    · show wpAny _ A.in1 (updateSeq S (fun _ => #[]) >>= _) _ _ _
      refine wpAny_bind ?_
      refine wpAny_updateSeq hS2 rfl (wpAny_bind (wpAny_letGo (wpAny_pure ?_)))
      exact hR vb _ tk (.inr ⟨j0, hp⟩) fun b o x1 x2 e => (Heap.get?_update_other _ _ (Ne.symm x2)).trans (kp b o x1 e)
  | succ m ih =>
    intro j s its cc hm hj st hb hS hR
    have jn : j < n := by omega
    refine codeAny_builtin F.entry_max_loop ?_
    rw [Around.under_plainId F.plain_max_loop _]
    show wpAny _ A.in1 (seqItems? (.ref S) >>= _) _ _ s
    refine wpAny_bind (wpAny_seqItems hS rfl ?_)
    show wpAny _ A.in1 (tryCatch (pyNext (.ref I)) _ >>= _) _ _ s
    refine wpAny_bind (wpAny_tryCatch (Wk.item j s _ _ jn st fun v h2 tk pv st2 kp => ?_))
    have hS2 := kp S _ nw hS
    rcases hb with ⟨rfl, rfl⟩ | ⟨vb, j0, hp, rfl⟩
    · show wpAny _ A.in1 (updateSeq S (fun _ => #[v, v]) >>= _) _ _ _
      refine wpAny_bind ?_
      refine wpAny_updateSeq hS2 rfl ?_
      rw [nm]
      refine wpAny_pure ⟨plainId_quiet F.plain_max_loop _, ih 1 _ #[v, v] _ (by omega) (by omega) (Wk.frame _ _ _ st2 fun b hbf o e => ?_) (.inr ⟨v, Nat.one_pos, pv, rfl⟩) (Heap.get?_update_self _ hS2 rfl) fun u h3 tk3 hu kp3 => ?_⟩
      · exact (Heap.get?_update_other _ _ (fun z : S = b => nS (z ▸ hbf))).trans e
      · exact hR u h3 tk3 hu fun b o x1 x2 e => kp3 b o x1 x2 ((Heap.get?_update_other _ _ (Ne.symm x2)).trans (kp b o x1 e))
    · show wpAny _ A.in1 (tryCatch (holding [v, v] (richCompare .Gt v vb >>= _)) _ >>= _) _ _ _
      refine wpAny_bind (wpAny_tryCatch (wpAny_holding (wpAny_bind (cmp j (argBest lt (j - 1)) v vb _ _ _ pv hp ?_))))
      refine wpAny_bind (wpAny_holding (wpAny_truthy_bool ?_))
      refine wpAny_bind (wpAny_letGo (wpAny_pure ?_))
      obtain ⟨i, rfl⟩ : ∃ i, j = i + 1 := ⟨j - 1, by omega⟩
      simp only [Nat.add_sub_cancel] at hp ⊢
      cases hq : lt (i + 1) (argBest lt i) with
      | true =>
        simp only [if_true]
        refine wpAny_bind ?_
        refine wpAny_updateSeq hS2 rfl (wpAny_bind (wpAny_letGo ?_))
        rw [nm]
        refine wpAny_pure ⟨plainId_quiet F.plain_max_loop _, ih (i + 2) _ #[v, v] _ (by omega) (by omega) (Wk.frame _ _ _ st2 fun b hbf o e => ?_) (.inr ⟨v, by omega, (show P (argBest lt (i + 1)) v by simp only [argBest, hq, if_true]; exact pv), rfl⟩) (Heap.get?_update_self _ hS2 rfl) fun u h3 tk3 hu kp3 => ?_⟩
        · exact (Heap.get?_update_other _ _ (fun z : S = b => nS (z ▸ hbf))).trans e
        · exact hR u h3 tk3 hu fun b o x1 x2 e => kp3 b o x1 x2 ((Heap.get?_update_other _ _ (Ne.symm x2)).trans (kp b o x1 e))
      | false =>
        simp only [Bool.false_eq_true, if_false]
        refine wpAny_bind (wpAny_letGo ?_)
        rw [nm]
        refine wpAny_pure ⟨plainId_quiet F.plain_max_loop _, ih (i + 2) _ #[vb, vb] cc (by omega) (by omega) st2 (.inr ⟨vb, by omega, (show P (argBest lt (i + 1)) vb by simp only [argBest, hq, Bool.false_eq_true, if_false]; exact hp), rfl⟩) hS2 fun u h3 tk3 hu kp3 => ?_⟩
        exact hR u h3 tk3 hu fun b o x1 x2 e => kp3 b o x1 x2 (kp b o x1 e)
end
section
variable {prog : Program} {w : World} {A : Around} {E : Value → Shared → Prop} {s : Shared} {l : Addr} {xs : Array (Int × Tok)}
theorem mxd_call {Q : Value → Shared → Prop} (a d : Value) (hc : wpAny (model prog w) A.in1 (Builtin.«max» ⟨[a], [("default", d)]⟩) (fun fin s' => match fin with
      | .done f => (match (Except.ok f : Result) with
        | .ok (.ret v) => Q v s'
        | .ok _ => False
        | .error e => E e s')
      | .again c' => c'.quiet = true ∧ codeAny (model prog w) A c' (fun r s' => match r with
        | .ok (.ret v) => Q v s'
        | .ok _ => False
        | .error e => E e s') s') E s) : wpAny (model prog w) A (call (.builtin "max") [a] [("default", d)]) Q E s := by
  refine wpAny_call (codeAny_call_builtin F.plain_max F.entry_max ?_)
  have ha := mxd_args a d
  simp only [checkBuiltinCall, F.kind_max]
  cases hsig : Manifest.signature? "max" with
  | none => exact wpAny_pure hc
  | some sg =>
    have ha2 : Bind.checkArgs "max" sg ⟨[a], [("default", d)]⟩ = pure () := by simpa only [argsOk, hsig] using ha
    simp only [ha2]
    exact wpAny_pure hc
theorem mxd_ints {Q : Value → Shared → Prop} (d : Value) (hh : A.handled = none) (hl : s.heap.IsList l (intItems xs))
    (h : ∀ v h' tk, ((xs.size = 0 ∧ v = d) ∨ (0 < xs.size ∧ (intItems xs)[argBest (fun i j => decide (numAt xs i > numAt xs j)) (xs.size - 1)]? = some v)) → (∀ b o, s.heap.get? b = some o → h'.get? b = some o) → Q v { s with heap := h', toks := tk }) :
    wpAny (model prog w) A (call (.builtin "max") [.ref l] [("default", d)]) Q E s := by
  have nm : (toString "max" ++ toString ".loop" : String) = "max.loop" := by decide
  refine mxd_call _ d ?_
  show wpAny _ A.in1 (Builtin.Builtins.bindParams "max" ["key", "default"] 0 ⟨[], [("default", d)]⟩ >>= _) _ _ s
  refine wpAny_bind (wpAny_of_eq (show Builtin.Builtins.bindParams "max" ["key", "default"] 0 ⟨[], [("default", d)]⟩ = pure [none, some d] from rfl) ?_)
  refine wpAny_bind (wpAny_pure ?_)
  refine wpAny_bind (iter_intList hl fun s2 e st hfp hlI => ?_)
  subst e
  have Wk := Walks.list (prog := prog) (w := w) (A := A.in1) hh s.heap.objs.size l hlI (intItems xs)
  refine wpAny_bind (wpAny_newObj_type ?_)
  have nS : (s.heap.push { cls := .type "list_iterator", data := .fields #[.ref l, .int 0 0] }).objs.size ∉ [s.heap.objs.size, l] := fun hm => Nat.lt_irrefl _ (hfp _ hm)
  rw [nm]
  refine wpAny_pure ⟨plainId_quiet F.plain_max_loop _, mxd_loop Wk (fun i j => decide (numAt xs i > numAt xs j)) (CmpOf.ints_gt (numAt xs) (fun _ _ => intItems_at)) _ nS d _ 0 _ #[] _ rfl (Nat.zero_le _) (Wk.frame _ _ _ st fun b _ o e => Heap.get?_push_of_some _ e) (.inl ⟨rfl, rfl⟩) (Heap.get?_push_size _ rfl) fun v h2 tk hv kp => ?_⟩
  refine h v h2 tk (by simpa [intItems] using hv) fun b o e => ?_
  exact old_kept (fun b o hbw e => kp b o hbw (Nat.ne_of_lt (Heap.lt_size e)) (Heap.get?_push_of_some _ e)) b o e
end
end PySem
namespace DL
open PySem PySem.Spec PyProof.Rows L2
def rMaxDef (K : PySem.W.Frag) : List V → List V → Hp → VK → Prop := fun vs zs H Q => ∃ (a : Addr) (ns : List Int) (d : V), vs = [V.ref a] ∧ zs = [d] ∧ SqL K H a (ns.map V.int) ∧ (ns = [] → Q d H) ∧ (0 < ns.length → ∀ m, m ∈ ns → (∀ y ∈ ns, y ≤ m) → Q (.int m) H)
theorem cr_maxDef {X : Cx} (hc : X.calm = true) : CallRK X (.builtin "max") [Str.ofString "default"] (rMaxDef X.K) := by
  intro pins s σ H vs zs us ws Q I r rz h
  obtain ⟨a, ns, d, rfl, rfl, hs, q0, q1⟩ := h
  obtain rfl := Vals.ref1 r
  obtain ⟨w1, rfl, e1⟩ := vals1 rz
  obtain ⟨its, rv, hl, _⟩ := I.list hs
  have hi := rv.ints
  obtain ⟨xs, e⟩ := hi.allInts.items
  have hn : numsOf (intItems xs).toList = ns := by rw [← e]; exact hi.numsOf
  rw [nums_intItems] at hn
  have hl' := hl.isList
  rw [e] at hl'
  refine mxd_ints w1 (I.ok.hd hc) hl' fun v h' tk hv kp => ?_
  rcases hv with ⟨h0, rfl⟩ | ⟨h0, hv⟩
  · refine ⟨d, H, I.kept kp, e1, q0 ?_⟩
    rw [← hn]
    simpa using h0
  · obtain ⟨t, rfl⟩ := intItems_at hv
    obtain ⟨h1, h2⟩ := argBest_gt (numAt xs) (xs.size - 1)
    refine ⟨.int _, H, I.kept kp, ⟨_, rfl⟩, q1 (by rw [← hn]; simpa using h0) _ ?_ fun y hy => ?_⟩
    · rw [numAt_eq, ← hn]
      exact PySem.getD_mem (by rw [List.length_map, Array.length_toList]; omega)
    · rw [← hn] at hy
      obtain ⟨j, hj, rfl⟩ := mem_getD hy
      rw [List.length_map, Array.length_toList] at hj
      rw [← numAt_eq]
      exact h2 j (by omega)
def dMaxD (fa : DA) (fd : DE) : DE := fun X ρ Q => fa X ρ fun xs ρ1 => match dats xs with
  | some [.lst ds] => fd X ρ1 fun e ρ2 => match intsOf ds with
    | some [] => Q e ρ2
    | some (n :: ns) => Q (.int (maxOf n ns)) ρ2
    | none => False
  | _ => False
section
variable {X : Cx} {W : WX}
theorem de_maxd {e d : Expr} {p pos kpos : Pos} {fa : DA} {fd : DE} (hc : X.calm = true) (hm : X.mg "max" = none) (ha : PA X [e] (lA X.K W fa)) (hd : PE X d (lE X.K W fd)) (hg : Gl X "max" := by rfl)
    (he : backTo pos (starEach [e] X.env) = (false, eval e X.env) :: backTo pos (starEach [] X.env) := by rfl) (hpl : (backTo pos (starEach [e] X.env)).any (·.1) = false := by rfl)
    (hall : (backToKw pos (keywordEach [⟨some "default", d, kpos⟩] X.env)).all (·.1.isSome) = true := by rfl) (hnone : (backToKw pos (keywordEach [⟨some "default", d, kpos⟩] X.env)).any (·.1.isNone) = false := by rfl) (hks : (backToKw pos (keywordEach [⟨some "default", d, kpos⟩] X.env)).filterMap (·.1) = [Str.ofString "default"] := by rfl) :
    PE X (.Call (.Name "max" p) [e] [⟨some "default", d, kpos⟩] pos) (lE X.K W (dMaxD fa fd)) :=
  pe_imp (pe_callBK (cr_maxDef hc) hg hm bt_max ha (pk_cons hd pk_nil) (by decide) (by decide) he hpl hall hnone hks) fun σ H Q ⟨ρ, G, la, P, XX, re, h, q, xo⟩ =>
  ⟨ρ, G, la, _, XX, re, h, fun xs ρ1 vs G1 la1 H1 p1 a1 z1 => by
    have p1' : (match (generalizing := false) dats xs with
      | some [.lst ds] => fd XX ρ1 fun e ρ2 => match intsOf ds with
        | some [] => P e ρ2
        | some (n :: ns) => P (.int (maxOf n ns)) ρ2
        | none => False
      | _ => False) := p1
    split at p1'
    · rename_i ds hds
      have dp := dats_of z1 hds
      cases dp with
      | cons a b =>
        cases b
        cases a with
        | lst a l r =>
          refine ⟨ρ1, G1, la1, _, XX, a1.r, p1', fun e2 ρ2 v G2 la2 H2 p2 a2 z2 => ?_, xo.up a1.g a1.p⟩
          have p2' : (match (generalizing := false) intsOf ds with
            | some [] => P e2 ρ2
            | some (n :: ns) => P (.int (maxOf n ns)) ρ2
            | none => False) := p2
          split at p2'
          · rename_i hn
            have e := intsOf_of r hn
            subst e
            exact ⟨_, [], v, rfl, rfl, SqL.of (a2.r.ext _ _ (a2.g _ _ a)), fun _ => q _ _ _ _ _ _ p2' (a1.trans a2) z2, fun h0 => absurd h0 (by simp)⟩
          · rename_i n ns hn
            have e := intsOf_of r hn
            subst e
            refine ⟨_, n :: ns, v, rfl, rfl, SqL.of (a2.r.ext _ _ (a2.g _ _ a)), fun h0 => (nomatch h0), fun _ m hm2 hle => ?_⟩
            obtain ⟨c1, c2, c3⟩ := maxOf_ge ns n
            have em : m = maxOf n ns := by
              have h1 : maxOf n ns ≤ m := by
                rcases c3 with c3 | c3
                · rw [c3]
                  exact hle _ (by simp)
                · exact hle _ (by simp [c3])
              have h2 : m ≤ maxOf n ns := by
                rcases List.mem_cons.mp hm2 with z | z
                · rw [z]
                  exact c1
                · exact c2 _ z
              omega
            rw [em]
            exact q _ _ _ _ _ _ p2' (a1.trans a2) (.int _)
          · exact p2'.elim
    · exact p1'.elim, xo⟩
end
end DL
set_option Elab.async false
set_option linter.all false
set_option maxRecDepth 100000
set_option maxHeartbeats 4000000
set_option autoImplicit false
/-! {"a": i, "b": j}.get(e, d). -/
namespace DL
open PySem PySem.Spec PyProof.Rows L2
def dGetP (k1 k2 : Str) (i1 i2 : Int) (fe fd : DE) : DE := fun X ρ Q => fe X ρ fun k ρ1 => fd X ρ1 fun z ρ2 => match k with
  | .str w => if w = k1 then Q (.int i1) ρ2 else if w = k2 then Q (.int i2) ρ2 else Q z ρ2
  | _ => False
section
variable {X : Cx} {W : WX}
end
end DL
set_option Elab.async false
set_option linter.all false
set_option maxRecDepth 100000
set_option maxHeartbeats 4000000
set_option autoImplicit false
/-! The data level: raise, try, defs as values, lambdas that are handed to a def. -/
namespace DL
open PySem PySem.Spec PyProof.Rows L2

/-! ### raise -/
/-- what is known of an own class of errors -/
structure ExcC (K : PySem.W.Frag) (mg : Str → Option Value) (x : Str) (C : Addr) : Prop where
  g : mg x = some (.ref C)
  n : PySem.W.nsIn K mainGlobals x = some (some (.ref C))
  x : PySem.W.excIn K C [.type "ValueError", .type "Exception", .type "BaseException", .type "object"] "ValueError.__new__" = true
  k : PySem.W.keepIn K (.ref C) = true
  b : PySem.W.subIn K (.ref C) (.type "BaseException") = some true
  t : PySem.W.typeIn K (.ref C) = some (.type "type")
def sRaise (n : Str) : DS := fun E ρ => E.xn ⟨n, none⟩ ρ
section
variable {X : Cx} {W : WX}
theorem ds_raise {x m : Str} {C : Addr} {j : Nat} {p p2 p3 pos : Pos} (hc : X.calm = true) (tk : Takes X W) (ex : ExcC X.K X.mg x C) (hg : Gl X x := by rfl) (hdb : (x == ("__debug__" : Str)) = false := by decide) :
    PS X (.Raise (some (.Call (.Name x p) [.Constant (.str m) j p2] [] p3)) none pos) (lS X.K W (sRaise x)) :=
  ps_imp (ps_raise hc tk (pmk_own PySem.F.excBase_ValueError ex.x ex.g ex.k (raises_own ex.b ex.t) hg hdb)) fun D σ H ⟨ρ, G, la, E, r, f, b⟩ => b.xn ⟨x, none⟩ ρ σ G la H (.ref C) none f (Aft.refl r) ⟨.inl ex.n, True.intro⟩
end

/-! ### try -/
/-- whether an error of the class x is one of the class c -/
def isaN (x c : Str) : Bool := x == c || c == ("DogError" : Str)
def hndl (R : List Str) (E : DN) : List (Str × DS) → XP
  | [] => E.xn
  | (c, S) :: r => fun x ρ => R.contains x.n = true ∧ if isaN x.n c = true then S { E with xn := X0 } ρ else hndl R E r x ρ
inductive DCl (X : Cx) (R : List Str) : List ExceptHandler → List Cl → List (Str × DS) → Prop
  | nil : DCl X R [] [] []
  | only {c : Str} {A : Value} {S : DS} {b : Stmt} {su : List Stmt} {np p : Pos} {hs : List ExceptHandler} {ks : List Cl} {cl : List (Str × DS)} (nm : Names X c A)
      (ex : ∀ n ∈ R, ∀ cls, ClsN X.K n cls → PySem.W.exmOne X.K cls A = some (isaN n c))
      (run : ∀ (a : Addr) (o : Obj) (pn : List (Addr × Obj)), PSs (X.suite a ((a, o) :: pn)) (b :: su) (lS X.K W0 S)) (r : DCl X R hs ks cl) :
      DCl X R (.ExceptHandler (some (.Name c np)) none (b :: su) p :: hs) (⟨A, none, fun _ _ _ => lS X.K W0 S⟩ :: ks) ((c, S) :: cl)
  | skip {c n : Str} {i : Nat} {A : Addr} {b : Stmt} {su : List Stmt} {np p : Pos} {hs : List ExceptHandler} {ks : List Cl} {cl : List (Str × DS)} (nm : Names X c (.ref A)) (nd : X.N.Nodup) (hi : X.N[i]? = some n) (hl : X.env.kindOf n = some .local)
      (ex : ∀ n ∈ R, ∀ cls, ClsN X.K n cls → PySem.W.exmOne X.K cls (.ref A) = some false) (r : DCl X R hs ks cl) :
      DCl X R (.ExceptHandler (some (.Name c np)) (some n) (b :: su) p :: hs) (⟨.ref A, some i, fun _ _ _ => tNever⟩ :: ks) cl
section
variable {X : Cx} {W : WX} {R : List Str}
theorem DCl.ok {hs : List ExceptHandler} {ks : List Cl} {cl : List (Str × DS)} (h : DCl X R hs ks cl) : ClsOk X hs ks := by
  induction h with
  | nil => exact .nil
  | only nm ex run r ih => exact .cons (.only nm fun a o cls d pn _ _ => run a o pn) ih
  | skip nm nd hi hl ex r ih => exact .cons (.named nm nd hi hl fun a o cls d pn _ _ => pss_never) ih
theorem DCl.wish {G : Hp} {la : List Addr} {E : DN} {D : Ends} (b : Bk X.K G la W E D) : ∀ {hs : List ExceptHandler} {ks : List Cl} {cl : List (Str × DS)}, DCl X R hs ks cl → ∀ (x : Xn) (ρ' : Env) (σ' : L2.St) (G' : Hp) (la' : List Addr) (H' : Hp) (cls : Value) (od : Option Addr),
    hndl R E cl x ρ' → (cl ≠ [] → True) → Aft X.K G la σ' ρ' G' la' H' → XR X.K G' H' x cls od → (R.contains x.n = true) → wMix X.K W D ks cls od σ' H' := by
  intro hs ks cl h
  induction h with
  | nil =>
    intro x ρ' σ' G' la' H' cls od p _ a z _
    exact b.xn x ρ' σ' G' la' H' cls od p a z
  | @only c A S b0 su np p0 hs ks cl nm ex run r ih =>
    intro x ρ' σ' G' la' H' cls od p t a z hR
    obtain ⟨_, p⟩ := p
    refine ⟨isaN x.n c, ex x.n (by simpa using hR) cls z.1, fun e => ?_, fun e => ?_⟩
    · rw [if_pos e] at p
      intro q hq
      have bb := b.up a.g a.p
      exact ⟨ρ', G', la', _, a.r, p, ⟨bb.nx, bb.bk, bb.ct, bb.rt, fun _ _ _ _ _ _ _ _ f => f.elim⟩⟩
    · rw [if_neg (by rw [e]; exact Bool.false_ne_true)] at p
      exact ih x ρ' σ' G' la' H' cls od p (fun _ => True.intro) a z hR
  | @skip c n i A b0 su np p0 hs ks cl nm nd hi hl ex r ih =>
    intro x ρ' σ' G' la' H' cls od p t a z hR
    exact ⟨false, ex x.n (by simpa using hR) cls z.1, (fun e => by cases e), fun _ => ih x ρ' σ' G' la' H' cls od p t a z hR⟩
end

/-! ### defs as values -/
section
variable {X : Cx} {W : WX}
structure Kept1 (X : Cx) (k n : Nat) (x : Str) (S : DF) : Prop where
  ex : ∃ (f : Addr) (fd : FuncData) (ps : List Str), PySem.W.nsIn X.K mainGlobals x = some (some (.ref f)) ∧ FnOk X.prog X.w X.K X.mg X.base (L2.CX X.prog X.w) k f fd ps (spD X.K n S) ∧ PySem.W.keepIn X.K (.ref f) = true ∧ Binds X.K fd ps []
end

/-! ### lambdas -/
theorem Takes.len {X : Cx} {W : WX} (tk : Takes X W) : Takes X (fun cls d σ H => σ.length = X.N.length → W cls d σ H) := fun u s' ⟨a, B, sI, pins, σ, H, cls, d, e, I, nb, up, sky, na, os, ag, w⟩ =>
  tk u s' ⟨a, B, sI, pins, σ, H, cls, d, e, I, nb, up, sky, na, os, ag, w I.len⟩
theorem codeO_tbl {c : Addr} {q : Str} : ∀ ps, LamX.CodeO c q ≠ .tbl ps := fun ps z => by
  unfold LamX.CodeO at z
  cases z
/-- what is known grows by the lambda's code object -/
theorem Rl.code {K : PySem.W.Frag} {G H : Hp} {la : List Addr} {T : List Ob} {c : Addr} {q : Str} (r : Rl K G H la T) (hc : H c = some (LamX.CodeO c q)) : Same G (upd G c (LamX.CodeO c q)) ∧ Rl K (upd G c (LamX.CodeO c q)) H la T := by
  have s1 : Same G (upd G c (LamX.CodeO c q)) := fun b o e => by
    by_cases hb : b = c
    · subst hb
      rw [upd_same]
      have := r.ext b o e
      rw [hc] at this
      exact this
    · rw [upd_ne hb]
      exact e
  have ne : ∀ {b : Addr} {o : HO}, H b = some o → (∀ d, o ≠ LamX.CodeO c q) → b ≠ c := fun {b o} e n z => by
    rw [z, hc] at e
    exact n c (Option.some.inj e).symm
  refine ⟨s1, ⟨fun b o e => ?_, r.nd, r.len, fun k a o h1 h2 => ?_, r.there, r.nt.upd codeO_tbl, fun p hp => ⟨?_, (r.tbl p hp).2⟩⟩⟩
  · by_cases hb : b = c
    · subst hb
      rw [upd_same] at e
      rw [← e]
      exact hc
    · rw [upd_ne hb] at e
      exact r.ext b o e
  · have z := r.tab k a o h1 h2
    cases o with
    | dead => exact True.intro
    | lst ds =>
      obtain ⟨g, vs, e, l, d⟩ := z
      refine ⟨?_, vs, e, l, d.up s1⟩
      rw [upd_ne (ne e fun _ z => by unfold LamX.CodeO at z; cases z)]
      exact g
    | dic ks ds =>
      obtain ⟨g, vs, e, l0, l, d⟩ := z
      refine ⟨?_, vs, e, l0, l, d.up s1⟩
      rw [upd_ne (ne e fun _ z => by unfold LamX.CodeO at z; cases z)]
      exact g
    | ins C fs =>
      obtain ⟨g, Ca, dx, vs, n, e, o, m, d⟩ := z
      refine ⟨?_, Ca, dx, vs, n, e, o, m, d.up s1⟩
      rw [upd_ne (ne e fun _ z => by unfold LamX.CodeO at z; cases z)]
      exact g
  · obtain ⟨g, ps, e, _⟩ := r.tbl p hp
    rw [upd_ne (ne e fun _ z => codeO_tbl ps z.symm)]
    exact g
/-- what is known stays where only tables grow -/
theorem Rl.extN {K : PySem.W.Frag} {G H H1 : Hp} {la : List Addr} {T : List Ob} (r : Rl K G H la T) (e : LamX.ExtN H H1) (t : LamX.Tabs (tabsOf K) H1) : Rl K G H1 la T := by
  refine ⟨fun b o h => e b o (r.ext b o h) fun ps z => r.nt b ps (by rw [h, z]), r.nd, r.len, fun k a o h1 h2 => ?_, fun k a h => ?_, r.nt, fun p hp => ⟨(r.tbl p hp).1, t p hp⟩⟩
  · have z := r.tab k a o h1 h2
    cases o with
    | dead => exact True.intro
    | lst ds =>
      obtain ⟨g, vs, h, l, d⟩ := z
      exact ⟨g, vs, e a _ h (fun ps z => by cases z), l, d⟩
    | dic ks ds =>
      obtain ⟨g, vs, h, l0, l, d⟩ := z
      exact ⟨g, vs, e a _ h (fun ps z => by cases z), l0, l, d⟩
    | ins C fs =>
      obtain ⟨g, Ca, dx, vs, n, h, o, m, d⟩ := z
      exact ⟨g, Ca, dx, vs, n, e a _ h (fun ps z => by cases z), e dx _ o (fun ps z => by cases z), m, d⟩
  · obtain ⟨o, h1, h2⟩ := r.there k a h
    exact ⟨o, e a o h1 h2.1, h2⟩
end DL
set_option Elab.async false
set_option linter.all false
set_option maxRecDepth 100000
set_option maxHeartbeats 4000000
set_option autoImplicit false
/-! The data level: a def that calls the lambda it got; x(lambda: e); the end of a law. -/
namespace DL
open PySem PySem.Spec PyProof.Rows L2

/-- the def that gets lambdas, as it stands -/
structure LWord (K : PySem.W.Frag) (mg : Str → Option Value) (x a : Str) (st : Stmt) (Ng : List Str) (g : Addr) (cdv : Value) : Prop where
  ex : ∃ (oc : Value) (od an : Option Addr) (osl : Array (Option Value)) (kV doc pm ct : Value), K.lookup g = some ⟨oc, od, .func (PySem.W.fnOf x x (defArgs st) (defBody st) (defScope st) .none kV doc pm an cdv ct), osl⟩ ∧
    Binds K (PySem.W.fnOf x x (defArgs st) (defBody st) (defScope st) .none kV doc pm an cdv ct) [a] []
  code : PySem.W.codeIn K cdv x = true
  keep : PySem.W.keepIn K (.ref g) = true
  mg : mg x = some (.ref g)
  sc : FnScope Ng [a] (defScope st)
  at0 : Ng[0]? = some a
  vis : Vis (defScope st) a
/-! ### a name that is one of several defs -/
/-! ### which errors a clause takes -/
theorem exq_nil {K : PySem.W.Frag} {c : Value} {f : Str → Bool} : ∀ n ∈ ([] : List Str), ∀ cls, ClsN K n cls → PySem.W.exmOne K cls c = some (f n) := fun n h => by simp at h
theorem exq_cons {K : PySem.W.Frag} {c : Value} {f : Str → Bool} {n : Str} {R : List Str} {C : Addr} {b : Bool} (hn : PySem.W.nsIn K mainGlobals n = some (some (.ref C))) (hx : PySem.W.exmOne K (.ref C) c = some b) (hb : b = f n)
    (r : ∀ n ∈ R, ∀ cls, ClsN K n cls → PySem.W.exmOne K cls c = some (f n)) : ∀ m ∈ n :: R, ∀ cls, ClsN K m cls → PySem.W.exmOne K cls c = some (f m) := fun m h cls hc => by
  rcases List.mem_cons.mp h with rfl | h
  · cases ClsN.own hc hn
    rw [hx, hb]
  · exact r m h cls hc

/-! ### the end of a law -/
theorem walk_ofD {l : PySem.W.OpenLaw} {n k : Nat} {q : Program} {loose : List Str} {XP : (Str → Option Value) → Heap → Prop} {YP : World → Heap → Prop} {d : DefRec} {K : Params → PySem.W.Frag} {CX : World → CXT} {x : Str}
    (hn : l.most = some n) (hn2 : n ≤ sizeLine) (hdf : d.params.defaults = []) (hr : Room k callerA) (hY : ∀ (w : World) (h : Heap), YP w h → (K w.params).In h)
    (F : ∀ (w : World) (mg mb : Str → Option Value) (fa : Addr) (h : Heap) (lo : List Str) (mean : ExcName → Option Value), YP w h → (K w.params).In h → Top q lo mean mg mb h → mg d.name = some (.ref fa) → LamX.LawAtS l w (K w.params) (CX w) k n x mg fa h)
    (hCX : ∀ (w : World) (H : Hp) (s : Shared) (e : Value) (s' : Shared), CX w [] H s (fun _ _ _ => False) e s' → False) : PySem.W.WalkO q loose XP YP l.row.toRowW d [] (fun f vs => PySem.call f vs) := by
  refine Att.attach_callB hn hdf fun w s0 s1 mg mb fa o pm cd doc a vs ns G Y ho hd hcd hmg hobj hints hlen hbits hg => ?_
  have KX := hY w _ Y
  obtain ⟨fd, cs, sp, hT, nT, C, hb, hsp, hF⟩ := F w mg mb fa _ _ _ Y KX G.T hmg
  exact LamX.law_callTs KX G.T.g G.T.b G.T.builtins G.T.nolimit hg hT nT C G.T.bmain hobj hints (Nat.le_trans hlen hn2) hr hF hb (fun H hH hS => hsp H a ns hlen hbits hH hS) fun H e s' => hCX w H s1 e s'
/-- the known part at the start: all but the tables -/
def lessTbl (H : Hp) : Hp := fun b => match H b with
  | some (.tbl _) => none
  | o => o
theorem less_same (H : Hp) : Same (lessTbl H) H := fun b o e => by
  unfold lessTbl at e
  split at e
  · cases e
  · exact e
theorem less_nt (H : Hp) : NoTbl (lessTbl H) := fun b ps e => by
  unfold lessTbl at e
  split at e
  · cases e
  · rename_i z
    exact z ps e
theorem less_at {H : Hp} {b : Addr} {o : HO} (e : H b = some o) (n : ∀ ps, o ≠ .tbl ps) : lessTbl H b = some o := by
  unfold lessTbl
  rw [e]
  cases o <;> first | rfl | exact absurd rfl (n _)
theorem less_none {H : Hp} {b : Addr} {ps : Array Value} (e : H b = some (.tbl ps)) : lessTbl H b = none := by
  unfold lessTbl
  rw [e]
theorem less_seq {K : PySem.W.Frag} {H : Hp} {a : Addr} {vs : List V} (h : SqL K H a vs) : SqL K (lessTbl H) a vs := by
  rcases h with (h | ⟨o, h⟩) | h
  · exact .inl (.inl (less_at h fun ps z => by cases z))
  · exact .inl (.inr ⟨o, less_at h fun ps z => by cases z⟩)
  · exact .inr h
theorem law_spT {K : PySem.W.Frag} {S : DF} {cs : List (Addr × Addr)} (ht : ∀ p ∈ tabsOf K, ∃ c, (c, p.1) ∈ cs) (hlaw : ∀ (ns : List Int) (T : List Ob) (Q : Sl → List Ob → Prop) (QX : Xn → List Ob → Prop), ns.length ≤ 63 → (∀ T', Q (.dat (.bl true)) T') → S [.dat (.scr ns)] T Q QX) (H : Hp) (a : Addr) (ns : List Int) (hl : ns.length ≤ 63)
    (hH : ∀ p ∈ cs, H p.2 = some (.tbl #[])) (hS : SqL K H a (ns.map V.int)) : spD K 1 S [.ref a] H (fun v _ => v = .bl true) fun _ _ _ => False :=
  ⟨rfl, [.dat (.scr ns)], lessTbl H, [], [], fun r _ => r = .dat (.bl true), fun _ _ => False, ⟨less_same H, List.nodup_nil, rfl, fun k a o h => by simp at h, fun k a h => by simp at h, less_nt H, fun p hp => by
    obtain ⟨c, hc⟩ := ht p hp
    exact ⟨less_none (hH _ hc), LamX.TabS.nil (hH _ hc)⟩⟩, .cons (.scr (less_seq hS)) .nil, hlaw ns [] _ _ hl (fun _ => rfl), fun r T' v G' la' H' e _ _ _ z => by
    subst e
    cases z
    rfl, fun _ _ _ _ _ _ _ f _ _ _ _ => f.elim⟩
theorem cx_none {P : Program} {w : World} {H : Hp} {s s' : Shared} {e : Value} (h : L2.CX P w [] H s (fun _ _ _ => False) e s') : False := by
  obtain ⟨a, B, H', cls, d, _, _, _, _, _, _, _, hE⟩ := h
  exact hE
end DL
set_option Elab.async false
set_option linter.all false
set_option maxRecDepth 100000
set_option maxHeartbeats 4000000
set_option autoImplicit false
/-! The data level: two names at once, by a tuple that is built. -/
namespace DL
open PySem PySem.Spec PyProof.Rows L2
end DL
set_option Elab.async false
set_option linter.all false
set_option maxRecDepth 100000
set_option maxHeartbeats 4000000
set_option autoImplicit false
/-! Errors with a field: their own __init__, raised, caught by name. -/
namespace DL
open PySem PySem.Spec PyProof.Rows L2

/-! ### B.__init__(self, ..), B an own class of errors -/
/-- what the text says of the base class -/
structure BaseC (K : PySem.W.Frag) (mg : Str → Option Value) (x : Str) (B : Addr) : Prop where
  g : mg x = some (.ref B)
  k : PySem.W.keepIn K (.ref B) = true
  rd : PySem.W.readsIn K B (.type "type") = true
  ga : PySem.W.specialIn K (.ref B) "__getattribute__" = some (some (.builtin "type.__getattribute__"))
  i : PySem.W.findCls K (.ref B) (.type "type") "__init__" = some (.val (.builtin "ValueError.__init__"))
section
variable {X : Cx} {e : Expr} {es : List Expr} {ta : TA} {p1 p2 pos : Pos} {x : Str} {B : Addr}
end

/-! ### an own __init__ that keeps one field -/
section
variable {P : Program} {w : World} {K : PySem.W.Frag} {mg : Str → Option Value} {base : Heap}
end

/-! ### raise C(e), C with such an __init__ -/
section
variable {X : Cx} {W : WX} {x f : Str} {e : Expr} {fe : DE} {C fI : Addr} {k : Nat} {fd : FuncData} {ps : List Str} {p p3 pos : Pos}
end

/-! ### try, with clauses that name the error -/
def hndlF (R : List Str) (E : DN) : List (Str × (Xn → DS)) → XP
  | [] => E.xn
  | (c, S) :: r => fun x ρ => R.contains x.n = true ∧ if isaN x.n c = true then S x { E with xn := X0 } ρ else hndlF R E r x ρ
def sTryF (R : List Str) (B : DS) (cl : List (Str × (Xn → DS))) : DS := fun E ρ => B { E with xn := hndlF R E cl } ρ
/-- y = 'w' + str(e.f), e the error (slot i), y at slot j -/
def sFld (i j : Nat) (w f : Str) : Xn → DS := fun x E ρ => ρ.s[i]? = some none ∧ i ≠ j ∧ ∃ n : Int, x.f = some (f, .int n) ∧ n.natAbs.log2 < 1920 ∧ w.length + Str.length (toString n) ≤ sizeLine ∧ E.nx ⟨ρ.T, ρ.s.set j (some (.dat (.str (w ++ toString n))))⟩
def tFld (i j : Nat) (w f : Str) (A : Addr) (a : Addr) (cls : Value) (d : Option Addr) : TS :=
  tAsg (tOp (fun x y H Q => ∃ i j, x = .str i ∧ y = .str j ∧ i.length + j.length ≤ sizeLine ∧ Q (.str (i ++ j)) H) (tC (.str w)) (tCB (fun xs H Q => ∃ i, xs = [.int i] ∧ i.natAbs.log2 < 1920 ∧ Q (.str (toString i)) H) (tCons (tXf a cls d A f (tVar i)) tNil))) (gName j)
inductive DClF (X : Cx) (R : List Str) : List ExceptHandler → List Cl → List (Str × (Xn → DS)) → Prop
  | nil : DClF X R [] [] []
  | only {c : Str} {A : Addr} {S : DS} {b : Stmt} {su : List Stmt} {np p : Pos} {hs : List ExceptHandler} {ks : List Cl} {cl : List (Str × (Xn → DS))} (nm : Names X c (.ref A))
      (ex : ∀ n ∈ R, ∀ cls, ClsN X.K n cls → PySem.W.exmOne X.K cls (.ref A) = some (isaN n c))
      (run : ∀ (a : Addr) (o : Obj) (pn : List (Addr × Obj)), PSs (X.suite a ((a, o) :: pn)) (b :: su) (lS X.K W0 S)) (r : DClF X R hs ks cl) :
      DClF X R (.ExceptHandler (some (.Name c np)) none (b :: su) p :: hs) (⟨.ref A, none, fun _ _ _ => lS X.K W0 S⟩ :: ks) ((c, fun _ => S) :: cl)
  | named {c n w f : Str} {i j : Nat} {A : Addr} {b : Stmt} {su : List Stmt} {np p : Pos} {hs : List ExceptHandler} {ks : List Cl} {cl : List (Str × (Xn → DS))} (nm : Names X c (.ref A)) (nd : X.N.Nodup) (hi : X.N[i]? = some n) (hl : X.env.kindOf n = some .local)
      (ex : ∀ n ∈ R, ∀ cls, ClsN X.K n cls → PySem.W.exmOne X.K cls (.ref A) = some (isaN n c)) (hc : PySem.W.nsIn X.K mainGlobals c = some (some (.ref A))) (hd : (c == ("DogError" : Str)) = false)
      (run : ∀ (a : Addr) (o : Obj) (cls : Value) (d : Option Addr) (pn : List (Addr × Obj)), Zc cls d o → (∃ vs, o.data = .fields vs) → PSs (X.suite a ((a, o) :: pn)) (b :: su) (tFld i j w f A a cls d)) (r : DClF X R hs ks cl) :
      DClF X R (.ExceptHandler (some (.Name c np)) (some n) (b :: su) p :: hs) (⟨.ref A, some i, tFld i j w f A⟩ :: ks) ((c, sFld i j w f) :: cl)
section
variable {X : Cx} {W : WX} {R : List Str}
theorem DClF.ok {hs : List ExceptHandler} {ks : List Cl} {cl : List (Str × (Xn → DS))} (h : DClF X R hs ks cl) : ClsOk X hs ks := by
  induction h with
  | nil => exact .nil
  | only nm ex run r ih => exact .cons (.only nm fun a o cls d pn _ _ => run a o pn) ih
  | named nm nd hi hl ex hc hd run r ih => exact .cons (.named nm nd hi hl fun a o cls d pn z f => run a o cls d pn z f) ih
theorem DClF.wish {G : Hp} {la : List Addr} {E : DN} {D : Ends} (b : Bk X.K G la W E D) : ∀ {hs : List ExceptHandler} {ks : List Cl} {cl : List (Str × (Xn → DS))}, DClF X R hs ks cl → ∀ (x : Xn) (ρ' : Env) (σ' : L2.St) (G' : Hp) (la' : List Addr) (H' : Hp) (cls : Value) (od : Option Addr),
    hndlF R E cl x ρ' → Aft X.K G la σ' ρ' G' la' H' → XR X.K G' H' x cls od → (R.contains x.n = true) → wMix X.K W D ks cls od σ' H' := by
  intro hs ks cl h
  induction h with
  | nil =>
    intro x ρ' σ' G' la' H' cls od p a z _
    exact b.xn x ρ' σ' G' la' H' cls od p a z
  | @only c A S b0 su np p0 hs ks cl nm ex run r ih =>
    intro x ρ' σ' G' la' H' cls od p a z hR
    obtain ⟨_, p⟩ := p
    refine ⟨isaN x.n c, ex x.n (by simpa using hR) cls z.1, fun e => ?_, fun e => ?_⟩
    · rw [if_pos e] at p
      intro q hq
      have bb := b.up a.g a.p
      exact ⟨ρ', G', la', _, a.r, p, ⟨bb.nx, bb.bk, bb.ct, bb.rt, fun _ _ _ _ _ _ _ _ f => f.elim⟩⟩
    · rw [if_neg (by rw [e]; exact Bool.false_ne_true)] at p
      exact ih x ρ' σ' G' la' H' cls od p a z hR
  | @named c n w f i j A b0 su np p0 hs ks cl nm nd hi hl ex hc hd run r ih =>
    intro x ρ' σ' G' la' H' cls od p a z hR
    obtain ⟨_, p⟩ := p
    refine ⟨isaN x.n c, ex x.n (by simpa using hR) cls z.1, fun e => ?_, fun e => ?_⟩
    · rw [if_pos e] at p
      intro q hq
      obtain ⟨pi, hij, m, ef, lm, ll, pn⟩ := p
      have exn : x.n = c := by
        unfold isaN at e
        rw [hd, Bool.or_false] at e
        simpa using e
      have ecl : cls = .ref A := by
        have z1 := z.1
        rw [exn] at z1
        exact z1.own hc
      have z2 := z.2
      rw [ef] at z2
      obtain ⟨dd, v, e1, e2, e3⟩ := z2
      cases e3
      have li : i < σ'.length := by
        rw [← a.r.sl]
        exact (List.getElem?_eq_some_iff.mp pi).1
      have g1 : (σ'.set i (some (.ref q)))[i]? = some (some (V.ref q)) := by
        rw [List.getElem?_set_self li]
      refine ⟨.ref q, g1, rfl, ecl, dd, [(f, .int m)], .int m, e1, e2, by simp [List.lookup], m, rfl, lm, w, _, rfl, rfl, ll, ?_⟩
      refine b.nx ⟨ρ'.T, ρ'.s.set j (some (.dat (.str (w ++ toString m))))⟩ _ G' la' H' pn ⟨a.g, a.p, ⟨a.r.tb, ?_, fun y z hy => ?_⟩⟩
      · simp only [List.length_set]
        exact a.r.sl
      · by_cases hyj : j = y
        · subst hyj
          have lj : j < ρ'.s.length := by
            have := (List.getElem?_eq_some_iff.mp hy).1
            simpa using this
          rw [List.getElem?_set_self lj] at hy
          have ez := Option.some.inj (Option.some.inj hy)
          subst ez
          refine ⟨_, ?_, (.str _ : Dp X.K G' _ _)⟩
          rw [List.getElem?_set_ne hij, List.getElem?_set_self (by rw [List.length_set, ← a.r.sl]; exact lj)]
        · rw [List.getElem?_set_ne hyj] at hy
          have hyi : i ≠ y := fun t => by
            subst t
            rw [pi] at hy
            cases hy
          obtain ⟨u, hu, ru⟩ := a.r.at_ y z hy
          exact ⟨u, by rw [List.getElem?_set_ne hyi, List.getElem?_set_ne hyj, List.getElem?_set_ne hyi]; exact hu, ru⟩
    · rw [if_neg (by rw [e]; exact Bool.false_ne_true)] at p
      exact ih x ρ' σ' G' la' H' cls od p a z hR
end
end DL
set_option Elab.async false
set_option linter.all false
set_option maxRecDepth 100000
set_option maxHeartbeats 4000000
set_option autoImplicit false
/-! Errors as values: made, asked for their class, their field read. -/
namespace DL
open PySem PySem.Spec PyProof.Rows L2
def fldN : List (Str × Str) := [("TooMany", "limit"), ("InvalidText", "line")]
/-! ### X(e) as a value -/
section
variable {X : Cx} {W : WX} {x f : Str} {e : Expr} {fe : DE} {C fI : Addr} {k : Nat} {fd : FuncData} {ps : List Str} {p pos : Pos} {ta : TA} {es : List Expr} {sp : Sp}
end
section
variable {X : Cx} {W : WX} {x f : Str} {e : Expr} {fe : DE} {C fI : Addr} {k : Nat} {fd : FuncData} {ps : List Str} {p pos : Pos}
end

/-! ### isinstance -/
/-- what the class of an error must say, so that its instances are asked rightly -/
structure ErrK (K : PySem.W.Frag) (C : Addr) : Prop where
  cl : (PySem.W.clsIn K C).isSome = true
  hg : PySem.W.findIn K (.ref C) "__getattribute__" = some (some (.builtin "BaseException.__getattribute__"))
  hk : PySem.W.findIn K (.ref C) "__getattr__" = some none
  hs : PySem.W.subIn K (.ref C) (.type "BaseException") = some true
  ha : PySem.W.findIn K (.ref C) "__class__" = some (some (.builtin "object.__class__"))
  hm : PySem.W.mroIn K C (.type "object") = some true
structure ErrAll (K : PySem.W.Frag) (N : List Str) : Prop where
  hn : PySem.W.specialIn K (.builtin "object.__class__") "__get__" = some (some (.builtin "getset_descriptor.__get__"))
  ht : PySem.W.takesIn K (.builtin "object.__class__") = some true
  c : ∀ n ∈ N, ∀ C, PySem.W.nsIn K mainGlobals n = some (some (.ref C)) → ErrK K C
  i : ∀ n ∈ N, ∀ c ∈ N, ∀ C D, PySem.W.nsIn K mainGlobals n = some (some (.ref C)) → PySem.W.nsIn K mainGlobals c = some (some (.ref D)) → PySem.W.kitOne K (.ref C) (.ref D) = some (isaN n c)
  v : ∀ n ∈ N, ∀ C, PySem.W.nsIn K mainGlobals n = some (some (.ref C)) → PySem.W.kitOne K (.ref C) (.type "ValueError") = some true
theorem fm0 {α : Type} {P : α → Prop} : ∀ p ∈ ([] : List α), P p := fun p h => nomatch h
theorem fm2 {α : Type} {P : α → Prop} {a : α} {l : List α} (h : P a) (r : ∀ p ∈ l, P p) : ∀ p ∈ a :: l, P p := fun p hp => by
  rcases List.mem_cons.mp hp with rfl | hp
  · exact h
  · exact r p hp
theorem fldAll_mk {K : PySem.W.Frag} {F : List (Str × Str)} (L : List ((Str × Str) × Addr)) (hN : L.map (·.1) = F) (hL : ∀ p ∈ L, PySem.W.nsIn K mainGlobals p.1.1 = some (some (.ref p.2))) (hc : ∀ p ∈ L, XfC K p.2 ∧ PySem.W.findIn K (.ref p.2) p.1.2 = some none) :
    ∀ q ∈ F, ∀ C, PySem.W.nsIn K mainGlobals q.1 = some (some (.ref C)) → XfC K C ∧ PySem.W.findIn K (.ref C) q.2 = some none := by
  subst hN
  intro q hq C h
  obtain ⟨p, hp, rfl⟩ := List.mem_map.mp hq
  have := hL p hp
  rw [h] at this
  cases this
  exact hc p hp
/-! ### e.f -/
end DL
set_option Elab.async false
set_option linter.all false
set_option maxRecDepth 100000
set_option maxHeartbeats 4000000
set_option autoImplicit false
/-! Texts at data level: join, split, strip, str, int, the signs of a text. -/
namespace DL
open PySem PySem.Spec PyProof.Rows L2

/-! ### methods of a text with one argument -/
section
variable {X : Cx} {W : WX} {o e : Expr} {fo fe : DE}
end

/-! ### str, int -/
/-! ### the signs of a text -/
end DL
set_option Elab.async false
set_option linter.all false
set_option maxRecDepth 100000
set_option maxHeartbeats 4000000
set_option autoImplicit false
/-! try with named clauses; text * int; index and count of lists. -/
namespace DL
open PySem PySem.Spec PyProof.Rows L2
section
variable {X : Cx} {W : WX} {R : List Str}
theorem ds_tryF {body : List Stmt} {h0 : ExceptHandler} {hds : List ExceptHandler} {ks : List Cl} {pos : Pos} {B : DS} {c : Str × (Xn → DS)} {cl : List (Str × (Xn → DS))} (hs : X.stack = X.env :: X.outer) (hf : X.env.frame = some X.env.locals) (tk : Takes X W)
    (hb : ∀ (W' : WX) (pn : List (Addr × Obj)) (xe : Value → Shared → Prop), Takes (X.tr pn xe) W' → PassesOwn (model X.prog X.w) X.A X.env xe → PSs (X.tr pn xe) body (lS X.K W' B))
    (hk : DClF X R (h0 :: hds) ks (c :: cl)) : PS X (.Try body (h0 :: hds) [] [] pos) (lS X.K W (sTryF R B (c :: cl))) :=
  ps_imp (ps_tryC (tb := fun W' => lS X.K W' B) hs hf tk hb hk.ok) fun D σ H ⟨ρ, G, la, E, r, f, b⟩ =>
    ⟨ρ, G, la, { E with xn := hndlF R E (c :: cl) }, r, f, ⟨b.nx, b.bk, b.ct, b.rt, fun x ρ' σ' G' la' H' cls od p a z => DClF.wish b hk x ρ' σ' G' la' H' cls od p a z p.1⟩⟩
end
/-! ### text * int -/
/-! ### list.index, list.count -/
section
variable {X : Cx} {W : WX} {o e : Expr} {fo fe : DE}
end
end DL
set_option Elab.async false
set_option linter.all false
set_option maxRecDepth 100000
set_option maxHeartbeats 4000000
set_option autoImplicit false
/-! The data level: instances of classes of one's own; their fields. -/
namespace DL
open PySem PySem.Spec PyProof.Rows L2
/-! ### fields -/
def putD (f : Str) (d : D) : List (Str × D) → List (Str × D)
  | [] => [(f, d)]
  | (g, x) :: r => if g = f then (g, d) :: r else (g, x) :: putD f d r
section
variable {K : PySem.W.Frag} {G H : Hp} {la : List Addr} {T : List Ob}
theorem put_fst {f : Str} {d : D} {y : V} : ∀ {vs : List (Str × V)} {fs : List (Str × D)}, vs.map (·.1) = fs.map (·.1) → (putF f y vs).map (·.1) = (putD f d fs).map (·.1)
  | [], [], _ => rfl
  | [], _ :: _, e => by cases e
  | _ :: _, [], e => by cases e
  | (g, v) :: vs, (g', x) :: fs, e => by
    have e1 : g = g' := (List.cons.inj e).1
    subst e1
    by_cases q : g = f
    · simp only [putF, putD, if_pos q, List.map_cons]
      rw [(List.cons.inj e).2]
    · simp only [putF, putD, if_neg q, List.map_cons]
      rw [put_fst (List.cons.inj e).2]
theorem put_snd {f : Str} {d : D} {y : V} (dy : Dp K G y d) : ∀ {vs : List (Str × V)} {fs : List (Str × D)}, vs.map (·.1) = fs.map (·.1) → Dps K G (vs.map (·.2)) (fs.map (·.2)) → Dps K G ((putF f y vs).map (·.2)) ((putD f d fs).map (·.2))
  | [], [], _, _ => .cons dy .nil
  | [], _ :: _, e, _ => by cases e
  | _ :: _, [], e, _ => by cases e
  | (g, v) :: vs, (g', x) :: fs, e, r => by
    have e1 : g = g' := (List.cons.inj e).1
    subst e1
    cases r with
    | cons a r =>
      by_cases q : g = f
      · simp only [putF, putD, if_pos q, List.map_cons]
        exact .cons dy r
      · simp only [putF, putD, if_neg q, List.map_cons]
        exact .cons a (put_snd dy (List.cons.inj e).2 r)
/-- the instance at k, in the heap -/
theorem Rl.ins_at (r : Rl K G H la T) {k : Nat} {a C : Addr} {Cn : Str} {fs : List (Str × D)} (ha : la[k]? = some a) (hk : T[k]? = some (.ins Cn fs)) (hC : PySem.W.nsIn K mainGlobals Cn = some (some (.ref C))) :
    ∃ dx vs, H a = some (.ins C dx vs) ∧ H dx = some (.own a) ∧ G a = none ∧ vs.map (·.1) = fs.map (·.1) ∧ Dps K G (vs.map (·.2)) (fs.map (·.2)) := by
  obtain ⟨g, Ca, dx, vs, n, h, o, e, d⟩ := r.tab k a _ ha hk
  rw [hC] at n
  cases n
  exact ⟨dx, vs, h, o, g, e, d⟩
theorem tabS_writeI {P a C dx C' dx' : Addr} {q : Str} {xs ys : List (Str × V)} (h : LamX.TabS H P q) (ha : H a = some (.ins C dx xs)) : LamX.TabS (upd H a (.ins C' dx' ys)) P q := by
  obtain ⟨ps, e, t, f⟩ := h
  have n1 : P ≠ a := fun z => by
    rw [z, ha] at e
    cases e
  refine ⟨ps, by rw [upd_ne n1]; exact e, t, fun pos cv hc => ?_⟩
  obtain ⟨c, e1, e2⟩ := f pos cv hc
  have n2 : c ≠ a := fun z => by
    rw [z, ha] at e2
    have := Option.some.inj e2
    unfold LamX.CodeO at this
    cases this
  exact ⟨c, e1, by rw [upd_ne n2]; exact e2⟩
/-- the instance at k is written -/
theorem Rl.writeI (r : Rl K G H la T) {k : Nat} {a C dx : Addr} {Cn : Str} {fs fs' : List (Str × D)} {vs vs' : List (Str × V)} (ha : la[k]? = some a) (hk : T[k]? = some (.ins Cn fs)) (hC : PySem.W.nsIn K mainGlobals Cn = some (some (.ref C)))
    (hH : H a = some (.ins C dx vs)) (e : vs'.map (·.1) = fs'.map (·.1)) (d : Dps K G (vs'.map (·.2)) (fs'.map (·.2))) : Rl K G (upd H a (.ins C dx vs')) la (T.set k (.ins Cn fs')) := by
  obtain ⟨dx0, vs0, h, ho, g, _, _⟩ := r.ins_at ha hk hC
  rw [hH] at h
  cases h
  refine ⟨fun b o e => ?_, r.nd, by simp [r.len], fun j b o hb ho' => ?_, fun j b hb => ?_, r.nt, fun p hp => ⟨(r.tbl p hp).1, tabS_writeI (r.tbl p hp).2 hH⟩⟩
  · have nb : b ≠ a := fun z => by
      rw [z, g] at e
      cases e
    rw [upd_ne nb]
    exact r.ext b o e
  · by_cases hj : j = k
    · subst hj
      have hl : j < T.length := (List.getElem?_eq_some_iff.mp hk).1
      rw [List.getElem?_set_self hl] at ho'
      have e0 := Option.some.inj ho'
      subst e0
      have e2 := Option.some.inj (hb.symm.trans ha)
      subst e2
      exact ⟨g, C, dx, vs', hC, upd_same, by rw [upd_ne (fun z => by rw [z, hH] at ho; cases ho)]; exact ho, e, d⟩
    · rw [List.getElem?_set_ne (Ne.symm hj)] at ho'
      have nb : b ≠ a := fun e => by
        subst e
        obtain ⟨h1, e1⟩ := List.getElem?_eq_some_iff.mp hb
        obtain ⟨h2, e2⟩ := List.getElem?_eq_some_iff.mp ha
        exact hj ((List.getElem_inj r.nd).mp (e1.trans e2.symm))
      have z := r.tab j b o hb ho'
      cases o with
      | dead => exact True.intro
      | lst ds =>
        obtain ⟨g2, vs2, h2, l2, d2⟩ := z
        exact ⟨g2, vs2, by rw [upd_ne nb]; exact h2, l2, d2⟩
      | dic ks ds =>
        obtain ⟨g2, vs2, h2, e2, l2, d2⟩ := z
        exact ⟨g2, vs2, by rw [upd_ne nb]; exact h2, e2, l2, d2⟩
      | ins C2 fs2 =>
        obtain ⟨g2, Ca, dx2, vs2, n2, h2, o2, e2, d2⟩ := z
        exact ⟨g2, Ca, dx2, vs2, n2, by rw [upd_ne nb]; exact h2, by rw [upd_ne (fun z => by rw [z, hH] at o2; cases o2)]; exact o2, e2, d2⟩
  · by_cases hb2 : b = a
    · subst hb2
      exact ⟨_, upd_same, (by intro ps z; cases z), (by intro ps z; cases z)⟩
    · obtain ⟨o, h, n⟩ := r.there j b hb
      exact ⟨o, by rw [upd_ne hb2]; exact h, n⟩
/-- a new instance, ours alone -/
theorem Rl.freshI (r : Rl K G H la T) {x dx C : Addr} {Cn : Str} (hx : H x = none) (hd : H dx = none) (hn : dx ≠ x) (hC : PySem.W.nsIn K mainGlobals Cn = some (some (.ref C))) :
    Rl K G (upd (upd H dx (.own x)) x (.ins C dx [])) (la ++ [x]) (T ++ [.ins Cn []]) := by
  have hn' : x ∉ la := fun hm => by
    obtain ⟨i, hi, e⟩ := List.getElem_of_mem hm
    obtain ⟨o, h, _⟩ := r.there i x (by rw [List.getElem?_eq_getElem hi, e])
    rw [hx] at h
    cases h
  have s0 : Same H (upd H dx (.own x)) := same_new hd
  have hx2 : (upd H dx (.own x)) x = none := by rw [upd_ne (Ne.symm hn)]; exact hx
  have s1 : Same H (upd (upd H dx (.own x)) x (.ins C dx [])) := s0.trans (same_new hx2)
  refine ⟨r.ext.trans s1, ?_, by simp [r.len], fun j b o hb ho => ?_, fun j b hb => ?_, r.nt, fun q hq => ⟨(r.tbl q hq).1, (r.tbl q hq).2.ext s1⟩⟩
  · rw [List.nodup_append]
    exact ⟨r.nd, by simp, fun y hy z hz => by
      have e : z = x := by simpa using hz
      rw [e]
      intro q
      exact hn' (q ▸ hy)⟩
  · by_cases hj : j < la.length
    · rw [List.getElem?_append_left hj] at hb
      rw [List.getElem?_append_left (by rw [← r.len]; exact hj)] at ho
      exact (r.tab j b o hb ho).grow ⟨Same.refl _, s1, r.ext.trans s1, fun _ h _ => h, fun h => h⟩
    · rw [List.getElem?_append_right (by omega)] at hb
      rw [List.getElem?_append_right (by rw [← r.len]; omega), ← r.len] at ho
      cases q : j - la.length with
      | zero =>
        rw [q] at hb ho
        have e1 : x = b := Option.some.inj hb
        have e2 : Ob.ins Cn [] = o := Option.some.inj ho
        subst e1 e2
        exact ⟨none_of r.ext hx, C, dx, [], hC, upd_same, by rw [upd_ne hn, upd_same], rfl, .nil⟩
      | succ m =>
        rw [q] at hb
        simp at hb
  · by_cases hj : j < la.length
    · rw [List.getElem?_append_left hj] at hb
      exact there_grow s1 (r.there j b hb)
    · rw [List.getElem?_append_right (by omega)] at hb
      cases q : j - la.length with
      | zero =>
        rw [q] at hb
        have e1 : x = b := Option.some.inj hb
        subst e1
        exact ⟨_, upd_same, (by intro ps z; cases z), (by intro ps z; cases z)⟩
      | succ m =>
        rw [q] at hb
        simp at hb
end
end DL
set_option Elab.async false
set_option linter.all false
set_option maxRecDepth 100000
set_option maxHeartbeats 4000000
set_option autoImplicit false
/-! The data level: what a class of one's own answers to operators. -/
namespace DL
open PySem PySem.Spec PyProof.Rows L2
abbrev WF' (E : XK) : WX := fun cls d _ H => E cls d H
theorem passE {X : Cx} {E : XK} (tk : Takes X (WF' E)) : Passes (L2.CX X.prog X.w) X E := fun pins σ H s e s' I c => passAt tk σ pins H s e s' I c
/-- a class by its name -/
structure ClsI (K : PySem.W.Frag) (Cn : Str) (C : Addr) : Prop where
  nm : PySem.W.nsIn K mainGlobals Cn = some (some (.ref C))
  cl : Cls K C
  sf : PySem.W.selfFirst K C = true
  mo : PySem.W.mroIn K C (.type "object") = some true
  ca : PySem.W.findIn K (.ref C) "__class__" = some (some (.builtin "object.__class__"))
  cn : PySem.W.specialIn K (.builtin "object.__class__") "__get__" = some (some (.builtin "getset_descriptor.__get__"))
  ct : PySem.W.takesIn K (.builtin "object.__class__") = some true
  me : PySem.W.kitOne K (.ref C) (.ref C) = some true
  mt : ∀ T ∈ (["NoneType", "bool", "int", "str", "tuple", "list"] : List String), PySem.W.kitOne K (.type T) (.ref C) = some false
/-- a def of a class, and what it promises -/
structure OwnF (X : Cx) (C : Addr) (m : Str) (f : Addr) (k n : Nat) (F : DF) : Prop where
  at_ : PySem.W.findIn X.K (.ref C) m = some (some (.ref f))
  fn : PySem.W.isFn X.K (.ref f) = true
  fi : PySem.W.fnIn X.K f = true
  kp : PySem.W.keepIn X.K (.ref f) = true
  run : FnR X.prog X.w X.K X.mg X.base (L2.CX X.prog X.w) k f (spD X.K n F)
theorem OwnF.of {X : Cx} {C f : Addr} {m : Str} {k n : Nat} {F : DF} {fd : FuncData} {ps : List Str} (Fk : FnOk X.prog X.w X.K X.mg X.base (L2.CX X.prog X.w) k f fd ps (spD X.K n F)) (hb : Binds X.K fd ps [])
    (h1 : PySem.W.findIn X.K (.ref C) m = some (some (.ref f))) (h2 : PySem.W.isFn X.K (.ref f) = true) (h3 : PySem.W.fnIn X.K f = true) (h4 : PySem.W.keepIn X.K (.ref f) = true) : OwnF X C m f k n F :=
  ⟨h1, h2, h3, h4, (FnOk.raw Fk hb .nil).imp fun vs H Q E h => by rw [List.append_nil]; exact h⟩
section
variable {X : Cx} {E : XK} {C f : Addr} {m : Str} {k n : Nat} {F : DF}
variable {pins : List (Addr × Obj)} {σ : L2.St} {H : Hp} {s : Shared}
/-! ### by values -/
end
section
variable {X : Cx} {E : XK} {C f : Addr} {m : Str} {k : Nat} {F : DF} {a b : Expr} {pos : Pos} {ta tb : TE}
end
end DL
set_option Elab.async false
set_option linter.all false
set_option maxRecDepth 100000
set_option maxHeartbeats 4000000
set_option autoImplicit false
/-! The data level: fields, operators and methods of instances. -/
namespace DL
open PySem PySem.Spec PyProof.Rows L2
/-! ### fields -/
def dFldO (Cn f : Str) (o : DL') : DE := fun X ρ Q => o X ρ fun x ρ1 => match x with
  | .ob k => match ρ1.T[k]? with
    | some (.ins C fs) => match fs.lookup f with
      | some d => C = Cn ∧ Q d ρ1
      | none => False
    | _ => False
  | _ => False
def sFldO (Cn f : Str) (o : DL') (e : DE) : DS := fun E ρ => e E.xn ρ fun d ρ1 => o E.xn ρ1 fun x ρ2 => match x with
  | .ob k => match ρ2.T[k]? with
    | some (.ins C fs) => C = Cn ∧ fs.length ≤ 900 ∧ E.nx ⟨ρ2.T.set k (.ins C (putD f d fs)), ρ2.s⟩
    | _ => False
  | _ => False
section
variable {X : Cx} {W : WX} {Cn f : Str} {C : Addr} {o e : Expr} {fo : DL'} {fe : DE} {pos pos' : Pos}
theorem ds_fldO (c : ClsI X.K Cn C) (na : NoAttr X.K C f) (ho : PE X o (lL X.K W fo)) (he : PE X e (lE X.K W fe)) (hs : swapsWith e (some (.Attribute o f pos')) pos.line X.env = pure false := by rfl) : PS X (.Assign [.Attribute o f pos'] e pos) (lS X.K W (sFldO Cn f fo fe)) :=
  ps_imp (ps_fld ho he hs) fun D σ H ⟨ρ, G, la, E, r, h, b⟩ => ⟨ρ, G, la, _, _, r, h, fun d ρ1 y G1 la1 H1 p1 a1 z1 => ⟨ρ1, G1, la1, _, _, a1.r, p1, fun x ρ2 v G2 la2 H2 p2 a2 z2 => by
    cases x with
    | dat d => exact (show False from p2).elim
    | clo _ _ _ => exact (show False from p2).elim
    | ob k =>
      obtain ⟨a, ha, ev⟩ := z2
      have p3 : (match ρ2.T[k]? with
        | some (.ins C fs) => C = Cn ∧ fs.length ≤ 900 ∧ E.nx ⟨ρ2.T.set k (.ins C (putD f d fs)), ρ2.s⟩
        | _ => False) := p2
      split at p3
      · rename_i C' fs hk
        obtain ⟨rfl, lf, p4⟩ := p3
        obtain ⟨dx, vs, hH, _, _, e1, e2⟩ := a2.r.tb.ins_at ha hk c.nm
        have lv : vs.length = fs.length := by
          have := congrArg List.length e1
          simpa using this
        exact ⟨a, C, dx, vs, ev, hH, c.cl, na, by omega, b.nx _ _ _ _ _ p4 ⟨a1.g.trans a2.g, a1.p.trans a2.p, ⟨a2.r.tb.writeI ha hk c.nm hH (put_fst e1) (put_snd (z1.up a2.g) e1 e2), a2.r.sl, a2.r.at_⟩⟩⟩
      · exact p3.elim, b.xn.up a1.g a1.p⟩, b.xn⟩
end
/-! ### what is asked of an instance, with arguments -/
def OwnP (Cn : Str) (n : Nat) (F : DF) (P : Sl → Env → Prop) (XX : XP) (ss : List Sl) (ρ1 : Env) : Prop := match ss with
  | .ob k :: r => match ρ1.T[k]? with
    | some (.ins C _) => C = Cn ∧ r.length + 1 = n ∧ F (.ob k :: r) ρ1.T (fun x T' => P x ⟨T', ρ1.s⟩) (fun x T' => XX x ⟨T', ρ1.s⟩)
    | _ => False
  | _ => False
def dOwn (Cn : Str) (n : Nat) (F : DF) (fa : DA) : DL' := fun X ρ Q => fa X ρ fun ss ρ1 => OwnP Cn n F Q X ss ρ1
section
variable {K : PySem.W.Frag} {E : XK} {Cn : Str} {C : Addr} {n : Nat} {F : DF}
end
/-! ### operators -/
/-- the right operand is of a type that is known -/
def okTy (Cn : Str) (T : List Ob) : Sl → Prop
  | .dat d => match tyD d with
    | some _ => True
    | none => False
  | .ob k => match T[k]? with
    | some (.ins C _) => C = Cn
    | _ => False
  | _ => False
def dOwnT (Cn : Str) (F : DF) (fa fb : DL') : DL' := fun X ρ Q => fa X ρ fun x ρ1 => fb X ρ1 fun y ρ2 => okTy Cn ρ2.T y ∧ OwnP Cn 2 F Q X [x, y] ρ2
section
variable {K : PySem.W.Frag} {E : XK} {Cn : Str} {C : Addr} {n : Nat} {F : DF}
end
end DL
set_option Elab.async false
set_option linter.all false
set_option maxRecDepth 100000
set_option maxHeartbeats 4000000
set_option autoImplicit false
/-! The data level: expressions and statements about instances. -/
namespace DL
open PySem PySem.Spec PyProof.Rows L2
def intSl (Q : D → Env → Prop) : Sl → Env → Prop := fun r ρ' => match r with
  | .dat (.int i) => 0 ≤ i ∧ i < 2 ^ 63 ∧ Q (.int i) ρ'
  | _ => False
def strSl (Q : D → Env → Prop) : Sl → Env → Prop := fun r ρ' => match r with
  | .dat (.str i) => Q (.str i) ρ'
  | _ => False
def blSl (Q : D → Env → Prop) : Sl → Env → Prop := fun r ρ' => match r with
  | .dat (.bl i) => Q (.bl i) ρ'
  | _ => False
def dLenI (Cn : Str) (F : DF) (fx : DL') : DE := fun X ρ Q => fx X ρ fun x ρ1 => OwnP Cn 1 F (intSl Q) X [x] ρ1
def dStrI (Cn : Str) (F : DF) (fx : DL') : DE := fun X ρ Q => fx X ρ fun x ρ1 => OwnP Cn 1 F (strSl Q) X [x] ρ1
def dBoolI (Cn : Str) (F : DF) (fx : DL') : DE := fun X ρ Q => fx X ρ fun x ρ1 => OwnP Cn 1 F (blSl Q) X [x] ρ1
/-- y in x -/
def dInI (Cn : Str) (F : DF) (fy fx : DL') : DE := fun X ρ Q => fy X ρ fun y ρ1 => fx X ρ1 fun x ρ2 => OwnP Cn 2 F (blSl Q) X [x, y] ρ2
def sAugI (i : Nat) (Cn : Str) (F : DF) (fe : DL') : DS := fun E ρ => match ρ.s[i]? with
  | some (some x) => fe E.xn ρ fun y ρ1 => OwnP Cn 2 F (fun z ρ2 => E.nx ⟨ρ2.T, ρ2.s.set i (some z)⟩) E.xn [x, y] ρ1
  | _ => False
/-- o.m(..) -/
def dMeth (Cn m : Str) (n : Nat) (F : DF) (o : DL') (fa : DA) : DL' := fun X ρ Q => o X ρ fun x ρ1 => match x with
  | .ob k => match ρ1.T[k]? with
    | some (.ins C fs) => match fs.lookup m with
      | none => C = Cn ∧ fa X ρ1 fun ss ρ2 => ss.length + 1 = n ∧ F (.ob k :: ss) ρ2.T (fun x T' => Q x ⟨T', ρ2.s⟩) (fun x T' => X x ⟨T', ρ2.s⟩)
      | some _ => False
    | _ => False
  | _ => False
/-- C(..) -/
def dMake (Cn : Str) (F : DF) (fa : DA) : DL' := fun X ρ Q => fa X ρ fun ss ρ1 => F (.ob ρ1.T.length :: ss) (ρ1.T ++ [.ins Cn []]) (fun r T' => match r with
  | .dat .non => Q (.ob ρ1.T.length) ⟨T', ρ1.s⟩
  | _ => False) (fun x T' => X x ⟨T', ρ1.s⟩)
/-- .., *e -/
def dStar (fe : DE) (fr : DA) : DA := fun X ρ Q => fe X ρ fun d ρ1 => match d with
  | .tup ds => fr X ρ1 fun xs ρ2 => Q (ds.map .dat ++ xs) ρ2
  | _ => False
section
variable {X : Cx} {E : XK} {Cn : Str} {C f : Addr} {k n : Nat} {F : DF} {a b e : Expr} {es : List Expr} {fa fb fe : DL'} {ff : DE} {fr : DA} {pos p : Pos}
end
end DL
set_option Elab.async false
set_option linter.all false
set_option maxRecDepth 100000
set_option maxHeartbeats 4000000
set_option autoImplicit false
/-! The data level: instances made, methods called, x op= y. -/
namespace DL
open PySem PySem.Spec PyProof.Rows L2
section
variable {X : Cx} {E : XK} {Cn m : Str} {C f : Addr} {k n : Nat} {F : DF} {a b e o : Expr} {es : List Expr} {fa fb fe fo : DL'} {ff : DE} {fr : DA} {pos p apos : Pos}
/-- the def that makes an instance ready -/
def spDA (K : PySem.W.Frag) (F : DF) : Sp := fun vs H Q E => spD K vs.length F vs H Q E
structure IniF (X : Cx) (C f : Addr) (k : Nat) (F : DF) : Prop where
  mks : Mk X.K C f
  run : FnR X.prog X.w X.K X.mg X.base (L2.CX X.prog X.w) k f (spDA X.K F)
theorem make_core {K : PySem.W.Frag} (c : ClsI K Cn C) : ∀ (σ : L2.St) (H : Hp) (Q : VK), lL K (WF' E) (dMake Cn F fr) σ H Q → StX.tMakeR C (spDA K F) E (lA K (WF' E) fr) σ H Q := fun σ H Q ⟨ρ, G, la, P, XX, r, h, q, xo⟩ =>
  ⟨ρ, G, la, _, XX, r, h, fun ss ρ1 vs G1 la1 H1 p1 a1 z1 x dx hx hd hn => by
    have p2 : F (.ob ρ1.T.length :: ss) (ρ1.T ++ [.ins Cn []]) (fun r T' => match r with
      | .dat .non => P (.ob ρ1.T.length) ⟨T', ρ1.s⟩
      | _ => False) (fun x T' => XX x ⟨T', ρ1.s⟩) := p1
    have s0 : Same H1 (upd H1 dx (.own x)) := same_new hd
    have hx2 : (upd H1 dx (.own x)) x = none := by rw [upd_ne (Ne.symm hn)]; exact hx
    have rl1 := a1.r.tb.freshI hx hd hn c.nm
    have pf : la1 <+: la1 ++ [x] := List.prefix_append _ _
    have gx : (la1 ++ [x])[ρ1.T.length]? = some x := by
      rw [← a1.r.tb.len, List.getElem?_append_right (Nat.le_refl _)]
      simp
    refine ⟨rfl, .ob ρ1.T.length :: ss, G1, la1 ++ [x], ρ1.T ++ [.ins Cn []], _, _, rl1, .cons ⟨x, gx, rfl⟩ (z1.up (Same.refl _) pf), p2, fun r2 T' v' G' la' H' pr g pp rl sr => ?_, fun y T' G' la' H' cls od px g pp rl xr' => ?_⟩
    · have gr : ∀ {i : Nat} {y : Sl}, ρ1.s[i]? = some (some y) → ∃ v, σ[i]? = some (some v) ∧ SlR K G' la' v y := fun {i y} hy => by
        obtain ⟨u, hu, ru⟩ := a1.r.at_ i y hy
        exact ⟨u, hu, ru.grow g (pf.trans pp)⟩
      cases r2 with
      | dat d =>
        cases d with
        | non =>
          cases sr
          refine ⟨rfl, q _ _ _ _ _ _ pr ⟨a1.g.trans g, a1.p.trans (pf.trans pp), ⟨rl, a1.r.sl, fun i y hy => gr hy⟩⟩ ⟨x, pre_at pp gx, rfl⟩⟩
        | _ => exact (show False from pr).elim
      | _ => exact (show False from pr).elim
    · refine xo y ⟨T', ρ1.s⟩ σ G' la' H' cls od px ⟨a1.g.trans g, a1.p.trans (pf.trans pp), ⟨rl, a1.r.sl, fun i y hy => ?_⟩⟩ xr'
      obtain ⟨u, hu, ru⟩ := a1.r.at_ i y hy
      exact ⟨u, hu, ru.grow g (pf.trans pp)⟩, xo⟩
theorem dl_make {x : Str} (c : ClsI X.K Cn C) (ow : IniF X C f k F) (hr : Room (k + 1) X.A) (tk : Takes X (WF' E)) (hm : X.mg x = some (.ref C)) (ha : PA X (e :: es) (lA X.K (WF' E) fr)) (hg : Gl X x := by rfl) (hdb : (x == ("__debug__" : Str)) = false := by decide)
    (he : starEach (e :: es) X.env = (false, eval e X.env) :: starEach es X.env := by rfl) (hpl : (backTo pos (starEach es X.env)).any (·.1) = false := by rfl) : PE X (.Call (.Name x p) (e :: es) [] pos) (lL X.K (WF' E) (dMake Cn F fr)) :=
  pe_imp (StX.pe_makeR ow.mks ow.run hr hg hm (passE tk) ha hdb he hpl) (make_core c)
theorem SlsR.app {K : PySem.W.Frag} {G : Hp} {la : List Addr} : ∀ {vs ws : List V} {xs ys : List Sl}, SlsR K G la vs xs → SlsR K G la ws ys → SlsR K G la (vs ++ ws) (xs ++ ys)
  | _, _, _, _, .nil, h => h
  | _, _, _, _, .cons a r, h => .cons a (SlsR.app r h)
end
end DL
set_option Elab.async false
set_option linter.all false
set_option maxRecDepth 100000
set_option maxHeartbeats 4000000
set_option autoImplicit false
/-! The data level: properties, calls of instances, of classmethods; isinstance; a walk over a display that holds instances. -/
namespace DL
open PySem PySem.Spec PyProof.Rows L2
def dProp (Cn : Str) (F : DF) (fo : DL') : DL' := fun X ρ Q => fo X ρ fun x ρ1 => OwnP Cn 1 F Q X0 [x] ρ1
def dCallO (Cn : Str) (n : Nat) (F : DF) (ff : DL') (fr : DA) : DL' := fun X ρ Q => ff X ρ fun x ρ1 => match x with
  | .ob k => fr X ρ1 fun ss ρ2 => OwnP Cn n F Q X (.ob k :: ss) ρ2
  | _ => False
/-- C(..) where the class stands in a name of the def -/
def dMakeV (i : Nat) (Cn : Str) (F : DF) (fa : DA) : DL' := fun X ρ Q => match ρ.s[i]? with
  | some (some (.dat (.fn x))) => x = Cn ∧ dMake Cn F fa X ρ Q
  | _ => False
def dIsI (Cn : Str) (fx : DL') : DE := fun X ρ Q => fx X ρ fun x ρ1 => match x with
  | .dat d => match tyD d with
    | some _ => Q (.bl false) ρ1
    | none => False
  | .ob k => match ρ1.T[k]? with
    | some (.ins C _) => C = Cn ∧ Q (.bl true) ρ1
    | _ => False
  | _ => False
section
variable {X : Cx} {E : XK} {Cn m : Str} {C f g : Addr} {k n : Nat} {F : DF} {a b e o fe : Expr} {es : List Expr} {ff fo fx : DL'} {fr : DA} {pos p apos p2 : Pos}
/-- bool of a bool -/
def gBool : List D → (D → Prop) → Prop
  | [.bl b], P => P (.bl b)
  | _, _ => False
end
section
variable {X : Cx} {W : WX}
end
end DL
set_option Elab.async false
set_option linter.all false
set_option maxRecDepth 100000
set_option maxHeartbeats 4000000
set_option autoImplicit false
/-! The data level: things that may be called, as values. -/
namespace DL
open PySem PySem.Spec PyProof.Rows L2

/-- a thing that may be called: where it stands, what was known of it, how many values it takes, what it promises -/
structure Clo where
  f : Addr
  G : Hp
  la : List Addr
  n : Nat
  S : DF
abbrev Clo.sl (c : Clo) : Sl := .clo c.f c.G c.la
def spC (K : PySem.W.Frag) (c : Clo) : Sp := fun vs H Q E => vs.length = c.n ∧ ∃ ss G la T P PX, Rl K G H la T ∧ Same c.G G ∧ c.la <+: la ∧ SlsR K G la vs ss ∧ c.S ss T P PX ∧
  (∀ r T' v G' la' H', P r T' → Same G G' → la <+: la' → Rl K G' H' la' T' → SlR K G' la' v r → Q v H') ∧ (∀ x T' G' la' H' cls od, PX x T' → Same G G' → la <+: la' → Rl K G' H' la' T' → XR K G' H' x cls od → E cls od H')
structure CloOk (P : Program) (w : World) (K : PySem.W.Frag) (mg : Str → Option Value) (base : Heap) (k : Nat) (c : Clo) : Prop where
  fn : ∀ (H : Hp) (h : Heap), K.In h → HOk P w H h → Same c.G H → PySem.W.FnAt c.f h
  run : FnR P w K mg base (L2.CX P w) k c.f (spC K c)
theorem CloOk.mono {P : Program} {w : World} {K : PySem.W.Frag} {mg : Str → Option Value} {base : Heap} {j k : Nat} {c : Clo} (C : CloOk P w K mg base j c) (h : j ≤ k) : CloOk P w K mg base k c := ⟨C.fn, C.run.mono h⟩
section
variable {X : Cx} {pins : List (Addr × Obj)} {σ : L2.St} {H : Hp} {s : Shared}
theorem run_R {bp : Heap} {f : Addr} {k : Nat} {sp : Sp} {E : XK} {Q : VK} {us : List Value} {vs : List V} (F : FnR X.prog X.w X.K X.mg bp (L2.CX X.prog X.w) k f sp) (hr : Room k X.A) (hx : PassesAt (L2.CX X.prog X.w) X σ E) (I : Inv X pins σ H s)
    (e0 : Env0 X.prog X.w X.K X.mg bp X.A X.stack s H) (r : Vals vs us) (h : sp vs H Q E) : wpAny (model X.prog X.w) X.A (call (.ref f) us) (EP X pins σ Q) X.xe s := by
  refine wpAny_call (codeAny_mono (F X.A X.stack s H us vs Q E hr e0 r h) fun r s' hq => ?_)
  cases r with
  | error e => exact hx pins H s e s' I hq
  | ok fl =>
    cases fl with
    | ret u => exact I.after hq
    | next => exact False.elim hq
    | brk => exact False.elim hq
    | cont => exact False.elim hq
/-- all that stands untracked, is no frame and none of xs, is fixed for a callee -/
theorem wideX (I : Inv X pins σ H s) (xs : List Addr) (hx : ∀ b ∈ xs, X.base.get? b = none) : ∃ bp : Heap, (∀ b o, X.base.get? b = some o → bp.get? b = some o) ∧ (∀ b o, s.heap.get? b = some o → H b = none → b ∉ frs X.stack → b ∉ xs → bp.get? b = some o) ∧ (∀ b o, bp.get? b = some o → s.heap.get? b = some o ∧ H b = none ∧ b ∉ frs X.stack ∧ b ∉ xs) ∧
    bp.objs.size = s.heap.objs.size ∧ Mod X.K X.mg bp ∧ Env0 X.prog X.w X.K X.mg bp X.A X.stack s H := by
  have g1 : ∀ b o, s.heap.get? b = some o → H b = none → b ∉ frs X.stack → b ∉ xs → (PySem.W.hideAll (hidT s.heap H) (frs X.stack ++ xs)).get? b = some o := fun b o e n hb hb2 => PySem.W.hideAll_get _ (hidT_get e n) fun z => (List.mem_append.mp z).elim hb hb2
  have hno : ∀ b ∈ frs X.stack ++ xs, (PySem.W.hideAll (hidT s.heap H) (frs X.stack ++ xs)).get? b = none := fun b hb => PySem.W.hideAll_none _ hb
  have g2 : ∀ b o, (PySem.W.hideAll (hidT s.heap H) (frs X.stack ++ xs)).get? b = some o → s.heap.get? b = some o ∧ H b = none ∧ b ∉ frs X.stack ∧ b ∉ xs := fun b o e => by
    have e1 := PySem.W.of_hideAll _ e
    refine ⟨(of_hidT e1).1, (of_hidT e1).2, fun hb => ?_, fun hb => ?_⟩
    · rw [hno b (List.mem_append_left _ hb)] at e
      cases e
    · rw [hno b (List.mem_append_right _ hb)] at e
      cases e
  have sz : (PySem.W.hideAll (hidT s.heap H) (frs X.stack ++ xs)).objs.size = s.heap.objs.size := (PySem.W.hideAll_size _ _).trans (hidT_size _ _)
  generalize PySem.W.hideAll (hidT s.heap H) (frs X.stack ++ xs) = bp at *
  have up : ∀ b o, X.base.get? b = some o → bp.get? b = some o := fun b o e => g1 b o (I.bs b o e).1 (I.bs b o e).2 (fun hb => by
    have z := (I.stack.mem hb).1
    rw [e] at z
    cases z) fun hb => by
    rw [hx b hb] at e
    cases e
  have M := I.ok.mod
  obtain ⟨mb, hm1, hm2⟩ := M.blt
  have MB : Mod X.K X.mg bp := ⟨M.kin.keeps up, M.glob.keeps up, ⟨mb, hm1.keeps up, hm2⟩, M.nolimit.keeps up⟩
  exact ⟨bp, up, g1, g2, sz, MB, ⟨I.ok.frames, MB, fun b o e => ⟨(g2 b o e).1, (g2 b o e).2.1⟩, Nat.le_of_eq sz, funFrames_none I.stack fun b hb => hno b (List.mem_append_left _ hb), I.stkFree, I.hok, I.bare⟩⟩
theorem wide (I : Inv X pins σ H s) : ∃ bp : Heap, (∀ b o, X.base.get? b = some o → bp.get? b = some o) ∧ (∀ b o, s.heap.get? b = some o → H b = none → b ∉ frs X.stack → bp.get? b = some o) ∧ (∀ b o, bp.get? b = some o → s.heap.get? b = some o ∧ H b = none ∧ b ∉ frs X.stack) ∧
    bp.objs.size = s.heap.objs.size ∧ Mod X.K X.mg bp ∧ Env0 X.prog X.w X.K X.mg bp X.A X.stack s H := by
  obtain ⟨bp, up, g1, g2, r⟩ := wideX I [] (by simp)
  exact ⟨bp, up, fun b o e n hb => g1 b o e n hb (by simp), fun b o e => ⟨(g2 b o e).1, (g2 b o e).2.1, (g2 b o e).2.2.1⟩, r⟩
/-- a cell of a def is no frame -/
theorem cell_nf (I : Inv X pins σ H s) (hfn : ∀ x, X.fn x = true) {y : Str} {c : Addr} (h : X.env.cells.lookup y = some c) : c ∉ frs X.stack := fun hb => by
  rcases List.mem_cons.mp (I.stkSub c hb) with e | hb
  · exact I.cne y c h e
  · obtain ⟨_, o, ho, _⟩ := I.ok.funs.mem hb
    exact absurd (Nat.lt_of_lt_of_le (Heap.lt_size ho) (I.ok.cab y c (hfn y) h)) (Nat.lt_irrefl _)
end

/-! ### a() of such a thing, it stands in a name -/
def dAct1 (i : Nat) (c : Clo) (fa : DA) : DL' := fun X ρ Q => ρ.s[i]? = some (some c.sl) ∧ fa X ρ fun ss ρ1 => ss.length = c.n ∧ ∃ (P : Sl → List Ob → Prop) (PX : Xn → List Ob → Prop), c.S ss ρ1.T P PX ∧ (∀ r T', P r T' → Q r ⟨T', ρ1.s⟩) ∧ ∀ x T', PX x T' → X x ⟨T', ρ1.s⟩
section
variable {X : Cx} {W : WX} {c : Clo} {k : Nat} {x : Str} {p pos : Pos} {e : Expr} {es : List Expr} {fa : DA}
theorem act_core {σ : L2.St} {H : Hp} {Q : VK} {ρ : Env} {G : Hp} {la : List Addr} {P : Sl → Env → Prop} {XX : XP} {K : PySem.W.Frag} {ss : List Sl} {vs : List V} (re : Re K G H la σ ρ) (sG : Same c.G G) (pl : c.la <+: la) (z : SlsR K G la vs ss)
    (h : ss.length = c.n ∧ ∃ (P1 : Sl → List Ob → Prop) (PX : Xn → List Ob → Prop), c.S ss ρ.T P1 PX ∧ (∀ r T', P1 r T' → P r ⟨T', ρ.s⟩) ∧ ∀ x T', PX x T' → XX x ⟨T', ρ.s⟩) (q : ∀ d ρ' v G' la' H', P d ρ' → Aft K G la σ ρ' G' la' H' → SlR K G' la' v d → Q v H') (xo : XO K G la W XX) : spC K c vs H Q (WE W σ) := by
  obtain ⟨h1, P1, PX, h2, h3, h4⟩ := h
  exact ⟨z.len.trans h1, ss, G, la, ρ.T, P1, PX, re.tb, sG, pl, z, h2, fun r2 T' v G' la' H' pr g pp rl sr => q _ _ _ _ _ _ (h3 _ _ pr) ⟨g, pp, ⟨rl, re.sl, fun i y hy => by
      obtain ⟨u, hu, ru⟩ := re.at_ i y hy
      exact ⟨u, hu, ru.grow g pp⟩⟩⟩ sr, fun y T' G' la' H' cls od px g pp rl xr => xo y ⟨T', ρ.s⟩ σ G' la' H' cls od (h4 _ _ px) ⟨g, pp, ⟨rl, re.sl, fun i y hy => by
      obtain ⟨u, hu, ru⟩ := re.at_ i y hy
      exact ⟨u, hu, ru.grow g pp⟩⟩⟩ xr⟩
theorem dl_act0 (i : Nat) (C : CloOk X.prog X.w X.K X.mg X.base k c) (hr : Room k X.A) (tk : Takes X W) (hN : X.N[i]? = some x := by rfl)
    (hv : Vis X.env.scope x := by first | exact Or.inl rfl | exact Or.inr (Or.inl rfl) | exact Or.inr (Or.inr rfl)) (hdb : (x == ("__debug__" : Str)) = false := by decide) (hcd : (x == ("__classdict__" : Str)) = false := by decide) : PE X (.Call (.Name x p) [] [] pos) (lL X.K W (dAct1 i c dNil)) := by
  constructor
  rintro pins s σ H Q I ⟨ρ, G, la, P, XX, re, ⟨hs, h⟩, q, xo⟩
  obtain ⟨v, hσ, ev, sG, pl⟩ := re.at_ i _ hs
  subst ev
  refine wpAny_Call_Name_kw (thn ((pe_var (pos := p) hN hv hdb hcd).run pins s σ H (fun v H1 => v = .ref c.f ∧ H1 = H) I ⟨_, hσ, rfl, rfl⟩) ?_)
  rintro u s1 ⟨v, H1, I1, r1, rfl, rfl⟩
  cases r1
  refine PySem.W.callWith_F0 (C.fn _ _ I1.kIn I1.hok (sG.trans re.ext)) ?_
  exact run_R (us := []) C.run hr (passAt tk σ) I1 I1.env0 .nil (act_core re sG pl .nil h q xo)
end
end DL
set_option Elab.async false
set_option linter.all false
set_option maxRecDepth 100000
set_option maxHeartbeats 4000000
set_option autoImplicit false
/-! The data level: lambdas as values: made, called. -/
namespace DL
open PySem PySem.Spec PyProof.Rows L2

/-- a lambda of the text: ps its parameters, fr what it captures -/
structure LamR where
  params : Arguments
  body : Expr
  scope : Scope
  q : Str
  ps : List Str
  fr : List Str
/-- what its scope must be; sc: the maker's -/
structure LamSc (L : LamR) (sc : Scope) : Prop where
  kind : L.scope.kind = .function
  co : L.scope.isCoroutine = false
  gen : L.scope.isGenerator = false
  own : ∀ y ∈ L.scope.names, y.2 ≠ .cell ∧ (y.2 = .local → y.1 ∈ L.ps)
  par : ∀ x ∈ L.ps, L.scope.names.lookup x = some .local
  free : ∀ y ∈ L.scope.names, y.2 = .free → y.1 ∈ L.fr ∧ (sc.names.lookup y.1 = some .cell ∨ sc.names.lookup y.1 = some .free)
  fre : ∀ y ∈ L.fr, L.scope.names.lookup y = some .free
  one : L.ps.length ≤ 1
  bind : ∀ (cl : List (Str × Addr)) (pm cv ctv : Value) (us : List Value), us.length = L.ps.length → bindArgs (PySem.W.kla_fn "<lambda>" L.q L.params L.body L.scope cl pm cv ctv) ⟨us, []⟩ = pure (L.ps.zip us)
/-- the lambda's function stands at f -/
def LamO (f c' : Addr) (L : LamR) (cl : List (Str × Addr)) : HO := .ext fun h => ∃ pm ctv : Value, h.get? f = some (PySem.W.kla_obj "<lambda>" L.q L.params L.body L.scope cl pm c' ctv)
abbrev lamE (L : LamR) (n f c' : Addr) (cl : List (Str × Addr)) : PySem.Env := PySem.W.envX L.q L.scope n f (.ref c') cl
/-- the context of its body -/
def lamX (P : Program) (w : World) (K : PySem.W.Frag) (mg : Str → Option Value) (base : Heap) (A : Around) (outer : List PySem.Env) (s : Shared) (H : Hp) (E : XK) (L : LamR) (f c' : Addr) (cl : List (Str × Addr)) : Cx where
  prog := P
  w := w
  K := K
  mg := mg
  base := base
  A := A.deeper (lamE L s.heap.objs.size f c' cl)
  N := L.ps ++ L.fr
  s_0 := s
  H_0 := H
  env := lamE L s.heap.objs.size f c' cl
  outer := outer
  stack := lamE L s.heap.objs.size f c' cl :: outer
  ex := []
  fn := fun _ => false
  calm := true
  pn := []
  xe := fun e s' => wpAny (model P w) (A.deeper (lamE L s.heap.objs.size f c' cl)) (leaving (lamE L s.heap.objs.size f c' cl) e) (fun _ s'' => L2.CX P w outer H s E e s'') (fun e' s'' => L2.CX P w outer H s E e' s'') s'
/-- what its cells hold, as the callee's fixed part knows it -/
structure CellsAt (bp : Heap) (L : LamR) (cl : List (Str × Addr)) (cv : List V) : Prop where
  at_ : ∀ (i : Nat) (y : Str), L.fr[i]? = some y → ∃ c ob u v, cl.lookup y = some c ∧ bp.get? c = some ob ∧ ob.data = .cell (some u) ∧ cv[i]? = some v ∧ RelV v u
  inj : ∀ y z c, cl.lookup y = some c → cl.lookup z = some c → y = z
  dom : ∀ y c, cl.lookup y = some c → y ∈ L.fr
  len : cv.length = L.fr.length
theorem one_look {ps : List Str} {us : List Value} {i : Nat} {x : Str} {u : Value} (h : ps.length ≤ 1) (h1 : ps[i]? = some x) (h2 : us[i]? = some u) : (ps.zip us).reverse.lookup x = some u := by
  match ps, us, h with
  | [], _, _ => simp at h1
  | [p], [], _ => simp at h2
  | [p], a :: us, _ =>
    cases i with
    | zero =>
      have e1 := Option.some.inj h1
      have e2 := Option.some.inj h2
      subst e1 e2
      simp [List.lookup]
    | succ j => simp at h1
theorem lam_fnr {P : Program} {w : World} {K : PySem.W.Frag} {mg : Str → Option Value} {bp : Heap} {L : LamR} {sc : Scope} {f c' : Addr} {cl : List (Str × Addr)} {cv : List V} {k : Nat} {t : XK → TE} {sp : Sp} (LS : LamSc L sc) (CA : CellsAt bp L cl cv)
    (hsp : ∀ vs H Q E, sp vs H Q E → vs.length = L.ps.length ∧ H f = some (LamO f c' L cl) ∧ H c' = some (LamX.CodeO c' L.q) ∧ t E ((vs ++ cv).map some) H Q)
    (hbody : ∀ (A : Around) (outer : List PySem.Env) (s : Shared) (H : Hp) (E : XK), Room k (A.deeper (lamE L s.heap.objs.size f c' cl)) → PE (lamX P w K mg bp A outer s H E L f c' cl) L.body (t E)) : FnR P w K mg bp (L2.CX P w) (k + 1) f sp := by
  intro A outer s H us vs Q E hr e0 r hs
  obtain ⟨hl, hf, hc, ht⟩ := hsp _ _ _ _ hs
  obtain ⟨⟨pm, ctv, of⟩, _, _⟩ := e0.hok f _ hf
  obtain ⟨⟨oc, ws, tt, hoc, hdc, hvc⟩, _, _⟩ := e0.hok c' _ hc
  have lim : s.heap.NoLimit := e0.mod.nolimit.keeps fun b o e => (e0.bs b o e).1
  have hl2 : us.length = L.ps.length := r.length.symm.trans hl
  refine PySem.W.kla_callFunE hr.depth of rfl LS.co LS.gen rfl ⟨c', oc, ws, tt, rfl, hoc, hdc, hvc⟩ ?_
  rw [LS.bind _ _ _ _ _ hl2]
  refine wpAny_pure (wpAny_newFunctionEnv (fun y hy => (LS.own y hy).1) (fun y hy => LS.par y.1 (List.of_mem_zip hy).1) (fun h4 hns hsb => ⟨lim.fresh _ hsb, ?_⟩) LS.kind)
  show codeAny _ _ (.expr L.body (lamE L s.heap.objs.size f c' cl)) _ _
  have kp : ∀ b o, s.heap.get? b = some o → h4.get? b = some o := fun b o e => hsb.extBut b o (Nat.ne_of_lt (Heap.lt_size e)) (Heap.get?_push_of_some _ e)
  have cellAt : ∀ y c, cl.lookup y = some c → ∃ i ob u v, L.fr[i]? = some y ∧ bp.get? c = some ob ∧ ob.data = .cell (some u) ∧ cv[i]? = some v ∧ RelV v u := fun y c e => by
    obtain ⟨i, hi, ey⟩ := List.getElem_of_mem (CA.dom y c e)
    have hy : L.fr[i]? = some y := by rw [List.getElem?_eq_getElem hi, ey]
    obtain ⟨c2, ob, u, v, e2, h1, h2, h3, h4⟩ := CA.at_ i y hy
    rw [e] at e2
    cases e2
    exact ⟨i, ob, u, v, hy, h1, h2, h3, h4⟩
  have noA : ∀ b : Addr, b ∉ (lamX P w K mg bp A outer s H E L f c' cl).ex := fun b z => absurd (show b ∈ ([] : List Addr) from z) (by simp)
  have J : Inv (lamX P w K mg bp A outer s H E L f c' cl) [] ((vs ++ cv).map some) H { s with heap := h4, toks := s.toks + (L.ps.zip us).length } := by
    refine ⟨⟨e0.mod, LS.kind, rfl, rfl, Nat.le_refl _, fun y z c e1 e2 => CA.inj y z c e1 e2, fun y hy => ?_, fun y c z _ => ?_, fun _ => hr.hd, Around.frames_deeper e0.frames, .inr ⟨rfl, rfl⟩, fun b z => absurd z (noA b), e0.bs, e0.bsz, fun b _ _ => noA b,
        fun b z => absurd z (noA b), e0.funs, e0.frf⟩,
      rfl, e0.bare, Un.kept kp, ⟨_, hns, fun i y v e1 e2 e3 => ?_⟩, fun y c e => ?_, e0.hok.fresh (Nat.le_refl _), fun y c e => ?_, fun q hq => absurd (show q ∈ ([] : List (Addr × Obj)) ++ [] from hq) (by simp), e0.hok.kept kp, ?_⟩
    · have hy : L.scope.names.lookup y = some .cell ∨ L.scope.names.lookup y = some .free := hy
      rcases hy with hy | hy
      · exact absurd rfl (LS.own _ (PySem.mem_of_lookup hy)).1
      · obtain ⟨i, hi, ey⟩ := List.getElem_of_mem (LS.free _ (PySem.mem_of_lookup hy) rfl).1
        obtain ⟨c2, _, _, _, e2, _⟩ := CA.at_ i y (by rw [List.getElem?_eq_getElem hi, ey])
        exact ⟨c2, e2⟩
    · have z : false = true := z
      cases z
    · have e1 : (L.ps ++ L.fr)[i]? = some y := e1
      have e3 : Vis L.scope y := e3
      by_cases hi : i < L.ps.length
      · rw [List.getElem?_append_left hi] at e1
        have kl : L.scope.names.lookup y = some .local := LS.par y (List.mem_of_getElem? e1)
        have hv : i < vs.length := by omega
        rw [List.getElem?_map, List.getElem?_append_left hv] at e2
        obtain ⟨v2, h2, h3⟩ := Option.map_eq_some_iff.mp e2
        have h3 := Option.some.inj h3
        subst h3
        obtain ⟨u, hu, ru⟩ := r.get h2
        exact ⟨u, ru, .inl ⟨kl, one_look LS.one e1 hu⟩⟩
      · rw [List.getElem?_append_right (by omega)] at e1
        have kf : L.scope.names.lookup y = some .free := LS.fre y (List.mem_of_getElem? e1)
        obtain ⟨c, ob, u, v2, h1, h2, h3, h4', h5⟩ := CA.at_ _ y e1
        rw [List.getElem?_map, List.getElem?_append_right (by omega), hl, h4'] at e2
        have h6 := Option.some.inj (Option.some.inj e2)
        subst h6
        exact ⟨u, h5, .inr ⟨.inr kf, c, h1, ob, kp _ _ (e0.bs c ob h2).1, h3⟩⟩
    · obtain ⟨i, ob, u, v, _, h1, h2, _⟩ := cellAt y c e
      exact ⟨some u, ob, kp _ _ (e0.bs c ob h1).1, h2⟩
    · obtain ⟨i, ob, u, v, _, h1, _⟩ := cellAt y c e
      exact (e0.bs c ob h1).2
    · show ((vs ++ cv).map some).length = (L.ps ++ L.fr).length
      rw [List.length_map, List.length_append, List.length_append, hl, CA.len]
  refine PySem.W.kla_codeExpr (wpAny_mono ((hbody A outer s H E (hr.deeper _)).run [] _ _ H Q J ht) (fun v s5 hq => ?_) fun e s5 hq => hq)
  obtain ⟨w5, H5, J5, rv, q⟩ := hq
  exact ⟨w5, H5, J5.os, J5.bare, J5.base, J5.hok, rv, q⟩

/-! ### the making -/
section
variable {X : Cx} {pins : List (Addr × Obj)} {σ : L2.St} {H : Hp} {s : Shared}
theorem lamO_ok {h : Heap} {H : Hp} {P : Program} {w : World} {f c' : Addr} {L : LamR} {cl : List (Str × Addr)} {pm ctv : Value} (e : h.get? f = some (PySem.W.kla_obj "<lambda>" L.q L.params L.body L.scope cl pm c' ctv)) : ObjOk P w H h f (LamO f c' L cl) :=
  ⟨⟨pm, ctv, e⟩, ⟨_, e⟩, fun h1 h2 ⟨pm, ctv, q⟩ st => ⟨pm, ctv, st _ q⟩⟩
theorem lam_new {T : List (Addr × Str)} {c P : Addr} {L : LamR} {pos : Pos} {E Q : Value → Shared → Prop} (I : Inv X pins σ H s) (TB : LamX.TabB X.base X.mg c P) (hcode : X.env.code = .ref c) (hq : X.env.qual ++ "<lambda>" = L.q)
    (hm : (P, L.q) ∈ T) (hu : ∀ p ∈ T, p.1 = P → p.2 = L.q) (hT : LamX.Tabs T H) (hdef : defaultsOf L.params X.env = ([], [])) (LS : LamSc L X.env.scope)
    (h : ∀ (f c' : Addr) (H1 : Hp) (s' : Shared), Inv X pins σ H1 s' → LamX.ExtN H H1 → LamX.Tabs T H1 → H f = none → H1 f = some (LamO f c' L (cloFrom X.env.cells L.scope.names [])) → H1 c' = some (LamX.CodeO c' L.q) → Q (.ref f) s') :
    wpAny (model X.prog X.w) X.A (eval (.Lambda L.params L.body L.scope pos) X.env) Q E s := by
  obtain ⟨tb, hP, ht, ha⟩ := hT _ hm
  have hfree : ∀ y ∈ L.scope.names, y.2 = .free → ∃ c, X.env.cells.lookup y.1 = some c := fun y hy e => by
    rcases (LS.free y hy e).2 with z | z
    · exact I.ok.has _ (.inl z)
    · exact I.ok.has _ (.inr z)
  refine PySem.W.kla_eval hdef ?_
  rw [hq]
  have bP : s.heap.BuiltinsAt X.mg P := TB.bm.keeps I.bk
  have hP2 : s.heap.get? P = some { cls := .none, data := .fields tb } := I.hok P _ hP
  cases hc : codeAmong pos tb.toList with
  | none =>
    refine PySem.W.kla_makeFunction (mg := X.mg) (c := c) (P := P) (ps := tb) (closure_ok hfree) I.ok.glob (I.mod.glob.keeps I.bk) hcode (TB.code.keeps I.bk) hP2 ht hc TB.gP bP fun c' ctv hh tk hx hge hlt hrec htb => ?_
    obtain ⟨c2, oc, vs, tq, e2, hoc, hd, hv⟩ := hrec
    cases e2
    have hsz : s.heap.objs.size ≤ hh.objs.size := Nat.le_trans hge (Nat.le_of_lt hlt)
    have nC : H c' = none := I.hok.fresh hge
    have I1 := LamX.inv_table (t' := tk) (more := #[rawInt pos.line, rawInt pos.col, .ref c']) (h' := hh) I hP hx htb hge ⟨oc, vs, tq, hoc, hd, hv⟩
    have hE : LamX.ExtN H (upd (upd H P (.tbl (tb ++ #[rawInt pos.line, rawInt pos.col, .ref c']))) c' (LamX.CodeO c' L.q)) := fun b o e n => by
      rw [upd_ne (ne_of_none e nC), upd_ne (fun z => n tb (Option.some.inj (e.symm.trans (by rw [z]; exact hP))))]
      exact e
    have hT1 : LamX.Tabs T (upd (upd H P (.tbl (tb ++ #[rawInt pos.line, rawInt pos.col, .ref c']))) c' (LamX.CodeO c' L.q)) := fun p hp => by
      by_cases hb : p.1 = P
      · rw [hu p hp hb, hb]
        have eL : (tb ++ #[rawInt pos.line, rawInt pos.col, .ref c']).toList = tb.toList ++ [rawInt pos.line, rawInt pos.col, .ref c'] := by simp
        refine ⟨_, by rw [upd_ne (ne_of_none hP nC), upd_same], by rw [eL]; exact PySem.TriplesOk_snoc _ _ _ _ ht, fun p2 cv hcv => ?_⟩
        rw [eL] at hcv
        rcases LamX.among_app _ ht hcv with z | z
        · obtain ⟨c0, e1, e2⟩ := ha p2 cv z
          exact ⟨c0, e1, hE _ _ e2 LamX.codeO_ne⟩
        · exact ⟨c', z, upd_same⟩
      · obtain ⟨tb2, a1, a2, a3⟩ := hT p hp
        refine ⟨tb2, by rw [upd_ne (ne_of_none a1 nC), upd_ne hb]; exact a1, a2, fun p2 cv hcv => ?_⟩
        obtain ⟨c0, e1, e2⟩ := a3 p2 cv hcv
        exact ⟨c0, e1, hE _ _ e2 LamX.codeO_ne⟩
    have hc1 : (upd (upd H P (.tbl (tb ++ #[rawInt pos.line, rawInt pos.col, .ref c']))) c' (LamX.CodeO c' L.q)) c' = some (LamX.CodeO c' L.q) := upd_same
    generalize upd (upd H P (.tbl (tb ++ #[rawInt pos.line, rawInt pos.col, .ref c']))) c' (LamX.CodeO c' L.q) = Hb at *
    have nF : Hb hh.objs.size = none := I1.hok.fresh (Nat.le_refl _)
    have I2 := I1.laid (a := hh.objs.size) (o := LamO hh.objs.size c' L (cloFrom X.env.cells L.scope.names [])) (t' := tk) (h' := hh.push (PySem.W.kla_obj "<lambda>" L.q L.params L.body L.scope (cloFrom X.env.cells L.scope.names []) ((X.mg "__name__").getD .none) c' ctv))
      (fun b u e => Heap.get?_push_of_some _ e) (Nat.le_refl _) (lamO_ok (Heap.get?_push_size _ rfl))
    exact h _ c' _ _ I2 (hE.trans (.of fun b o e => by rw [upd_ne (ne_of_none e nF)]; exact e)) (hT1.ext fun b o e => by rw [upd_ne (ne_of_none e nF)]; exact e) (I.hok.fresh hsz) upd_same (by rw [upd_ne (ne_of_none hc1 nF)]; exact hc1)
  | some cv =>
    obtain ⟨c', e, hco⟩ := ha pos cv hc
    subst e
    refine PySem.W.kla_makeFunctionHit (mg := X.mg) (c := c) (P := P) (ps := tb) (closure_ok hfree) I.ok.glob (I.mod.glob.keeps I.bk) hcode (TB.code.keeps I.bk) hP2 ht hc bP fun ctv hh tk hx hsz => ?_
    have I1 : Inv X pins σ H { s with heap := hh, toks := tk } := I.kept hx
    have nF : H hh.objs.size = none := I1.hok.fresh (Nat.le_refl _)
    have I2 := I1.laid (a := hh.objs.size) (o := LamO hh.objs.size c' L (cloFrom X.env.cells L.scope.names [])) (t' := tk) (h' := hh.push (PySem.W.kla_obj "<lambda>" L.q L.params L.body L.scope (cloFrom X.env.cells L.scope.names []) ((X.mg "__name__").getD .none) c' ctv))
      (fun b u e => Heap.get?_push_of_some _ e) (Nat.le_refl _) (lamO_ok (Heap.get?_push_size _ rfl))
    exact h _ c' _ _ I2 (.of fun b o e => by rw [upd_ne (ne_of_none e nF)]; exact e) (hT.ext fun b o e => by rw [upd_ne (ne_of_none e nF)]; exact e) nF upd_same (by rw [upd_ne (ne_of_none hco nF)]; exact hco)
end
end DL
set_option Elab.async false
set_option linter.all false
set_option maxRecDepth 100000
set_option maxHeartbeats 4000000
set_option autoImplicit false
/-! The data level: lambdas as values: made, handed on. -/
namespace DL
open PySem PySem.Spec PyProof.Rows L2

/-- a thing that is known by what is true of it becomes known -/
theorem Rl.know {K : PySem.W.Frag} {G H : Hp} {la : List Addr} {T : List Ob} {c : Addr} {φ : Heap → Prop} (r : Rl K G H la T) (hc : H c = some (.ext φ)) : Same G (upd G c (.ext φ)) ∧ Rl K (upd G c (.ext φ)) H la T := by
  have s1 : Same G (upd G c (.ext φ)) := fun b o e => by
    by_cases hb : b = c
    · subst hb
      rw [upd_same]
      have := r.ext b o e
      rw [hc] at this
      exact this
    · rw [upd_ne hb]
      exact e
  have ne : ∀ {b : Addr} {o : HO}, H b = some o → o ≠ .ext φ → b ≠ c := fun {b o} e n z => by
    rw [z, hc] at e
    exact n (Option.some.inj e).symm
  refine ⟨s1, ⟨fun b o e => ?_, r.nd, r.len, fun k a o h1 h2 => ?_, r.there, r.nt.upd (by intro ps z; cases z), fun p hp => ⟨?_, (r.tbl p hp).2⟩⟩⟩
  · by_cases hb : b = c
    · subst hb
      rw [upd_same] at e
      rw [← e]
      exact hc
    · rw [upd_ne hb] at e
      exact r.ext b o e
  · have z := r.tab k a o h1 h2
    cases o with
    | dead => exact True.intro
    | lst ds =>
      obtain ⟨g, vs, e, l, d⟩ := z
      exact ⟨by rw [upd_ne (ne e (by intro z; cases z))]; exact g, vs, e, l, d.up s1⟩
    | dic ks ds =>
      obtain ⟨g, vs, e, l0, l, d⟩ := z
      exact ⟨by rw [upd_ne (ne e (by intro z; cases z))]; exact g, vs, e, l0, l, d.up s1⟩
    | ins C fs =>
      obtain ⟨g, Ca, dx, vs, n, e, o, m, d⟩ := z
      exact ⟨by rw [upd_ne (ne e (by intro z; cases z))]; exact g, Ca, dx, vs, n, e, o, m, d.up s1⟩
  · obtain ⟨g, ps, e, _⟩ := r.tbl p hp
    rw [upd_ne (ne e (by intro z; cases z))]
    exact g

/-! ### the making, by data -/
/-- the lambda L, made here, its cells cl, stands at f; G0 knows it -/
def LmAt (L : LamR) (cl : List (Str × Addr)) (f : Addr) (G0 : Hp) : Prop := ∃ c', G0 f = some (LamO f c' L cl) ∧ G0 c' = some (LamX.CodeO c' L.q)
/-- a lambda; Lm tells which -/
def dMk (Lm : Addr → Hp → Prop) : DL' := fun _ ρ Q => ∀ f G0, Lm f G0 → Q (.dat (.cl f G0)) ρ
abbrev clOf (X : Cx) (L : LamR) : List (Str × Addr) := cloFrom X.env.cells L.scope.names []
theorem LmAt.up {L : LamR} {cl : List (Str × Addr)} {f : Addr} {G0 G : Hp} (h : LmAt L cl f G0) (e : ExtS G0 G) : LmAt L cl f G := by
  obtain ⟨c', h1, h2⟩ := h
  exact ⟨c', e _ _ (fun _ z => by unfold LamO at z; cases z) h1, e _ _ (fun _ z => by unfold LamX.CodeO at z; cases z) h2⟩
theorem dl_mk {X : Cx} {W : WX} {c P : Addr} {L : LamR} {pos : Pos} {params : Arguments} {body : Expr} {scope : Scope} (TB : LamX.TabB X.base X.mg c P) (hcode : X.env.code = .ref c) (hmT : (P, L.q) ∈ tabsOf X.K)
    (hu : ∀ p ∈ tabsOf X.K, p.1 = P → p.2 = L.q) (LS : LamSc L X.env.scope) (hq : X.env.qual ++ "<lambda>" = L.q := by rfl) (h1 : params = L.params := by rfl) (h2 : body = L.body := by rfl) (h3 : scope = L.scope := by rfl) (hdef : defaultsOf params X.env = ([], []) := by rfl) :
    PE X (.Lambda params body scope pos) (lL X.K W (dMk (LmAt L (clOf X L)))) := by
  subst h1 h2 h3
  constructor
  rintro pins s σ H Q I ⟨ρ, G, la, Pd, XX, re, h, q, xo⟩
  refine lam_new I TB hcode hq hmT hu (fun p hp => (re.tb.tbl p hp).2) hdef LS fun f c' H1 s1 I1 eN T1 nf hf hc => ?_
  have r1 := re.tb.extN eN T1
  obtain ⟨s2, r2⟩ := r1.know (c := c') (φ := _) (show H1 c' = some (.ext _) from hc)
  obtain ⟨s3, r3⟩ := r2.know (c := f) (φ := _) (show H1 f = some (.ext _) from hf)
  have ncf : f ≠ c' := fun z => by
    have z1 := hf
    rw [z, hc] at z1
    obtain ⟨⟨pm, ctv, of⟩, _, _⟩ := I1.hok f _ hf
    obtain ⟨⟨oc, ws, tt, hoc, hdc, _⟩, _, _⟩ := I1.hok c' _ hc
    rw [z, hoc] at of
    cases of
    cases hdc
  refine ⟨.ref f, H1, I1, rfl, ?_⟩
  refine q _ _ _ _ la H1 (h f _ ⟨c', upd_same, ?_⟩) ⟨s2.trans s3, List.prefix_rfl, ⟨r3, re.sl, fun i y hy => ?_⟩⟩ (show Dp _ _ _ _ from .cl fun _ _ _ e => e)
  · rw [upd_ne (Ne.symm ncf)]
    exact upd_same
  · obtain ⟨u, hu, ru⟩ := re.at_ i y hy
    exact ⟨u, hu, ru.grow (s2.trans s3) List.prefix_rfl⟩

/-! ### what may be called, from the maker's view -/
/-- what is captured, as the lambda's body sees it: a lambda is a thing that may be called -/
def capS (G : Hp) (la : List Addr) : Sl → Sl
  | .dat (.cl f _) => .clo f G la
  | x => x
/-- the lambda's body keeps S (its own values first, then what it captures) -/
def LamB (P : Program) (w : World) (K : PySem.W.Frag) (mg : Str → Option Value) (bp : Heap) (k : Nat) (L : LamR) (S : DF) : Prop :=
  ∃ fb : DL', (∀ (A : Around) (outer : List PySem.Env) (s : Shared) (H : Hp) (E : XK) (f c' : Addr) (cl : List (Str × Addr)), Room k (A.deeper (lamE L s.heap.objs.size f c' cl)) → PE (lamX P w K mg bp A outer s H E L f c' cl) L.body (lL K (WF' E) fb)) ∧
    ∀ (ss : List Sl) (T : List Ob) (Q : Sl → List Ob → Prop) (QX : Xn → List Ob → Prop), S ss T Q QX → fb (fun x ρ => QX x ρ.T) ⟨T, ss.map some⟩ (fun r ρ => Q r ρ.T)
theorem sls_of {K : PySem.W.Frag} {G : Hp} {la : List Addr} : ∀ {vs : List V} {xs : List Sl}, vs.length = xs.length → (∀ (i : Nat) (x : Sl), xs[i]? = some x → ∃ v, vs[i]? = some v ∧ SlR K G la v x) → SlsR K G la vs xs
  | [], [], _, _ => .nil
  | v :: vs, x :: xs, hl, h => by
    obtain ⟨v', e, r⟩ := h 0 x rfl
    have e := Option.some.inj e
    subst e
    exact .cons r (sls_of (by simpa using hl) fun i y hy => h (i + 1) y hy)
  | [], x :: xs, hl, _ => by simp at hl
  | v :: vs, [], hl, _ => by simp at hl
theorem cap_r {K : PySem.W.Frag} {G : Hp} {la : List Addr} {v : V} {x : Sl} (h : SlR K G la v x) : SlR K G la v (capS G la x) := by
  cases x with
  | dat d =>
    cases d with
    | cl f G0 =>
      cases (show Dp K G v (.cl f G0) from h)
      exact ⟨rfl, Same.refl _, List.prefix_rfl⟩
    | _ => exact h
  | ob k => exact h
  | clo f G0 la0 => exact h
theorem clo_at3 {X : Cx} {pins : List (Addr × Obj)} {σ : L2.St} {H : Hp} {s : Shared} {ρ : Env} {G : Hp} {la : List Addr} {bp : Heap} {L : LamR} {k m : Nat} {S : DF} {ixs : List Nat} {raw : List Sl} {f : Addr} {G1 G3 : Hp} {la3 : List Addr} (I : Inv X pins σ H s) (re : Re X.K G H la σ ρ)
    (hbp : ∀ y c o, X.env.cells.lookup y = some c → s.heap.get? c = some o → bp.get? c = some o) (LS : LamSc L X.env.scope) (hix : ixs.map (fun i => X.N[i]?) = L.fr.map some) (hraw : ixs.map (fun i => ρ.s[i]?) = raw.map fun x => some (some x))
    (sm3 : Same G G3) (pl3 : la <+: la3) (lm : LmAt L (clOf X L) f G1) (sG : ExtS G1 G3) (hm : m = L.ps.length) (hB : LamB X.prog X.w X.K X.mg bp k L S) : CloOk X.prog X.w X.K X.mg bp (k + 1) ⟨f, G3, la3, m, fun xs => S (xs ++ raw.map (capS G3 la3))⟩ := by
  obtain ⟨c', hf, hc⟩ := lm.up sG
  refine ⟨fun H2 h2 KX hk e => ?_, ?_⟩
  · obtain ⟨⟨pm, ctv, of⟩, _, _⟩ := hk f _ (e _ _ hf)
    exact ⟨_, _, _, _, of⟩
  · have hfree : ∀ y ∈ L.scope.names, y.2 = .free → ∃ c, X.env.cells.lookup y.1 = some c := fun y hy e => by
      rcases (LS.free y hy e).2 with z | z
      · exact I.ok.has _ (.inl z)
      · exact I.ok.has _ (.inr z)
    have lenI : ixs.length = L.fr.length := by simpa using congrArg List.length hix
    have lenR : ixs.length = raw.length := by simpa using congrArg List.length hraw
    have cm : ∀ {y c}, (clOf X L).lookup y = some c → y ∈ L.fr ∧ X.env.cells.lookup y = some c := fun {y c} e => by
      rcases cloFrom_mem (PySem.mem_of_lookup e) with z | ⟨h1, h2⟩
      · cases z
      · refine ⟨(LS.free _ h1 rfl).1, ?_⟩
        obtain ⟨c1, hc1⟩ := hfree _ h1 rfl
        have hc1 : X.env.cells.lookup y = some c1 := hc1
        rw [hc1] at h2 ⊢
        rw [h2]
        rfl
    -- the slot's value, its cell
    have slot : ∀ (i : Nat) (y : Str) (x : Sl), L.fr[i]? = some y → raw[i]? = some x → ∃ c ob u v, (clOf X L).lookup y = some c ∧ bp.get? c = some ob ∧ ob.data = .cell (some u) ∧ RelV v u ∧ SlR X.K G la v x := fun i y x hy hx => by
      have hi : i < ixs.length := by
        rw [lenI]
        exact (List.getElem?_eq_some_iff.mp hy).1
      have e1 : (ixs.map (fun i => X.N[i]?))[i]? = some (X.N[ixs[i]]?) := by rw [List.getElem?_map, List.getElem?_eq_getElem hi]; rfl
      rw [hix, List.getElem?_map, hy] at e1
      have e1 := (Option.some.inj e1).symm
      have e2 : (ixs.map (fun i => ρ.s[i]?))[i]? = some (ρ.s[ixs[i]]?) := by rw [List.getElem?_map, List.getElem?_eq_getElem hi]; rfl
      rw [hraw, List.getElem?_map, hx] at e2
      have e2 := (Option.some.inj e2).symm
      obtain ⟨v, hv, rv⟩ := re.at_ _ _ e2
      have kf : L.scope.names.lookup y = some .free := LS.fre y (List.mem_of_getElem? hy)
      have hs := (LS.free _ (PySem.mem_of_lookup kf) rfl).2
      obtain ⟨mm, hn, hl⟩ := I.loc
      obtain ⟨u, ru, lk⟩ := hl _ y v e1 hv (hs.elim (fun z => .inr (.inl z)) fun z => .inr (.inr z))
      rcases lk with ⟨z, _⟩ | ⟨_, c, hcl, ob, hob, hd⟩
      · have z : X.env.scope.names.lookup y = some .local := z
        rcases hs with z2 | z2 <;> rw [show X.env.scope.names.lookup y = _ from z2] at z <;> cases z
      · obtain ⟨c2, h2⟩ := mem_lookup (cloFrom_has (cells := X.env.cells) (acc := []) (PySem.mem_of_lookup kf))
        have h3 := (cm h2).2
        rw [hcl] at h3
        cases h3
        exact ⟨c, ob, u, v, h2, hbp y c ob hcl hob, hd, ru, rv⟩
    -- the captured values
    have vals : ∃ cv : List V, cv.length = L.fr.length ∧ ∀ (i : Nat) (y : Str) (x : Sl), L.fr[i]? = some y → raw[i]? = some x → ∃ c ob u v, (clOf X L).lookup y = some c ∧ bp.get? c = some ob ∧ ob.data = .cell (some u) ∧ cv[i]? = some v ∧ RelV v u ∧ SlR X.K G la v x := by
      have key : ∀ (fr : List Str) (rw_ : List Sl), fr.length = rw_.length → (∀ (i : Nat) (y : Str) (x : Sl), fr[i]? = some y → rw_[i]? = some x → ∃ c ob u v, (clOf X L).lookup y = some c ∧ bp.get? c = some ob ∧ ob.data = .cell (some u) ∧ RelV v u ∧ SlR X.K G la v x) →
          ∃ cv : List V, cv.length = fr.length ∧ ∀ (i : Nat) (y : Str) (x : Sl), fr[i]? = some y → rw_[i]? = some x → ∃ c ob u v, (clOf X L).lookup y = some c ∧ bp.get? c = some ob ∧ ob.data = .cell (some u) ∧ cv[i]? = some v ∧ RelV v u ∧ SlR X.K G la v x := by
        intro fr
        induction fr with
        | nil => exact fun rw_ _ _ => ⟨[], rfl, fun i y x h => by simp at h⟩
        | cons y0 fr ih =>
          intro rw_ hl h
          cases rw_ with
          | nil => simp at hl
          | cons x0 rw_ =>
            obtain ⟨cv, hcv, ha⟩ := ih rw_ (by simpa using hl) fun i y x h1 h2 => h (i + 1) y x h1 h2
            obtain ⟨c, ob, u, v, a1, a2, a3, a4, a5⟩ := h 0 y0 x0 rfl rfl
            refine ⟨v :: cv, by simp [hcv], fun i y x h1 h2 => ?_⟩
            cases i with
            | zero =>
              have e1 := Option.some.inj h1
              have e2 := Option.some.inj h2
              subst e1 e2
              exact ⟨c, ob, u, v, a1, a2, a3, rfl, a4, a5⟩
            | succ j => exact ha j y x h1 h2
      exact key L.fr raw (lenI.symm.trans lenR) slot
    obtain ⟨cv, hcv, hat⟩ := vals
    have CA : CellsAt bp L (clOf X L) cv := by
      refine ⟨fun i y hy => ?_, fun y z c e1 e2 => I.ok.inj y z c (cm e1).2 (cm e2).2, fun y c e => (cm e).1, hcv⟩
      have hi : i < raw.length := by
        rw [← lenR, lenI]
        exact (List.getElem?_eq_some_iff.mp hy).1
      obtain ⟨c, ob, u, v, a1, a2, a3, a4, a5, _⟩ := hat i y raw[i] hy (List.getElem?_eq_getElem hi)
      exact ⟨c, ob, u, v, a1, a2, a3, a4, a5⟩
    have CR : SlsR X.K G3 la3 cv (raw.map (capS G3 la3)) := by
      refine sls_of (by rw [hcv, List.length_map, ← lenR, lenI]) fun i x hx => ?_
      rw [List.getElem?_map] at hx
      obtain ⟨y0, hy0, ey⟩ := Option.map_eq_some_iff.mp hx
      subst ey
      have hi : i < L.fr.length := by
        rw [← lenI, lenR]
        exact (List.getElem?_eq_some_iff.mp hy0).1
      obtain ⟨c, ob, u, v, _, _, _, a4, _, a6⟩ := hat i L.fr[i] y0 (List.getElem?_eq_getElem hi) hy0
      exact ⟨v, a4, cap_r (a6.grow sm3 pl3)⟩
    obtain ⟨fb, hb, hS⟩ := hB
    refine lam_fnr (t := fun E => lL X.K (WF' E) fb) LS CA (fun vs H2 Q E h => ?_) fun A outer s2 H2 E hr => hb A outer s2 H2 E f c' _ hr
    obtain ⟨hl, ss, G2, la2, T, Pd, PX, rl, sG2, pl2, sr, hs, q, qx⟩ := h
    refine ⟨hl.trans hm, rl.ext _ _ (sG2 _ _ hf), rl.ext _ _ (sG2 _ _ hc), ⟨T, (ss ++ raw.map (capS G3 la3)).map some⟩, G2, la2, fun r ρ => Pd r ρ.T, fun x ρ => PX x ρ.T, ⟨rl, ?_, fun i y hy => ?_⟩, hS _ T Pd PX hs, fun d ρ' v G' la' H' p a z => q d ρ'.T v G' la' H' p a.g a.p a.r.tb z, fun x ρ' σ' G' la' H' cls od p a z => qx x ρ'.T G' la' H' cls od p a.g a.p a.r.tb z⟩
    · have e1 := (sr.app (CR.up sG2 pl2)).len
      simp only [List.length_map]
      exact e1.symm
    · have hy2 : ((ss ++ raw.map (capS G3 la3)).map some)[i]? = some (some y) := hy
      rw [List.getElem?_map] at hy2
      obtain ⟨z, hz, ez⟩ := Option.map_eq_some_iff.mp hy2
      have ez := Option.some.inj ez
      subst ez
      obtain ⟨v, hv, rv⟩ := (sr.app (CR.up sG2 pl2)).get hz
      exact ⟨v, by rw [List.getElem?_map, hv]; rfl, rv⟩
theorem clo_at {X : Cx} {pins : List (Addr × Obj)} {σ : L2.St} {H : Hp} {s : Shared} {ρ : Env} {G : Hp} {la : List Addr} {bp : Heap} {L : LamR} {k m : Nat} {S : DF} {ixs : List Nat} {raw : List Sl} {f : Addr} {G1 : Hp} (I : Inv X pins σ H s) (re : Re X.K G H la σ ρ)
    (hbp : ∀ y c o, X.env.cells.lookup y = some c → s.heap.get? c = some o → bp.get? c = some o) (LS : LamSc L X.env.scope) (hix : ixs.map (fun i => X.N[i]?) = L.fr.map some) (hraw : ixs.map (fun i => ρ.s[i]?) = raw.map fun x => some (some x))
    (lm : LmAt L (clOf X L) f G1) (sG : ExtS G1 G) (hm : m = L.ps.length) (hB : LamB X.prog X.w X.K X.mg bp k L S) : CloOk X.prog X.w X.K X.mg bp (k + 1) ⟨f, G, la, m, fun xs => S (xs ++ raw.map (capS G la))⟩ :=
  clo_at3 I re hbp LS hix hraw (Same.refl _) List.prefix_rfl lm sG hm hB
end DL
set_option Elab.async false
set_option linter.all false
set_option maxRecDepth 100000
set_option maxHeartbeats 4000000
set_option autoImplicit false
/-! The data level: lambdas handed to defs and methods. -/
namespace DL
open PySem PySem.Spec PyProof.Rows L2

/-- a lambda that a def makes: which it is, where what it captures stands, how many values it takes, what its body keeps -/
structure LamE where
  Lm : Addr → Hp → Prop
  ixs : List Nat
  m : Nat
  S : DF
structure LamEOk (X : Cx) (k : Nat) (t : LamE) : Prop where
  ex : ∃ L, t.Lm = LmAt L (clOf X L) ∧ LamSc L X.env.scope ∧ t.ixs.map (fun i => X.N[i]?) = L.fr.map some ∧ t.m = L.ps.length ∧ ∀ bp : Heap, (∀ b o, X.base.get? b = some o → bp.get? b = some o) → LamB X.prog X.w X.K X.mg bp k L t.S
/-- one that captures a thing that may be called -/
structure LamF where
  Lm : Addr → Hp → Prop
  ixs : List Nat
  m : Nat
  j : Nat
  S : Clo → DF
structure LamFOk (X : Cx) (k k1 : Nat) (t : LamF) : Prop where
  ex : ∃ L, t.Lm = LmAt L (clOf X L) ∧ LamSc L X.env.scope ∧ t.ixs.map (fun i => X.N[i]?) = L.fr.map some ∧ t.m = L.ps.length ∧ ∀ (bp : Heap) (c : Clo), (∀ b o, X.base.get? b = some o → bp.get? b = some o) → CloOk X.prog X.w X.K X.mg bp k1 c → LamB X.prog X.w X.K X.mg bp k L (t.S c)
/-- the slots of what is captured -/
def rawAt (ρ : Env) (ixs : List Nat) (raw : List Sl) : Prop := ixs.map (fun i => ρ.s[i]?) = raw.map fun x => some (some x)
abbrev LamE.clo (t : LamE) (f : Addr) (raw : List Sl) (G : Hp) (la : List Addr) : Clo := ⟨f, G, la, t.m, fun xs => t.S (xs ++ raw.map (capS G la))⟩
/-- x, a lambda of the table, is handed on; N is told of the thing -/
def giveP (tab : List LamE) (x : Sl) (ρ : Env) (N : Clo → Prop) : Prop := ∃ f G1, x = .dat (.cl f G1) ∧ ∃ t ∈ tab, ∃ raw, t.Lm f G1 ∧ rawAt ρ t.ixs raw ∧ ∀ G la, N (t.clo f raw G la)
def dCallG (F : Clo → DF) (g : Sl → Env → (Clo → Prop) → Prop) (fe : DL') : DL' := fun X ρ Q => fe X ρ fun x ρ1 => g x ρ1 fun c => F c [c.sl] ρ1.T (fun r T' => Q r ⟨T', ρ1.s⟩) (fun x T' => X x ⟨T', ρ1.s⟩)
/-- that the maker can hand on so -/
def Gives (X : Cx) (kc : Nat) (g : Sl → Env → (Clo → Prop) → Prop) : Prop := ∀ (pins : List (Addr × Obj)) (σ : L2.St) (H : Hp) (s : Shared) (ρ : Env) (G : Hp) (la : List Addr) (x : Sl) (v : V) (N : Clo → Prop), Inv X pins σ H s → Re X.K G H la σ ρ → SlR X.K G la v x → g x ρ N →
  ∃ (bp : Heap) (c : Clo), (∀ b o, X.base.get? b = some o → bp.get? b = some o) ∧ Env0 X.prog X.w X.K X.mg bp X.A X.stack s H ∧ CloOk X.prog X.w X.K X.mg bp kc c ∧ N c ∧ SlR X.K G la v c.sl
section
variable {X : Cx} {k : Nat} {tab : List LamE}
theorem ext_of {K : PySem.W.Frag} {G : Hp} {la : List Addr} {v : V} {f : Addr} {G0 : Hp} (h : SlR K G la v (.dat (.cl f G0))) : v = .ref f ∧ ExtS G0 G := by
  cases (show Dp K G v (.cl f G0) from h) with
  | cl e => exact ⟨rfl, e⟩
theorem gives_P (hfn : ∀ x, X.fn x = true := by intro _; rfl) (hT : ∀ t ∈ tab, LamEOk X k t) : Gives X (k + 1) (giveP tab) := by
  rintro pins σ H s ρ G la x v N I re z ⟨f, G1, rfl, t, ht, raw, lm, hraw, hN⟩
  obtain ⟨L, e1, LS, hix, hm, hB⟩ := (hT t ht).ex
  obtain ⟨bp, up, w1, w2, _, MB, e0⟩ := wide I
  obtain ⟨ev, ex⟩ := ext_of z
  rw [e1] at lm
  exact ⟨bp, _, up, e0, clo_at I re (fun y c o h1 h2 => w1 c o h2 (I.freeC y c h1) (cell_nf I hfn h1)) LS hix hraw lm ex hm (hB bp up), hN G la, ev, Same.refl _, List.prefix_rfl⟩
variable {W : WX} {kc kf : Nat} {g : Sl → Env → (Clo → Prop) → Prop} {F : Clo → DF} {fa : Addr} {x : Str} {p pos : Pos} {e : Expr} {fe fo : DL'}
theorem give_sp {K : PySem.W.Frag} {σ : L2.St} {H : Hp} {Q : VK} {ρ : Env} {G : Hp} {la : List Addr} {P : Sl → Env → Prop} {XX : XP} {ss : List Sl} {vs : List V} {S : DF} (re : Re K G H la σ ρ) (z : SlsR K G la vs ss)
    (h : S ss ρ.T (fun r T' => P r ⟨T', ρ.s⟩) (fun x T' => XX x ⟨T', ρ.s⟩)) (q : ∀ d ρ' v G' la' H', P d ρ' → Aft K G la σ ρ' G' la' H' → SlR K G' la' v d → Q v H') (xo : XO K G la W XX) : spD K vs.length S vs H Q (WE W σ) :=
  ⟨rfl, ss, G, la, ρ.T, _, _, re.tb, z, h, fun r2 T' v G' la' H' pr g pp rl sr => q _ _ _ _ _ _ pr ⟨g, pp, ⟨rl, re.sl, fun i y hy => by
      obtain ⟨u, hu, ru⟩ := re.at_ i y hy
      exact ⟨u, hu, ru.grow g pp⟩⟩⟩ sr, fun y T' G' la' H' cls od px g pp rl xr => xo y ⟨T', ρ.s⟩ σ G' la' H' cls od px ⟨g, pp, ⟨rl, re.sl, fun i y hy => by
      obtain ⟨u, hu, ru⟩ := re.at_ i y hy
      exact ⟨u, hu, ru.grow g pp⟩⟩⟩ xr⟩
/-- x(e), e a thing that may be called -/
theorem dl_callG (hgv : Gives X kc g) (hF : ∀ (bp : Heap) (c : Clo), (∀ b o, X.base.get? b = some o → bp.get? b = some o) → CloOk X.prog X.w X.K X.mg bp kc c → FnR X.prog X.w X.K X.mg bp (L2.CX X.prog X.w) kf fa (spD X.K 1 (F c))) (hr : Room kf X.A) (hm : X.mg x = some (.ref fa)) (hk : PySem.W.keepIn X.K (.ref fa) = true)
    (tk : Takes X W) (hE : PE X e (lL X.K W fe)) (hg : Gl X x := by rfl) (hdb : (x == ("__debug__" : Str)) = false := by decide) (he : starEach [e] X.env = (false, eval e X.env) :: starEach [] X.env := by rfl) (hpl : (backTo pos (starEach [] X.env)).any (·.1) = false := by rfl) :
    PE X (.Call (.Name x p) [e] [] pos) (lL X.K W (dCallG F g fe)) := by
  constructor
  rintro pins s σ H Q I ⟨ρ, G, la, P, XX, re, h, q, xo⟩
  refine wpAny_Call_Name_kw (ld_glob I hg hm ?_ hdb)
  refine PySem.W.callWith_K (h₀ := X.base) I.ok.mod.kin hk (thn ((pa_cons hE pa_nil he).run pos pins s σ H (fun vs H1 => ∃ v y ρ1 G1 la1, vs = [v] ∧ Aft X.K G la σ ρ1 G1 la1 H1 ∧ SlR X.K G1 la1 v y ∧ g y ρ1 fun c => F c [c.sl] ρ1.T (fun r T' => P r ⟨T', ρ1.s⟩) (fun x T' => XX x ⟨T', ρ1.s⟩)) I
    ⟨ρ, G, la, _, XX, re, h, fun d ρ' v G' la' H' p a z => ⟨v, d, ρ', G', la', rfl, a, z, p⟩, xo⟩) fun us s1 ⟨vs, H1, I1, r, v, y, ρ1, G1, la1, ev, a1, z1, h1⟩ => ⟨I1.kIn, ?_⟩) he hpl
  subst ev
  obtain ⟨bp, c, up, e0, C, hN, zc⟩ := hgv pins σ H1 s1 ρ1 G1 la1 y v _ I1 a1.r z1 h1
  exact run_R (us := us) (vs := [v]) (hF bp c up C) hr (passAt tk σ) I1 e0 r (give_sp a1.r (.cons zc .nil) hN (fun d ρ' v G' la' H' p a z => q _ _ _ _ _ _ p (a1.trans a) z) (xo.up a1.g a1.p))
end
end DL
set_option Elab.async false
set_option linter.all false
set_option maxRecDepth 100000
set_option maxHeartbeats 4000000
set_option autoImplicit false
/-! The data level: a comprehension over lambdas that the def made, its test calls them; none is kept. -/
namespace DL
open PySem PySem.Spec PyProof.Rows L2

/-- a comprehension's block, more being fixed -/
abbrev blkB (X : Cx) (bp : Heap) (s : Shared) (H : Hp) (scope : Scope) (cenv : PySem.Env) (fp : List Addr) : Cx := { X.blk s H scope cenv fp with base := bp }
theorem rebase {X : Cx} {pins : List (Addr × Obj)} {σ : L2.St} {H : Hp} {s : Shared} {bp : Heap} (I : Inv X pins σ H s) (M : Mod X.K X.mg bp) (h1 : ∀ b o, bp.get? b = some o → X.s_0.heap.get? b = some o ∧ X.H_0 b = none) (h2 : bp.objs.size ≤ X.s_0.heap.objs.size) (h3 : ∀ b o, bp.get? b = some o → b ∉ X.ex)
    (h4 : X.s_0.heap.FunFrames bp X.outer) : Inv { X with base := bp } pins σ H s :=
  ⟨⟨M, I.ok.kind, I.ok.glob, I.ok.blt, I.ok.above, I.ok.inj, I.ok.has, I.ok.cab, I.ok.hd, I.ok.frames, I.ok.stk, I.ok.exf, h1, h2, h3, I.ok.exfs, h4, I.ok.frf⟩, I.os, I.bare, I.base, I.loc, I.cell, I.free, I.freeC, I.pin, I.hok, I.len⟩
/-- what is asked once the walked thing has come: D the new list, t the tests by the turn -/
def LcB (X : Cx) (pins : List (Addr × Obj)) (σ : L2.St) (scope : Scope) (ifs : List Expr) (g : TG) (vs : List Nat) (Q : VK) (J : It) (H1 : Hp) : Prop := ∀ (D : Addr) (s3 : Shared) (bp : Heap), H1 D = none → Inv X pins σ (upd H1 D (.lst [])) s3 → (∀ b o, X.base.get? b = some o → bp.get? b = some o) →
  ((∀ x, X.fn x = true) → ∀ y c o, X.env.cells.lookup y = some c → s3.heap.get? c = some o → bp.get? c = some o) →
  ∃ t : Nat → TT, (∀ (i : Nat) (s : Shared) (H : Hp) (C : Addr) (cl : List (Str × Addr)) (fp : List Addr), PTs (blkB X bp s H scope (compEnvC scope cl C X.env) fp) ifs (t i)) ∧
    ∃ W : Nat → Nat → Hp → Prop, (∃ m, W 0 m (upd H1 D (.lst []))) ∧ ∀ i m H, W i m H → (J.stop i H ∧ Q (.ref D) H) ∨ (J.go i H ∧ ∃ Nx : Hp → Prop, (∀ H', Nx H' → ∃ m', m' < m ∧ W (i + 1) m' H') ∧
      ∀ x H', J.yld i H x H' → g x (L2.wipe σ vs) H' fun σ2 H2 => L2.wipe σ2 vs = L2.wipe σ vs ∧ t i σ2 H2 fun b H3 => b = false ∧ Nx H3)
section
variable {X : Cx}
theorem lc_bp {elt tg iter : Expr} {ifs : List Expr} {scope : Scope} {own : List (Str × Nat)} {pos : Pos} {wi : TI} {g : TG} (hc : X.calm = true) (hN : X.N.Nodup) (hi : PI X tg iter wi) (ok : BlkOk X.N X.env.scope scope own)
    (hg : ∀ (bp : Heap) (s : Shared) (H : Hp) (C : Addr) (cl : List (Str × Addr)) (fp : List Addr), PG (blkB X bp s H scope (compEnvC scope cl C X.env) fp) tg g) (hs : ∀ x, foldedSetIterable iter X.env x = pure x := by intro _; rfl) :
    PE X (.ListComp elt [⟨tg, iter, ifs, 0⟩] scope pos) (fun σ H Q => ∀ pins, wi σ H (LcB X pins σ scope ifs g (own.map (·.2)) Q)) := by
  refine ⟨fun pins s σ H Q I hh => ?_⟩
  have hw := hh pins
  have fr : ∀ y ∈ scope.names, y.2 = .free → ∃ c, X.env.cells.lookup y.1 = some c := fun y hy e => (ok.free y hy e).elim (fun z => I.ok.has _ (.inl z)) fun z => I.ok.has _ (.inr z)
  rw [eval_ListComp]
  refine wpAny_comprehension_free (use := none) rfl hs (closure_ok fr) ok.kind (fun y hy e => by rw [ok.uniq y hy, e]) (thn (hi.run pins s σ H _ I hw) fun xv sa ha => thn ha fun itv sb hb => ?_)
  obtain ⟨it, fp, tn, J, Hb, ei, Ib, T, stb, fb, q⟩ := hb
  subst ei
  refine wpAny_newObj_type (newEnv_comp ?_) (by show 0 ≤ sizeLine; decide)
  generalize eD : sb.heap.objs.size = D
  have nD : Hb D = none := Ib.hok.fresh (Nat.le_of_eq eD)
  generalize ec : ({ sb with heap := sb.heap.push { cls := .type "list", data := .seq ([] : List Value).toArray } } : Shared) = sc
  have Ic : Inv X pins σ (upd Hb D (.lst [])) sc := by
    rw [← ec]
    refine Ib.laid (t' := sb.toks) (fun b o e => Heap.get?_push_of_some _ e) (Nat.le_of_eq eD) ⟨Nat.zero_le _, [], 0, .nil, ?_⟩
    rw [← eD]
    exact Heap.get?_push_size _ rfl
  have hpc : sc.heap = sb.heap.push { cls := .type "list", data := .seq ([] : List Value).toArray } := by rw [← ec]
  have fpc : ∀ b ∈ fp, FpOk X pins (upd Hb D (.lst [])) b ∧ b < sc.heap.objs.size := fun b hm => by
    obtain ⟨o, e, _⟩ := T.obj _ _ stb b hm
    have lt := Heap.lt_size e
    refine ⟨⟨?_, (fb b hm).2⟩, by rw [hpc, Heap.size_push]; exact Nat.lt_succ_of_lt lt⟩
    rw [upd_ne (by rw [← eD]; exact Nat.ne_of_lt lt)]
    exact (fb b hm).1
  have stc : tn 0 sc.heap := T.keep _ _ _ stb fun b _ o e => by rw [hpc]; exact Heap.get?_push_of_some _ e
  -- what is fixed within the block
  obtain ⟨bp, up, w1, w2, wz, MB, e0⟩ := wideX Ic fp fun b hm => by
    cases e : X.base.get? b with
    | none => rfl
    | some o =>
      rcases (fpc b hm).1.2.2.2.1 with z | z
      · exact absurd z (I.ok.noex b o e)
      · exact absurd (Nat.lt_of_lt_of_le (Heap.lt_size e) (Nat.le_trans I.ok.bsz z)) (Nat.lt_irrefl _)
  obtain ⟨t, ht, W, ⟨m0, wm0⟩, turn⟩ := q D sc bp nD Ic up fun hfn y c o h1 h2 => w1 c o h2 (Ic.freeC y c h1) (cell_nf Ic hfn h1) fun hm => (fpc c hm).1.2.2.2.2.1 y c h1 rfl
  have Id := block_start Ic ok hN fpc
  have pg := hg bp sc (upd Hb D (.lst [])) sc.heap.objs.size (cellsFrom (sc.heap.objs.size + 1) scope.names (cloFrom X.env.cells scope.names [])) fp
  have pt := fun i => ht i sc (upd Hb D (.lst [])) sc.heap.objs.size (cellsFrom (sc.heap.objs.size + 1) scope.names (cloFrom X.env.cells scope.names [])) fp
  show codeAny _ _ (.compStart (.ListComp elt [⟨tg, iter, ifs, 0⟩] scope pos) 0 (.ref it) (.ref D) (compEnvC scope (cellsFrom (sc.heap.objs.size + 1) scope.names (cloFrom X.env.cells scope.names [])) sc.heap.objs.size X.env)) _ { sc with heap := pushCells (sc.heap.push { cls := .type "dict", data := .dict #[] }) scope.names }
  have nfp : ∀ b ∈ fp, (upd Hb D (.lst [])) b = none := fun b hm => (fpc b hm).1.1
  generalize ee : compEnvC scope (cellsFrom (sc.heap.objs.size + 1) scope.names (cloFrom X.env.cells scope.names [])) sc.heap.objs.size X.env = ce at Id pg pt ⊢
  have cL : ce.locals = sc.heap.objs.size := by subst ee; rfl
  generalize eH : upd Hb D (.lst []) = Hc at Ic Id pg pt wm0 nfp fpc w2 e0
  generalize ed : ({ sc with heap := pushCells (sc.heap.push { cls := .type "dict", data := .dict #[] }) scope.names } : Shared) = sd at Id ⊢
  have std : tn 0 sd.heap := T.keep _ _ _ stc fun b _ o e => by rw [← ed]; exact pushCells_keeps _ _ _ _ (Heap.get?_push_of_some _ e)
  have Ie : Inv (blkB X bp sc Hc scope ce fp) [] (L2.wipe σ (own.map (·.2))) Hc sd := rebase Id MB (fun b o e => ⟨(w2 b o e).1, (w2 b o e).2.1⟩) (Nat.le_of_eq wz) (fun b o e => (w2 b o e).2.2.2) e0.funs
  have stat : ∀ {σ' : L2.St} {H' : Hp} {s' : Shared}, Inv (blkB X bp sc Hc scope ce fp) [] σ' H' s' → (∀ b ∈ fp, H' b = none) → ∀ b ∈ fp, FpOk (blkB X bp sc Hc scope ce fp) [] H' b := fun {σ' H' s'} Iz hn b hm =>
    ⟨hn b hm, (Iz.ok.exf b hm).1, Iz.ok.exfs b hm, .inl hm, fun x c e => (Iz.ok.exf b hm).2 x c e, fun p hp => absurd (show p ∈ ([] : List (Addr × Obj)) ++ [] from hp) (by simp)⟩
  have loop : codeAny (model X.prog X.w) X.A (.compLoop (.ListComp elt [⟨tg, iter, ifs, 0⟩] scope pos) 0 (.ref it) (.ref D) ce) (compPost (model X.prog X.w) X.A X.xe none (EP X pins σ Q) (.ref D) sc.heap.objs.size) sd := by
    refine compLoop_any (fun n s' => ∃ i H', Inv (blkB X bp sc Hc scope ce fp) [] (L2.wipe σ (own.map (·.2))) H' s' ∧ tn i s'.heap ∧ (∀ b ∈ fp, H' b = none) ∧ W i n H') ?_ m0 ⟨0, Hc, Ie, std, nfp, wm0⟩
    rintro n se ⟨i, He, Jn, ste, nz, wn⟩
    rcases turn i n He wn with ⟨stop, qq⟩ | ⟨go, Nx, hNx, step⟩
    · refine thnF (T.done (blkB X bp sc Hc scope ce fp) rfl rfl rfl hc i [] se _ He (fun _ _ => False) Jn (stat Jn nz) ste stop) fun r sf ⟨hr, Jf⟩ => ?_
      subst hr
      have Jx : Inv X pins σ He sf := Ic.call' (ch := fp) Jf.os Jf.base Jf.hok Jf.bare fun b hm => ⟨(fpc b hm).1.2.2.2.1, (fpc b hm).1.2.1, (fpc b hm).1.2.2.2.2.1, (fpc b hm).1.2.2.2.2.2⟩
      have nC : He sc.heap.objs.size = none := by
        have z : He ce.locals = none := Jf.free
        rw [cL] at z
        exact z
      obtain ⟨m, hn, _⟩ := Jf.loc
      have hn : sf.heap.Ns ce.locals m := hn
      rw [cL] at hn
      obtain ⟨f0, f1, f2, f3, f4, f5⟩ := Ic.fpOk (Nat.le_refl _) nC
      exact ⟨m, hn, fun hz sm => ⟨.ref D, He, Jx.turned (t' := sf.toks) (fun b o hm e => (sm.2 b hm).trans e) f0 f1 f3 f4 f5, rfl, qq⟩⟩
    · refine thnF (T.item (blkB X bp sc Hc scope ce fp) rfl rfl rfl hc i [] se _ He (fun _ _ => False) Jn (stat Jn nz) ste go) fun r sf ⟨u, hr, hx⟩ => ?_
      subst hr
      refine thnF hx fun _ sg ⟨x, Hg, Jg, rx, yx, stg, ng⟩ => ?_
      have Jp := Jg.pinned (stat Jg ng) (T.obj _ _ stg)
      refine thnF (pg.run _ sg _ Hg x u _ Jp rx (step x Hg yx)) fun _ sh ⟨σh, Hh, Jh, hwh, qh⟩ => ?_
      refine thnF ((pt i).run _ sh σh Hh _ Jh qh) fun b si ⟨Hi, Ji, eb, nx⟩ => ?_
      subst eb
      simp only [Bool.false_eq_true, if_false]
      obtain ⟨m', hm, wm⟩ := hNx Hi nx
      have pin' : ∀ b ∈ fp, ∀ o, sg.heap.get? b = some o → si.heap.get? b = some o ∧ Hi b = none := fun b hb o e =>
        let z := Ji.pin (b, o) (List.mem_append_right _ (List.mem_append_right _ (mem_pinsAt hb e)))
        ⟨z.1, z.2.1⟩
      have hl : (L2.wipe σ (own.map (·.2))).length = σh.length := by rw [← hwh, wipe_length]
      refine ⟨m', hm, i + 1, Hi, (Ji.unpinned (pins := [])).weak hl (fun j v e => ?_), T.keep _ _ _ stg fun b hb o e => (pin' b hb o e).1, fun b hb => ?_, wm⟩
      · rw [← hwh] at e
        exact (wipe_some e).1
      · obtain ⟨o, e, _⟩ := T.obj _ _ stg b hb
        exact (pin' b hb o e).2
  exact codeAny_compStart_list loop (T.self X.A 0 _ _ _ std loop)
end
end DL
set_option Elab.async false
set_option linter.all false
set_option maxRecDepth 100000
set_option maxHeartbeats 4000000
set_option autoImplicit false
/-! The data level: [x for x in lambdas if test], none is kept. -/
namespace DL
open PySem PySem.Spec PyProof.Rows L2
section
variable {X : Cx} {W : WX}
theorem wipeS_two (s : List (Option Sl)) (vs : List Nat) : wipeS (wipeS s vs) vs = wipeS s vs := by
  have idem : ∀ (s : List (Option Sl)) (vs : List Nat), (∀ v ∈ vs, v < s.length → s[v]? = some none) → wipeS s vs = s := by
    intro s vs
    induction vs with
    | nil => intro _; rfl
    | cons v vs ih =>
      intro hv
      unfold wipeS
      rw [ih fun u hu => hv u (List.mem_cons_of_mem _ hu)]
      apply List.ext_getElem?
      intro j
      rw [List.getElem?_set]
      split
      · rename_i hj
        split
        · rename_i hl
          rw [← hj, hv v List.mem_cons_self hl]
        · rename_i hl
          rw [← hj, List.getElem?_eq_none (by omega)]
      · rfl
  have at_ : ∀ (s : List (Option Sl)) (vs : List Nat), ∀ v ∈ vs, v < s.length → (wipeS s vs)[v]? = some none := by
    intro s vs
    induction vs with
    | nil => intro v hv; simp at hv
    | cons u vs ih =>
      intro v hv hl
      unfold wipeS
      rw [List.getElem?_set]
      split
      · rw [if_pos (by rw [wipeS_len]; omega)]
      · rename_i hne
        rcases List.mem_cons.mp hv with e | hv
        · exact absurd e.symm hne
        · exact ih v hv hl
  exact idem _ _ fun v hv hl => at_ _ _ v hv (by rwa [wipeS_len] at hl)
end
end DL
set_option Elab.async false
set_option linter.all false
set_option maxRecDepth 100000
set_option maxHeartbeats 4000000
set_option autoImplicit false
/-! The data level: defs that raise nothing, called within an except suite. -/
theorem L2H.RoomH.units {k : Nat} {A : PySem.Around} (r : L2H.RoomH k A) : A.units + 64 < PySem.cLine := by have := r.un; omega
theorem L2H.RoomH.in1 {k : Nat} {A : PySem.Around} (r : L2H.RoomH (k + 1) A) : L2H.RoomH k A.in1 :=
  ⟨by have := r.dp; show A.depth + 3 * k + 5 < _; omega, by have := r.un; show A.units + 1 + 16 * k + 200 < _; omega⟩
namespace DL
open PySem PySem.Spec PyProof.Rows L2
open L2H (RoomH)
section
variable {X : Cx} {E : XK} {C f : Addr} {k n : Nat} {F : DF} {pins : List (Addr × Obj)} {σ : L2.St} {H : Hp} {s : Shared}
end
/-! ### by data -/
section
variable {X : Cx} {Cn m : Str} {C f : Addr} {k : Nat} {F : DF} {a b : Expr} {fa fb : DL'} {p pos : Pos}
end
/-! ### small things for the joining -/
theorem fnr_of {P : Program} {w : World} {K : PySem.W.Frag} {mg : Str → Option Value} {base : Heap} {k n : Nat} {f : Addr} {fd : FuncData} {ps : List Str} {S : DF} (F : FnOk P w K mg base (L2.CX P w) k f fd ps (spD K n S)) (hb : Binds K fd ps []) : FnR P w K mg base (L2.CX P w) k f (spD K n S) :=
  (FnOk.raw F hb .nil).imp fun vs H Q E h => by rw [List.append_nil]; exact h
theorem LamB.mono {P : Program} {w : World} {K : PySem.W.Frag} {mg : Str → Option Value} {bp : Heap} {j k : Nat} {L : LamR} {S : DF} (h : LamB P w K mg bp j L S) (hk : j ≤ k) : LamB P w K mg bp k L S := by
  obtain ⟨fb, h1, h2⟩ := h
  exact ⟨fb, fun A outer s H E f c' cl hr => h1 A outer s H E f c' cl (hr.mono hk), h2⟩
/-- what a lambda does, as its body says -/
def lamS (fb : DL') : DF := fun ss T Q QX => fb (fun x ρ => QX x ρ.T) ⟨T, ss.map some⟩ (fun r ρ => Q r ρ.T)
theorem lamB_of {P : Program} {w : World} {K : PySem.W.Frag} {mg : Str → Option Value} {bp : Heap} {k : Nat} {L : LamR} {fb : DL'}
    (h : ∀ (A : Around) (outer : List PySem.Env) (s : Shared) (H : Hp) (E : XK) (f c' : Addr) (cl : List (Str × Addr)), Room k (A.deeper (lamE L s.heap.objs.size f c' cl)) → PE (lamX P w K mg bp A outer s H E L f c' cl) L.body (lL K (WF' E) fb)) : LamB P w K mg bp k L (lamS fb) := ⟨fb, h, fun _ _ _ _ h => h⟩
theorem ltab0 {X : Cx} {k : Nat} : ∀ t ∈ ([] : List LamE), LamEOk X k t := fun t h => by simp at h
theorem ltab {X : Cx} {k : Nat} {t : LamE} {l : List LamE} (h : LamEOk X k t) (r : ∀ t ∈ l, LamEOk X k t) : ∀ u ∈ t :: l, LamEOk X k u := fun u hu => (List.mem_cons.mp hu).elim (fun e => by rw [e]; exact h) (r u)
/-- a def that makes lambdas: which they are is told at its entry -/
theorem fn_DL {P : Program} {w : World} {K : PySem.W.Frag} {mg : Str → Option Value} {base : Heap} {x qual : Str} {st : Stmt} {f : Addr} {N ps : List Str} {k n : Nat} {F : DF} {B : (Nat → Addr → Hp → Prop) → DS} {oc kV doc pm cdv ct : Value} {od an : Option Addr} {osl : Array (Option Value)}
    (lk : K.lookup f = some ⟨oc, od, .func (PySem.W.fnOf x qual (defArgs st) (defBody st) (defScope st) .none kV doc pm an cdv ct), osl⟩) (hcd : PySem.W.codeIn K cdv qual = true) (S : FnScope N ps (defScope st)) (hn : ps.length = n) (Ls : List LamR) (d : LamR)
    (hB : ∀ (A : Around) (outer : List PySem.Env) (s : Shared) (H : Hp) (E : XK), Room k (A.deeper (envOfC qual (defScope st) s.heap.objs.size f cdv)) →
      PSs (cxOf (L2.CX P w) P w K mg base N qual (defScope st) f cdv A outer s H E) (defBody st) (lS K (fun cls d _ H => E cls d H) (B fun j => LmAt (Ls.getD j d) (clOf (cxOf (L2.CX P w) P w K mg base N qual (defScope st) f cdv A outer s H E) (Ls.getD j d)))))
    (hF : ∀ (Lm : Nat → Addr → Hp → Prop) (ss : List Sl) (T : List Ob) (Q : Sl → List Ob → Prop) (QX : Xn → List Ob → Prop), ss.length = n → F ss T Q QX → B Lm (endsOf T.length Q QX) (startD N.length n ss T)) :
    FnOk P w K mg base (L2.CX P w) (k + 1) f (PySem.W.fnOf x qual (defArgs st) (defBody st) (defScope st) .none kV doc pm an cdv ct) ps (spD K n F) := by
  refine fn_of lk hcd S (fun vs H Q E h => h.1.trans hn.symm) (fun A outer s H vs Q E hr h => ⟨_, hB A outer s H E hr, ?_⟩)
  obtain ⟨hl, ss, G, la, T, Pd, PX, rl, sr, fp, q, qx⟩ := h
  exact ⟨startD N.length n ss T, G, la, endsOf T.length Pd PX, start_re rfl (hl.symm.trans sr.len) rl sr, hF _ ss T Pd PX (sr.len.symm.trans hl) fp, ends_bk rl.len q qx⟩
/-! ### where a lambda stands in the text -/
def pStmts : Stmt → Nat → Stmt := fun st i => (defBody st).getD i (.Pass ⟨0, 0, 0, 0⟩)
def pIn : Stmt → Nat → Stmt
  | .For _ _ b _ _, i => b.getD i (.Pass ⟨0, 0, 0, 0⟩)
  | .If _ b _ _, i => b.getD i (.Pass ⟨0, 0, 0, 0⟩)
  | s, _ => s
def pEx : Stmt → Expr
  | .Assign _ e _ => e
  | .Expr e _ => e
  | .If t _ _ _ => t
  | .Return (some e) _ => e
  | _ => .Name "" ⟨0, 0, 0, 0⟩
def pArg : Expr → Expr
  | .Call _ (a :: _) _ _ => a
  | e => e
def pElt : Expr → Expr
  | .List (a :: _) _ => a
  | e => e
def pLeft : Expr → Expr
  | .Compare a _ _ _ => a
  | e => e
def lamR (q : Str) (ps fr : List Str) : Expr → LamR
  | .Lambda p b s _ => ⟨p, b, s, q, ps, fr⟩
  | e => ⟨defArgs (.Pass ⟨0, 0, 0, 0⟩), e, defScope (.Pass ⟨0, 0, 0, 0⟩), q, ps, fr⟩
end DL
set_option Elab.async false
set_option linter.all false
set_option maxRecDepth 100000
set_option maxHeartbeats 4000000
set_option autoImplicit false
/-! The data level: defs that hand out lambdas: their cells outlive the frame. First: a body whose last return tells the slots. -/
namespace DL
open PySem PySem.Spec PyProof.Rows L2

/-- statements that end with one return; R is told the slots as they stand there -/
structure PZ (X : Cx) (st : List Stmt) (t : (V → L2.St → Hp → Prop) → L2.St → Hp → Prop) : Prop where
  run : ∀ (pins : List (Addr × Obj)) (s : Shared) (σ : L2.St) (H : Hp) (R : V → L2.St → Hp → Prop), Inv X pins σ H s → t R σ H →
    wpAny (model X.prog X.w) X.A (execs st X.env) (fun fl s' => ∃ u v σ' H', fl = .ret u ∧ Inv X pins σ' H' s' ∧ RelV v u ∧ R v σ' H') X.xe s
def lZ (K : PySem.W.Frag) (W : WX) (f : DS) : (V → L2.St → Hp → Prop) → L2.St → Hp → Prop := fun R σ H => ∃ ρ G la P XX, Re K G H la σ ρ ∧ f { nx := fun _ => False, rt := P, xn := XX } ρ ∧
  (∀ x ρ' v σ' G' la' H', P x ρ' → Aft K G la σ' ρ' G' la' H' → SlR K G' la' v x → R v σ' H') ∧ XO K G la W XX
section
variable {X : Cx} {W : WX} {st : Stmt} {rest : List Stmt} {pos : Pos}
theorem dz_ret {e : Expr} {f : DL'} (he : PE X e (lL X.K W f)) : PZ X [.Return (some e) pos] (lZ X.K W (sRet f)) := by
  refine ⟨fun pins s σ H R I ⟨ρ, G, la, P, XX, re, h, q, xo⟩ => ?_⟩
  refine wpAny_execs_cons (wpAny_Return_some (thn (he.run pins s σ H (fun v H' => R v σ H') I ⟨ρ, G, la, P, XX, re, h, fun x ρ' v G' la' H' p a z => q x ρ' v σ G' la' H' p a z, xo⟩) fun v s1 ⟨x, H1, I1, r1, q1⟩ => ?_))
  exact ⟨_, x, σ, H1, rfl, I1, r1, q1⟩
theorem dz_cons {f g : DS} (h1 : PS X st (lS X.K W f)) (h2 : PZ X rest (lZ X.K W g)) (nr : ∀ E ρ, f E ρ → f { E with rt := fun _ _ => False } ρ) : PZ X (st :: rest) (lZ X.K W (sSeq f g)) := by
  refine ⟨fun pins s σ H R I ⟨ρ, G, la, P, XX, re, h, q, xo⟩ => ?_⟩
  refine wpAny_execs_cons (thn (h1.run pins s σ H { nx := lZ X.K W g R, rt := fun _ _ => False } I ⟨ρ, G, la, _, re, nr _ _ h, ⟨fun ρ' σ' G' la' H' p a => ?_, fun _ _ _ _ _ p _ => p.elim, fun _ _ _ _ _ p _ => p.elim, fun _ _ _ _ _ _ _ p _ _ => p.elim, xo⟩⟩) fun fl s1 z => ?_)
  · exact ⟨ρ', G', la', P, XX, a.r, p, fun x ρ2 v σ2 G2 la2 H2 p2 a2 z2 => q x ρ2 v σ2 G2 la2 H2 p2 (a.trans a2) z2, xo.up a.g a.p⟩
  · cases fl with
    | next =>
      obtain ⟨σ', H', I', z⟩ := z
      exact h2.run pins s1 σ' H' R I' z
    | ret v =>
      obtain ⟨_, _, _, _, _, z⟩ := z
      exact z.elim
    | brk =>
      obtain ⟨_, _, _, z⟩ := z
      exact z.elim
    | cont =>
      obtain ⟨_, _, _, z⟩ := z
      exact z.elim
end
end DL
set_option Elab.async false
set_option linter.all false
set_option maxRecDepth 100000
set_option maxHeartbeats 4000000
set_option autoImplicit false
/-! The data level: cells that outlive their frame, as things that are known. -/
namespace DL
open PySem PySem.Spec PyProof.Rows L2

/-- a cell and what it holds -/
def CellO (c : Addr) (u : Value) : HO := .ext fun h => ∃ o, h.get? c = some o ∧ o.data = .cell (some u)
abbrev CellH (h : Heap) (c : Addr) (u : Value) : Prop := ∃ o, h.get? c = some o ∧ o.data = .cell (some u)
theorem cellO_ok {P : Program} {w : World} {H : Hp} {h : Heap} {c : Addr} {u : Value} (e : CellH h c u) : ObjOk P w H h c (CellO c u) :=
  ⟨e, e.imp fun _ z => z.1, fun _ _ ⟨o, e, d⟩ k => ⟨o, k o e, d⟩⟩
/-- the cells cs are known too -/
def upC (H : Hp) (cs : Addr → Option Value) : Hp := fun b => match cs b with
  | some u => some (CellO b u)
  | none => H b
/-- the cells cs are not looked at -/
def dnC (H : Hp) (cs : Addr → Option Value) : Hp := fun b => match cs b with
  | some _ => none
  | none => H b
theorem upC_some {H : Hp} {cs : Addr → Option Value} {b : Addr} {u : Value} (h : cs b = some u) : upC H cs b = some (CellO b u) := by unfold upC; rw [h]
theorem upC_none {H : Hp} {cs : Addr → Option Value} {b : Addr} (h : cs b = none) : upC H cs b = H b := by unfold upC; rw [h]
theorem dnC_some {H : Hp} {cs : Addr → Option Value} {b : Addr} {u : Value} (h : cs b = some u) : dnC H cs b = none := by unfold dnC; rw [h]
theorem dnC_none {H : Hp} {cs : Addr → Option Value} {b : Addr} (h : cs b = none) : dnC H cs b = H b := by unfold dnC; rw [h]
/-- cs are not tracked -/
def Out (H : Hp) (cs : Addr → Option Value) : Prop := ∀ b u, cs b = some u → H b = none
theorem Out.none {H : Hp} {cs : Addr → Option Value} (n : Out H cs) {b : Addr} {o : HO} (h : H b = some o) : cs b = none := by
  cases e : cs b with
  | none => rfl
  | some u =>
    rw [n b u e] at h
    cases h
theorem Out.up {H : Hp} {cs : Addr → Option Value} (n : Out H cs) {b : Addr} {o : HO} (h : H b = some o) : upC H cs b = some o := by rw [upC_none (n.none h), h]
theorem Out.same {H : Hp} {cs : Addr → Option Value} (n : Out H cs) : Same H (upC H cs) := fun _ _ h => n.up h
section
variable {P : Program} {w : World} {K : PySem.W.Frag} {G H H0 : Hp} {cs : Addr → Option Value} {h h0 : Heap} {fs ex : List Addr} {la : List Addr} {T : List Ob}
theorem hok_up (x : HOk P w H h) (n : Out H cs) (hc : ∀ b u, cs b = some u → CellH h b u) : HOk P w (upC H cs) h := fun b o e => by
  cases q : cs b with
  | some u =>
    rw [upC_some q] at e
    cases e
    exact cellO_ok (hc b u q)
  | none =>
    rw [upC_none q] at e
    exact (x b o e).stay (fun c v _ z => z) (fun c z => n.up z) fun c xs z => n.up z
theorem un_up (x : Un fs ex H0 H h0 h) (n : Out H cs) (hc : ∀ b u, cs b = some u → h0.get? b = none ∨ b ∈ ex ∨ H0 b ≠ none) : Un fs ex H0 (upC H cs) h0 h :=
  ⟨x.keep, x.slot, fun b o e z hx => by
    cases q : cs b with
    | some u =>
      rcases hc b u q with e2 | e2 | e2
      · rw [e2] at e
        cases e
      · exact absurd e2 hx
      · exact absurd z e2
    | none =>
      rw [upC_none q]
      exact x.free b o e z hx, x.there, fun b xs z => n.up (x.tups b xs z), fun b o u z => n.up (x.frzs b o u z), fun b ps z => by
    obtain ⟨more, e⟩ := x.tbls b ps z
    exact ⟨more, n.up e⟩⟩
theorem rl_up (r : Rl K G H la T) (n : Out H cs) : Rl K (upC G cs) (upC H cs) la T ∧ Same G (upC G cs) := by
  have n' : Out G cs := fun b u e => none_of r.ext (n b u e)
  have r1 : Rl K G (upC H cs) la T := r.extN (LamX.ExtN.of fun b o e => n.up e) (LamX.Tabs.ext (fun p hp => (r.tbl p hp).2) fun b o e => n.up e)
  have gn : ∀ {b : Addr} {o : HO}, H b = some o → G b = none → upC G cs b = none := fun {b o} e z => by rw [upC_none (n.none e)]; exact z
  refine ⟨⟨fun b o e => ?_, r.nd, r.len, fun k a o h1 h2 => ?_, r1.there, fun b ps e => ?_, fun p hp => ⟨?_, (r1.tbl p hp).2⟩⟩, n'.same⟩
  · cases q : cs b with
    | some u =>
      rw [upC_some q] at e ⊢
      exact e
    | none =>
      rw [upC_none q] at e ⊢
      exact r.ext b o e
  · have z := r.tab k a o h1 h2
    cases o with
    | dead => exact True.intro
    | lst ds =>
      obtain ⟨g, vs, e, l, d⟩ := z
      exact ⟨gn e g, vs, n.up e, l, d.up n'.same⟩
    | dic ks ds =>
      obtain ⟨g, vs, e, l0, l, d⟩ := z
      exact ⟨gn e g, vs, n.up e, l0, l, d.up n'.same⟩
    | ins C fs =>
      obtain ⟨g, Ca, dx, vs, m, e, o, q, d⟩ := z
      exact ⟨gn e g, Ca, dx, vs, m, n.up e, n.up o, q, d.up n'.same⟩
  · cases q : cs b with
    | some u =>
      rw [upC_some q] at e
      cases e
    | none =>
      rw [upC_none q] at e
      exact r.nt b ps e
  · obtain ⟨g, ps, e, _⟩ := r.tbl p hp
    exact gn e g
end
end DL
set_option Elab.async false
set_option linter.all false
set_option maxRecDepth 100000
set_option maxHeartbeats 4000000
set_option autoImplicit false
/-! The data level: a def that hands out lambdas: at its end they stand with their cells. -/
namespace DL
open PySem PySem.Spec PyProof.Rows L2

/-- the lambda L stands at f; its cells are known, and hold what raw says -/
def FzAt (K : PySem.W.Frag) (L : LamR) (raw : List D) (f : Addr) (G0 : Hp) : Prop := ∃ (c' : Addr) (cl : List (Str × Addr)), G0 f = some (LamO f c' L cl) ∧ G0 c' = some (LamX.CodeO c' L.q) ∧ raw.length = L.fr.length ∧
  (∀ (y : Str) (c : Addr), cl.lookup y = some c → y ∈ L.fr) ∧ (∀ (y z : Str) (c : Addr), cl.lookup y = some c → cl.lookup z = some c → y = z) ∧
  ∀ (i : Nat) (y : Str) (d : D), L.fr[i]? = some y → raw[i]? = some d → ∃ (c : Addr) (u : Value) (v : V), cl.lookup y = some c ∧ G0 c = some (CellO c u) ∧ RelV v u ∧ Dp K G0 v d
theorem FzAt.up {K : PySem.W.Frag} {L : LamR} {raw : List D} {f : Addr} {G0 G : Hp} (h : FzAt K L raw f G0) (e : Same G0 G) : FzAt K L raw f G := by
  obtain ⟨c', cl, h1, h2, h3, h4, h5, h6⟩ := h
  refine ⟨c', cl, e _ _ h1, e _ _ h2, h3, h4, h5, fun i y d a b => ?_⟩
  obtain ⟨c, u, v, x1, x2, x3, x4⟩ := h6 i y d a b
  exact ⟨c, u, v, x1, e _ _ x2, x3, x4.up e⟩
section
variable {X : Cx} {pins : List (Addr × Obj)} {σ : L2.St} {H G : Hp} {s : Shared} {ρ : Env} {la : List Addr} {L : LamR} {ixs : List Nat} {raw : List Sl}
theorem clo_cm (I : Inv X pins σ H s) (LS : LamSc L X.env.scope) {y : Str} {c : Addr} (e : (clOf X L).lookup y = some c) : y ∈ L.fr ∧ X.env.cells.lookup y = some c := by
  rcases cloFrom_mem (PySem.mem_of_lookup e) with z | ⟨h1, h2⟩
  · cases z
  · refine ⟨(LS.free _ h1 rfl).1, ?_⟩
    obtain ⟨c1, hc1⟩ : ∃ c, X.env.cells.lookup y = some c := by
      rcases (LS.free _ h1 rfl).2 with z | z
      · exact I.ok.has _ (.inl z)
      · exact I.ok.has _ (.inr z)
    rw [hc1] at h2 ⊢
    rw [h2]
    rfl
/-- a captured slot, its cell -/
theorem cell_slot (I : Inv X pins σ H s) (re : Re X.K G H la σ ρ) (LS : LamSc L X.env.scope) (hix : ixs.map (fun i => X.N[i]?) = L.fr.map some) (hraw : ixs.map (fun i => ρ.s[i]?) = raw.map fun x => some (some x)) {i : Nat} {y : Str} {x : Sl} (hy : L.fr[i]? = some y) (hx : raw[i]? = some x) :
    ∃ c u v, (clOf X L).lookup y = some c ∧ X.env.cells.lookup y = some c ∧ CellH s.heap c u ∧ RelV v u ∧ SlR X.K G la v x := by
  have lenI : ixs.length = L.fr.length := by simpa using congrArg List.length hix
  have hi : i < ixs.length := by
    rw [lenI]
    exact (List.getElem?_eq_some_iff.mp hy).1
  have e1 : (ixs.map (fun i => X.N[i]?))[i]? = some (X.N[ixs[i]]?) := by rw [List.getElem?_map, List.getElem?_eq_getElem hi]; rfl
  rw [hix, List.getElem?_map, hy] at e1
  have e1 := (Option.some.inj e1).symm
  have e2 : (ixs.map (fun i => ρ.s[i]?))[i]? = some (ρ.s[ixs[i]]?) := by rw [List.getElem?_map, List.getElem?_eq_getElem hi]; rfl
  rw [hraw, List.getElem?_map, hx] at e2
  have e2 := (Option.some.inj e2).symm
  obtain ⟨v, hv, rv⟩ := re.at_ _ _ e2
  have kf : L.scope.names.lookup y = some .free := LS.fre y (List.mem_of_getElem? hy)
  have hs := (LS.free _ (PySem.mem_of_lookup kf) rfl).2
  obtain ⟨mm, hn, hl⟩ := I.loc
  obtain ⟨u, ru, lk⟩ := hl _ y v e1 hv (hs.elim (fun z => .inr (.inl z)) fun z => .inr (.inr z))
  rcases lk with ⟨z, _⟩ | ⟨_, c, hcl, ob, hob, hd⟩
  · have z : X.env.scope.names.lookup y = some .local := z
    rcases hs with z2 | z2 <;> rw [show X.env.scope.names.lookup y = _ from z2] at z <;> cases z
  · obtain ⟨c2, h2⟩ := mem_lookup (cloFrom_has (cells := X.env.cells) (acc := []) (PySem.mem_of_lookup kf))
    have h3 := (clo_cm I LS h2).2
    rw [hcl] at h3
    cases h3
    exact ⟨c, u, v, h2, hcl, ⟨ob, hob, hd⟩, ru, rv⟩
open Classical in
/-- the frame's own cells, as they stand -/
noncomputable def cellsOf (X : Cx) (h : Heap) : Addr → Option Value := fun b => if ∃ x, X.env.cells.lookup x = some b then (match h.get? b with
  | some o => (match o.data with
    | .cell u => u
    | _ => none)
  | none => none) else none
theorem cellsOf_some {h : Heap} {b : Addr} {u : Value} (e : cellsOf X h b = some u) : (∃ x, X.env.cells.lookup x = some b) ∧ CellH h b u := by
  unfold cellsOf at e
  split at e
  · rename_i hx
    split at e
    · rename_i o ho
      split at e
      · rename_i v hv
        subst e
        exact ⟨hx, o, ho, hv⟩
      · cases e
    · cases e
  · cases e
theorem cellsOf_at {h : Heap} {x : Str} {b : Addr} {u : Value} (hx : X.env.cells.lookup x = some b) (e : CellH h b u) : cellsOf X h b = some u := by
  obtain ⟨o, ho, hd⟩ := e
  unfold cellsOf
  rw [if_pos ⟨x, hx⟩, ho]
  simp only [hd]
end
/-- an entry of the table of the lambdas that a def hands out -/
structure LamZ where
  Lm : Addr → Hp → Prop
  ixs : List Nat
  Fz : List D → Addr → Hp → Prop
abbrev CsZ := List (Nat × Addr × Hp × List D)
def CsZ.old (cs : CsZ) : D := .lst (cs.map fun c => .cl c.2.1 c.2.2.1)
def CsZ.new (cs : CsZ) (G : Hp) : D := .lst (cs.map fun c => .cl c.2.1 G)
/-- the end of such a def -/
def retZ (n : Nat) (tab : List LamZ) (P : Sl → List Ob → Prop) : Sl → Env → Prop := fun x ρ => ∃ cs : CsZ, x = .dat cs.old ∧ (∀ c ∈ cs, ∃ t, tab[c.1]? = some t ∧ t.Lm c.2.1 c.2.2.1 ∧ t.ixs.map (fun i => ρ.s[i]?) = (c.2.2.2.map Sl.dat).map fun x => some (some x)) ∧
  ∀ G2 : Hp, (∀ c ∈ cs, ∀ t, tab[c.1]? = some t → t.Fz c.2.2.2 c.2.1 G2) → P (.dat (cs.new G2)) (ρ.T.take n)
theorem dps_new {K : PySem.W.Frag} {G' G2 : Hp} (e : Same G' G2) : ∀ (cs : CsZ) {vs : List V}, Dps K G' vs (cs.map fun c => .cl c.2.1 c.2.2.1) → Dps K G2 vs (cs.map fun c => .cl c.2.1 G2) ∧ ∀ c ∈ cs, ExtS c.2.2.1 G'
  | [], _, h => by
    cases h
    exact ⟨.nil, fun c h => by simp at h⟩
  | c :: r, _, h => by
    cases h with
    | cons a b =>
      obtain ⟨x, y⟩ := dps_new e r b
      cases a with
      | cl z =>
        refine ⟨.cons (.cl fun _ _ _ q => q) x, fun c' h' => ?_⟩
        rcases List.mem_cons.mp h' with rfl | h'
        · exact z
        · exact y c' h'

structure LamZOk (X : Cx) (t : LamZ) : Prop where
  ex : ∃ L, t.Lm = LmAt L (clOf X L) ∧ LamSc L X.env.scope ∧ t.ixs.map (fun i => X.N[i]?) = L.fr.map some ∧ t.Fz = FzAt X.K L
/-- at the end of a def that hands out lambdas, its cells become known -/
theorem end_Z {X : Cx} {pins : List (Addr × Obj)} {σ : L2.St} {H G : Hp} {s : Shared} {ρ : Env} {la : List Addr} {v : V} {tab : List LamZ} {n : Nat} {P : Sl → List Ob → Prop} {x : Sl} (I : Inv X pins σ H s) (hfn : ∀ x, X.fn x = true) (re : Re X.K G H la σ ρ) (hv : SlR X.K G la v x) (ht : ∀ t ∈ tab, LamZOk X t) (h : retZ n tab P x ρ) :
    ∃ (G2 H2 : Hp) (d : D), HOk X.prog X.w H2 s.heap ∧ Un X.fs X.ex X.H_0 H2 X.s_0.heap s.heap ∧ Same G G2 ∧ Rl X.K G2 H2 la ρ.T ∧ Dp X.K G2 v d ∧ P (.dat d) (ρ.T.take n) := by
  obtain ⟨cs, rfl, hc, hP⟩ := h
  have n1 : Out H (cellsOf X s.heap) := fun b u e => by
    obtain ⟨⟨y, hy⟩, _⟩ := cellsOf_some e
    exact I.freeC y b hy
  obtain ⟨r2, sm⟩ := rl_up (cs := cellsOf X s.heap) re.tb n1
  refine ⟨upC G (cellsOf X s.heap), upC H (cellsOf X s.heap), cs.new (upC G (cellsOf X s.heap)), hok_up I.hok n1 fun b u e => (cellsOf_some e).2, un_up I.base n1 fun b u e => .inl ?_, sm, r2, ?_, hP _ fun c hcc t htt => ?_⟩
  · obtain ⟨⟨y, hy⟩, _⟩ := cellsOf_some e
    have z := I.ok.cab y b (hfn y) hy
    cases q : X.s_0.heap.get? b with
    | none => rfl
    | some o => exact absurd (Nat.lt_of_lt_of_le (Heap.lt_size q) z) (Nat.lt_irrefl _)
  · have hv : Dp X.K G v (.lst (cs.map fun c => .cl c.2.1 c.2.2.1)) := hv
    cases hv with
    | lst a b c => exact .lst (sm _ _ a) b (dps_new sm cs c).1
  · obtain ⟨t', ht', lm, hraw⟩ := hc c hcc
    rw [htt] at ht'
    cases ht'
    obtain ⟨L, e1, LS, hix, e2⟩ := (ht t (List.mem_of_getElem? htt)).ex
    rw [e2]
    rw [e1] at lm
    have hE : ExtS c.2.2.1 G := by
      have hv : Dp X.K G v (.lst (cs.map fun c => .cl c.2.1 c.2.2.1)) := hv
      cases hv with
      | lst a b z => exact (dps_new (Same.refl _) cs z).2 c hcc
    obtain ⟨c', h1, h2⟩ := lm.up hE
    have len1 : t.ixs.length = L.fr.length := by simpa using congrArg List.length hix
    have len2 : t.ixs.length = c.2.2.2.length := by simpa using congrArg List.length hraw
    refine ⟨c', clOf X L, sm _ _ h1, sm _ _ h2, len2.symm.trans len1, fun y b e => (clo_cm I LS e).1, fun y z b a1 a2 => I.ok.inj y z b (clo_cm I LS a1).2 (clo_cm I LS a2).2, fun i y d hy hd => ?_⟩
    obtain ⟨b, u, v', a1, a2, a3, a4, a5⟩ := cell_slot I re LS hix hraw hy (show (c.2.2.2.map Sl.dat)[i]? = some (.dat d) by rw [List.getElem?_map, hd]; rfl)
    exact ⟨b, u, v', a1, upC_some (cellsOf_at a2 a3), a4, (show Dp X.K G v' d from a5).up sm⟩

def endsZ (n : Nat) (tab : List LamZ) (P : Sl → List Ob → Prop) (PX : Xn → List Ob → Prop) : DN := { nx := fun _ => False, rt := retZ n tab P, xn := fun x ρ => PX x (ρ.T.take n) }
/-- a def that makes lambdas and hands them out in a list -/
theorem fn_DZ {P : Program} {w : World} {K : PySem.W.Frag} {mg : Str → Option Value} {base : Heap} {x qual : Str} {st : Stmt} {f : Addr} {N ps : List Str} {k n : Nat} {F : DF} {B : (Nat → Addr → Hp → Prop) → DS} {oc kV doc pm cdv ct : Value} {od an : Option Addr} {osl : Array (Option Value)}
    (lk : K.lookup f = some ⟨oc, od, .func (PySem.W.fnOf x qual (defArgs st) (defBody st) (defScope st) .none kV doc pm an cdv ct), osl⟩) (hcd : PySem.W.codeIn K cdv qual = true) (S : FnScope N ps (defScope st)) (hn : ps.length = n) (Ls : List LamR) (d : LamR) (ixs : List (List Nat))
    (hLs : ∀ (i : Nat) (L : LamR) (ix : List Nat), Ls[i]? = some L → ixs[i]? = some ix → LamSc L (defScope st) ∧ ix.map (fun i => N[i]?) = L.fr.map some) (hl : Ls.length = ixs.length)
    (hB : ∀ (A : Around) (outer : List PySem.Env) (s : Shared) (H : Hp) (E : XK), Room k (A.deeper (envOfC qual (defScope st) s.heap.objs.size f cdv)) →
      PZ (cxOf (L2.CX P w) P w K mg base N qual (defScope st) f cdv A outer s H E) (defBody st) (lZ K (fun cls d _ H => E cls d H) (B fun j => LmAt (Ls.getD j d) (clOf (cxOf (L2.CX P w) P w K mg base N qual (defScope st) f cdv A outer s H E) (Ls.getD j d)))))
    (hF : ∀ (Lm : Nat → Addr → Hp → Prop) (ss : List Sl) (T : List Ob) (Q : Sl → List Ob → Prop) (QX : Xn → List Ob → Prop), ss.length = n → F ss T Q QX → B Lm (endsZ T.length ((List.range Ls.length).map fun j => ⟨Lm j, ixs.getD j [], FzAt K (Ls.getD j d)⟩) Q QX) (startD N.length n ss T)) :
    FnOk P w K mg base (L2.CX P w) (k + 1) f (PySem.W.fnOf x qual (defArgs st) (defBody st) (defScope st) .none kV doc pm an cdv ct) ps (spD K n F) := by
  have len : ∀ vs H Q E, spD K n F vs H Q E → vs.length = ps.length := fun vs H Q E h => h.1.trans hn.symm
  refine ⟨len, fun A outer s H args us vs Q E hr e0 hb r hsp => ?_⟩
  have hl2 := len _ _ _ _ hsp
  have KX : K.In s.heap := e0.mod.kin.keeps fun b o e => (e0.bs b o e).1
  have lim : s.heap.NoLimit := e0.mod.nolimit.keeps fun b o e => (e0.bs b o e).1
  have hkind : ∀ y ∈ ps.zip us, (defScope st).names.lookup y.1 = some .local ∨ ((defScope st).names.lookup y.1 = some .cell ∧ ((cellsFrom (s.heap.objs.size + 1) (defScope st).names []).lookup y.1).isSome = true) := fun ⟨y, v⟩ hy =>
    (S.par y (List.of_mem_zip hy).1).elim .inl fun z => .inr ⟨z, PySem.W.cellsFrom_some _ _ _ (.inl z)⟩
  refine codeAny_call_function hr.depth (KX _ _ lk) rfl S.co S.gen rfl (PySem.W.codeRec_of KX hcd) (hb _ _ _ _ (wpAny_newFunctionEnv_cells S.kind hkind fun env he s1 x => ?_))
  subst he
  refine ⟨lim.keeps x.toInCall.keep, codeAny_func ?_⟩
  have I : Inv (cxOf (L2.CX P w) P w K mg base N qual (defScope st) f cdv A outer s H E) [] (L2.start N vs) H s1 := inv_start S hr.hd e0 hl2 r x
  obtain ⟨h1, ss, G, la, T, Pd, PX, rl, sr, fp, q, qx⟩ := hsp
  have hPZ := hB A outer s H E (hr.deeper _)
  have hF1 := hF (fun j => LmAt (Ls.getD j d) (clOf (cxOf (L2.CX P w) P w K mg base N qual (defScope st) f cdv A outer s H E) (Ls.getD j d))) ss T Pd PX (sr.len.symm.trans h1) fp
  have htab : ∀ t ∈ (List.range Ls.length).map (fun j => (⟨LmAt (Ls.getD j d) (clOf (cxOf (L2.CX P w) P w K mg base N qual (defScope st) f cdv A outer s H E) (Ls.getD j d)), ixs.getD j [], FzAt K (Ls.getD j d)⟩ : LamZ)), LamZOk (cxOf (L2.CX P w) P w K mg base N qual (defScope st) f cdv A outer s H E) t := fun t ht => by
    obtain ⟨j, hj, rfl⟩ := List.mem_map.mp ht
    have hj := List.mem_range.mp hj
    have hj2 : j < ixs.length := by omega
    obtain ⟨a, b⟩ := hLs j Ls[j] ixs[j] (List.getElem?_eq_getElem hj) (List.getElem?_eq_getElem hj2)
    have e1 : Ls.getD j d = Ls[j] := by simp [List.getD, hj]
    have e2 : ixs.getD j [] = ixs[j] := by simp [List.getD, hj2]
    rw [e1, e2]
    exact ⟨Ls[j], rfl, a, b, rfl⟩
  refine wpAny_mono (hPZ.run [] s1 (L2.start N vs) H (fun v σ' H' => ∃ x ρ' G' la', retZ T.length _ Pd x ρ' ∧ Aft K G la σ' ρ' G' la' H' ∧ SlR K G' la' v x) I ⟨startD N.length n ss T, G, la, _, _, start_re rfl (h1.symm.trans sr.len) rl sr, hF1, fun x ρ' v σ' G' la' H' p a z => ⟨x, ρ', G', la', p, a, z⟩, (ends_bk rl.len q qx).xn⟩) (fun fl s2 z => ?_) fun e s2 z => z
  obtain ⟨u, v, σ', H', rfl, J, rv, x, ρ', G', la', p, a, z⟩ := z
  obtain ⟨G2, H2, d2, k1, k2, k3, k4, k5, k6⟩ := end_Z J (fun _ => rfl) a.r z htab p
  have e : la'.take T.length = la := by
    rw [← rl.len]
    exact pre_take a.p
  have k7 := k4.take T.length
  rw [e] at k7
  exact ⟨v, H2, J.os, J.bare, k2, k1, rv, q _ _ v G2 la H2 k6 (a.g.trans k3) List.prefix_rfl k7 k5⟩
end DL
set_option Elab.async false
set_option linter.all false
set_option maxRecDepth 100000
set_option maxHeartbeats 4000000
set_option autoImplicit false
/-! The data level: lambdas that were handed out, called. -/
namespace DL
open PySem PySem.Spec PyProof.Rows L2

/-- a lambda whose cells stand in the base -/
theorem clo_fz {P : Program} {w : World} {K : PySem.W.Frag} {mg : Str → Option Value} {bp : Heap} {L : LamR} {sc : Scope} {k m : Nat} {S : DF} {raw : List D} {f c' : Addr} {cl : List (Str × Addr)} {G3 : Hp} {la3 : List Addr} (hf : G3 f = some (LamO f c' L cl)) (hc : G3 c' = some (LamX.CodeO c' L.q)) (len : raw.length = L.fr.length)
    (dom : ∀ (y : Str) (c : Addr), cl.lookup y = some c → y ∈ L.fr) (inj : ∀ (y z : Str) (c : Addr), cl.lookup y = some c → cl.lookup z = some c → y = z)
    (slot : ∀ (i : Nat) (y : Str) (d : D), L.fr[i]? = some y → raw[i]? = some d → ∃ (c : Addr) (u : Value) (v : V), cl.lookup y = some c ∧ CellH bp c u ∧ RelV v u ∧ Dp K G3 v d)
    (LS : LamSc L sc) (hm : m = L.ps.length) (hB : LamB P w K mg bp k L S) : CloOk P w K mg bp (k + 1) ⟨f, G3, la3, m, fun xs => S (xs ++ raw.map Sl.dat)⟩ := by
  refine ⟨fun H2 h2 KX hk e => ?_, ?_⟩
  · obtain ⟨⟨pm, ctv, of⟩, _, _⟩ := hk f _ (e _ _ hf)
    exact ⟨_, _, _, _, of⟩
  · have vals : ∃ cv : List V, cv.length = L.fr.length ∧ ∀ (i : Nat) (y : Str) (d : D), L.fr[i]? = some y → raw[i]? = some d → ∃ (c : Addr) (u : Value) (v : V), cl.lookup y = some c ∧ CellH bp c u ∧ cv[i]? = some v ∧ RelV v u ∧ Dp K G3 v d := by
      have key : ∀ (fr : List Str) (rw_ : List D), fr.length = rw_.length → (∀ (i : Nat) (y : Str) (d : D), fr[i]? = some y → rw_[i]? = some d → ∃ (c : Addr) (u : Value) (v : V), cl.lookup y = some c ∧ CellH bp c u ∧ RelV v u ∧ Dp K G3 v d) →
          ∃ cv : List V, cv.length = fr.length ∧ ∀ (i : Nat) (y : Str) (d : D), fr[i]? = some y → rw_[i]? = some d → ∃ (c : Addr) (u : Value) (v : V), cl.lookup y = some c ∧ CellH bp c u ∧ cv[i]? = some v ∧ RelV v u ∧ Dp K G3 v d := by
        intro fr
        induction fr with
        | nil => exact fun rw_ _ _ => ⟨[], rfl, fun i y x h => by simp at h⟩
        | cons y0 fr ih =>
          intro rw_ hl h
          cases rw_ with
          | nil => simp at hl
          | cons x0 rw_ =>
            obtain ⟨cv, hcv, ha⟩ := ih rw_ (by simpa using hl) fun i y x h1 h2 => h (i + 1) y x h1 h2
            obtain ⟨c, u, v, a1, a2, a4, a5⟩ := h 0 y0 x0 rfl rfl
            refine ⟨v :: cv, by simp [hcv], fun i y x h1 h2 => ?_⟩
            cases i with
            | zero =>
              have e1 := Option.some.inj h1
              have e2 := Option.some.inj h2
              subst e1 e2
              exact ⟨c, u, v, a1, a2, rfl, a4, a5⟩
            | succ j => exact ha j y x h1 h2
      exact key L.fr raw len.symm slot
    obtain ⟨cv, hcv, hat⟩ := vals
    have CA : CellsAt bp L cl cv := by
      refine ⟨fun i y hy => ?_, inj, dom, hcv⟩
      have hi : i < raw.length := by
        rw [len]
        exact (List.getElem?_eq_some_iff.mp hy).1
      obtain ⟨c, u, v, a1, ⟨ob, a2, a3⟩, a4, a5, _⟩ := hat i y raw[i] hy (List.getElem?_eq_getElem hi)
      exact ⟨c, ob, u, v, a1, a2, a3, a4, a5⟩
    have CR : SlsR K G3 la3 cv (raw.map Sl.dat) := by
      refine sls_of (by rw [hcv, List.length_map, len]) fun i x hx => ?_
      rw [List.getElem?_map] at hx
      obtain ⟨y0, hy0, ey⟩ := Option.map_eq_some_iff.mp hx
      subst ey
      have hi : i < L.fr.length := by
        rw [← len]
        exact (List.getElem?_eq_some_iff.mp hy0).1
      obtain ⟨c, u, v, _, _, a4, _, a6⟩ := hat i L.fr[i] y0 (List.getElem?_eq_getElem hi) hy0
      exact ⟨v, a4, a6⟩
    obtain ⟨fb, hb, hS⟩ := hB
    refine lam_fnr (t := fun E => lL K (WF' E) fb) LS CA (fun vs H2 Q E h => ?_) fun A outer s2 H2 E hr => hb A outer s2 H2 E f c' _ hr
    obtain ⟨hl, ss, G2, la2, T, Pd, PX, rl, sG2, pl2, sr, hs, q, qx⟩ := h
    refine ⟨hl.trans hm, rl.ext _ _ (sG2 _ _ hf), rl.ext _ _ (sG2 _ _ hc), ⟨T, (ss ++ raw.map Sl.dat).map some⟩, G2, la2, fun r ρ => Pd r ρ.T, fun x ρ => PX x ρ.T, ⟨rl, ?_, fun i y hy => ?_⟩, hS _ T Pd PX hs, fun d ρ' v G' la' H' p a z => q d ρ'.T v G' la' H' p a.g a.p a.r.tb z, fun x ρ' σ' G' la' H' cls od p a z => qx x ρ'.T G' la' H' cls od p a.g a.p a.r.tb z⟩
    · have e1 := (sr.app (CR.up sG2 pl2)).len
      simp only [List.length_map]
      exact e1.symm
    · have hy2 : ((ss ++ raw.map Sl.dat).map some)[i]? = some (some y) := hy
      rw [List.getElem?_map] at hy2
      obtain ⟨z, hz, ez⟩ := Option.map_eq_some_iff.mp hy2
      have ez := Option.some.inj ez
      subst ez
      obtain ⟨v, hv, rv⟩ := (sr.app (CR.up sG2 pl2)).get hz
      exact ⟨v, by rw [List.getElem?_map, hv]; rfl, rv⟩
end DL
set_option Elab.async false
set_option linter.all false
set_option maxRecDepth 100000
set_option maxHeartbeats 4000000
set_option autoImplicit false
/-! The data level: known cells are put by for a call, and taken up again behind it. -/
namespace DL
open PySem PySem.Spec PyProof.Rows L2

/-- cs are cells that are tracked -/
def Trk (H : Hp) (cs : Addr → Option Value) : Prop := ∀ b u, cs b = some u → H b = some (CellO b u)
section
variable {P : Program} {w : World} {K : PySem.W.Frag} {G H H0 H1 : Hp} {cs : Addr → Option Value} {h h0 h1 : Heap} {fs ex : List Addr} {la : List Addr} {T : List Ob}
theorem Trk.none (n : Trk H cs) {b : Addr} {o : HO} (e : H b = some o) (ho : ∀ φ, o ≠ .ext φ) : cs b = none := by
  cases q : cs b with
  | none => rfl
  | some u =>
    rw [n b u q] at e
    exact absurd (Option.some.inj e).symm (ho _)
theorem Trk.dn (n : Trk H cs) {b : Addr} {o : HO} (e : H b = some o) (ho : ∀ φ, o ≠ .ext φ) : dnC H cs b = some o := by rw [dnC_none (n.none e ho), e]
theorem dn_none {b : Addr} (e : H b = none) : dnC H cs b = none := by
  cases q : cs b with
  | none => rw [dnC_none q, e]
  | some u => exact dnC_some q
theorem of_dn {b : Addr} {o : HO} (e : dnC H cs b = some o) : cs b = none ∧ H b = some o := by
  cases q : cs b with
  | none => exact ⟨rfl, by rw [dnC_none q] at e; exact e⟩
  | some u =>
    rw [dnC_some q] at e
    cases e
theorem hok_dn (x : HOk P w H h) (n : Trk H cs) : HOk P w (dnC H cs) h := fun b o e =>
  (x b o (of_dn e).2).stay (fun c v _ z => z) (fun c z => n.dn z (fun φ q => by cases q)) fun c xs z => n.dn z (fun φ q => by cases q)
theorem un_dn (x : Un fs ex H0 H h0 h) (n : Trk H cs) : Un fs ex H0 (dnC H cs) h0 h :=
  ⟨x.keep, x.slot, fun b o e z hx => dn_none (x.free b o e z hx), x.there, fun b xs z => n.dn (x.tups b xs z) (fun φ q => by cases q), fun b o u z => n.dn (x.frzs b o u z) (fun φ q => by cases q), fun b ps z => by
    obtain ⟨more, e⟩ := x.tbls b ps z
    exact ⟨more, n.dn e (fun φ q => by cases q)⟩⟩
theorem inv_dn {X : Cx} {pins : List (Addr × Obj)} {σ : L2.St} {s : Shared} (I : Inv X pins σ H s) (n : Trk H cs) : Inv X pins σ (dnC H cs) s :=
  ⟨I.ok, I.os, I.bare, un_dn I.base n, I.loc, I.cell, dn_none I.free, fun x c e => dn_none (I.freeC x c e), fun p hp => by
    obtain ⟨a, b, c⟩ := I.pin p hp
    exact ⟨a, dn_none b, c⟩, hok_dn I.hok n, I.len⟩
/-- behind the call -/
theorem ce_up {outer : List PySem.Env} {s s' : Shared} {Q : VK} {u : Value} (n : Trk H cs) (hk : ∀ b u, cs b = some u → CellH s.heap b u) (nf : ∀ b u, cs b = some u → b ∉ frs outer) (h : CE outer P w (dnC H cs) s (fun v H2 => Out H2 cs → Q v (upC H2 cs)) u s') : CE outer P w H s Q u s' := by
  obtain ⟨v, H2, os, bare, un, hok, rv, q⟩ := h
  have o : Out H2 cs := fun b u e => by
    obtain ⟨ob, ho, _⟩ := hk b u e
    exact un.free b ob ho (dnC_some e) (by simp)
  refine ⟨v, upC H2 cs, os, bare, ⟨fun b x e z hf hx => un.keep b x e (dn_none z) hf hx, fun b x e z hf hx => un.slot b x e (dn_none z) hf hx, fun b x e z hx => ?_, un.there, fun b xs z => o.up (un.tups b xs (n.dn z fun φ q => by cases q)), fun b x u z => o.up (un.frzs b x u (n.dn z fun φ q => by cases q)), fun b ps z => ?_⟩, hok_up hok o fun b u e => ?_, rv, q o⟩
  · cases q : cs b with
    | none =>
      rw [upC_none q]
      exact un.free b x e (dn_none z) hx
    | some u =>
      rw [n b u q] at z
      cases z
  · obtain ⟨more, e⟩ := un.tbls b ps (n.dn z fun φ q => by cases q)
    exact ⟨more, o.up e⟩
  · obtain ⟨ob, ho, hd⟩ := hk b u e
    exact ⟨ob, un.keep b ob ho (dnC_some e) (nf b u e) (by simp), hd⟩
mutual
theorem dp_dn (n : Trk G cs) : ∀ (k : Nat) (d : D) (v : V), okd k d = true → Dp K G v d → Dp K (dnC G cs) v d
  | _, .non, _, _, h => by cases h; exact .non
  | _, .bl _, _, _, h => by cases h; exact .bl _
  | _, .int _, _, _, h => by cases h; exact .int _
  | _, .str _, _, _, h => by cases h; exact .str _
  | _, .raw _, _, o, _ => by simp [okd] at o
  | 0, .tup _, _, o, _ => by simp [okd] at o
  | k + 1, .tup ds, _, o, h => by
    cases h with
    | tup a l r =>
      refine .tup ?_ l (dps_dn n k ds _ (by simpa [okd] using o) r)
      rcases a with (a | ⟨x, a⟩) | a
      · exact .inl (.inl (n.dn a fun φ q => by cases q))
      · exact .inl (.inr ⟨x, n.dn a fun φ q => by cases q⟩)
      · exact .inr a
  | 0, .lst _, _, o, _ => by simp [okd] at o
  | k + 1, .lst ds, _, o, h => by
    cases h with
    | lst a l r => exact .lst (n.dn a fun φ q => by cases q) l (dps_dn n k ds _ (by simpa [okd] using o) r)
  | _, .scr _, _, o, _ => by simp [okd] at o
  | _, .fn _, _, o, _ => by simp [okd] at o
  | _, .err _ _, _, o, _ => by simp [okd] at o
  | _, .cl _ _, _, o, _ => by simp [okd] at o
theorem dps_dn (n : Trk G cs) : ∀ (k : Nat) (ds : List D) (vs : List V), okds k ds = true → Dps K G vs ds → Dps K (dnC G cs) vs ds
  | _, [], _, _, h => by cases h; exact .nil
  | k, d :: ds, _, o, h => by
    rw [okds, Bool.and_eq_true] at o
    cases h with
    | cons a r => exact .cons (dp_dn n k d _ o.1 a) (dps_dn n k ds _ o.2 r)
end
end
end DL
set_option Elab.async false
set_option linter.all false
set_option maxRecDepth 100000
set_option maxHeartbeats 4000000
set_option autoImplicit false
/-! The data level: the call of a def with lambdas whose cells are known. -/
namespace DL
open PySem PySem.Spec PyProof.Rows L2

/-- things without strange values -/
def okO : Ob → Bool
  | .dead => true
  | .lst ds => okds 60 ds
  | .dic _ ds => okds 60 ds
  | .ins _ fs => okds 60 (fs.map (·.2))
def okT (T : List Ob) : Bool := T.all okO
section
variable {P : Program} {w : World} {K : PySem.W.Frag} {G H : Hp} {cs : Addr → Option Value} {h : Heap} {la : List Addr} {T : List Ob}
theorem rl_dn (r : Rl K G H la T) (n : Trk G cs) (x : HOk P w H h) (hT : okT T = true) : Rl K (dnC G cs) (dnC H cs) la T := by
  have nH : Trk H cs := fun b u e => r.ext _ _ (n b u e)
  have kp : ∀ {b : Addr} {o : HO}, H b = some o → (∀ φ, o ≠ .ext φ) → dnC H cs b = some o := fun e ho => nH.dn e ho
  refine ⟨fun b o e => ?_, r.nd, r.len, fun k a o h1 h2 => ?_, fun k a e => ?_, fun b ps e => r.nt b ps (of_dn e).2, fun p hp => ⟨dn_none (r.tbl p hp).1, ?_⟩⟩
  · obtain ⟨e1, e2⟩ := of_dn e
    rw [dnC_none e1]
    exact r.ext b o e2
  · have z := r.tab k a o h1 h2
    have oo : okO o = true := List.all_eq_true.mp hT o (List.mem_of_getElem? h2)
    cases o with
    | dead => exact True.intro
    | lst ds =>
      obtain ⟨g, vs, e, l, d⟩ := z
      exact ⟨dn_none g, vs, kp e (fun φ q => by cases q), l, dps_dn n 60 _ _ oo d⟩
    | dic ks ds =>
      obtain ⟨g, vs, e, l0, l, d⟩ := z
      exact ⟨dn_none g, vs, kp e (fun φ q => by cases q), l0, l, dps_dn n 60 _ _ oo d⟩
    | ins C fs =>
      obtain ⟨g, Ca, dx, vs, m, e, o, q, d⟩ := z
      exact ⟨dn_none g, Ca, dx, vs, m, kp e (fun φ q => by cases q), kp o (fun φ q => by cases q), q, dps_dn n 60 _ _ oo d⟩
  · obtain ⟨o, e1, e2⟩ := r.there k a e
    exact ⟨o, kp e1 e2.2, e2⟩
  · obtain ⟨ps, h1, h2, h3⟩ := (r.tbl p hp).2
    refine ⟨ps, kp h1 (fun φ q => by cases q), h2, fun pos cv hc => ?_⟩
    obtain ⟨c, e1, e2⟩ := h3 pos cv hc
    refine ⟨c, e1, ?_⟩
    have q : cs c = none := by
      cases q : cs c with
      | none => rfl
      | some u =>
        obtain ⟨⟨oc, ws, tt, hoc, hdc, _⟩, _, _⟩ := x c _ e2
        obtain ⟨⟨ob, hob, hd⟩, _, _⟩ := x c _ (nH c u q)
        rw [hoc] at hob
        cases hob
        rw [hdc] at hd
        cases hd
    rw [dnC_none q]
    exact e2
end
section
variable {X : Cx} {pins : List (Addr × Obj)} {σ : L2.St} {H : Hp} {s : Shared} {cs : Addr → Option Value}
/-- a call for which the cells cs are put by -/
theorem run_Z {bp : Heap} {f : Addr} {k : Nat} {sp : Sp} {Q : VK} {us : List Value} {vs : List V} (F : FnR X.prog X.w X.K X.mg bp (L2.CX X.prog X.w) k f sp) (hr : Room k X.A) (I : Inv X pins σ H s) (n : Trk H cs)
    (e0 : Env0 X.prog X.w X.K X.mg bp X.A X.stack s (dnC H cs)) (r : Vals vs us) (h : sp vs (dnC H cs) (fun v H2 => Out H2 cs → Q v (upC H2 cs)) (fun _ _ _ => False)) : wpAny (model X.prog X.w) X.A (call (.ref f) us) (EP X pins σ Q) X.xe s := by
  have hk : ∀ b u, cs b = some u → CellH s.heap b u := fun b u e => (I.hok b _ (n b u e)).1
  have nf : ∀ b u, cs b = some u → b ∉ frs X.stack := fun b u e z => by
    have := I.stkFree b z
    rw [n b u e] at this
    cases this
  refine wpAny_call (codeAny_mono (F X.A X.stack s (dnC H cs) us vs _ _ hr e0 r h) fun r s' hq => ?_)
  cases r with
  | error e =>
    obtain ⟨_, _, _, _, _, _, _, _, _, _, _, _, hE⟩ := hq
    exact False.elim hE
  | ok fl =>
    cases fl with
    | ret u => exact I.after (ce_up n hk nf hq)
    | next => exact False.elim hq
    | brk => exact False.elim hq
    | cont => exact False.elim hq
end
end DL
set_option Elab.async false
set_option linter.all false
set_option maxRecDepth 100000
set_option maxHeartbeats 4000000
set_option autoImplicit false
/-! The data level: a list of lambdas is handed to a def. -/
namespace DL
open PySem PySem.Spec PyProof.Rows L2

section
variable {K : PySem.W.Frag} {G0 G : Hp}
mutual
theorem dp_ext (e : ExtS G0 G) : ∀ (k : Nat) (d : D) (v : V), okd k d = true → Dp K G0 v d → Dp K G v d
  | _, .non, _, _, h => by cases h; exact .non
  | _, .bl _, _, _, h => by cases h; exact .bl _
  | _, .int _, _, _, h => by cases h; exact .int _
  | _, .str _, _, _, h => by cases h; exact .str _
  | _, .raw _, _, o, _ => by simp [okd] at o
  | 0, .tup _, _, o, _ => by simp [okd] at o
  | k + 1, .tup ds, _, o, h => by
    cases h with
    | tup a l r =>
      refine .tup ?_ l (dps_ext e k ds _ (by simpa [okd] using o) r)
      rcases a with (a | ⟨x, a⟩) | a
      · exact .inl (.inl (e _ _ (fun _ z => by cases z) a))
      · exact .inl (.inr ⟨x, e _ _ (fun _ z => by cases z) a⟩)
      · exact .inr a
  | 0, .lst _, _, o, _ => by simp [okd] at o
  | k + 1, .lst ds, _, o, h => by
    cases h with
    | lst a l r => exact .lst (e _ _ (fun _ z => by cases z) a) l (dps_ext e k ds _ (by simpa [okd] using o) r)
  | _, .scr _, _, o, _ => by simp [okd] at o
  | _, .fn _, _, o, _ => by simp [okd] at o
  | _, .err _ _, _, o, _ => by simp [okd] at o
  | _, .cl _ _, _, o, _ => by simp [okd] at o
theorem dps_ext (e : ExtS G0 G) : ∀ (k : Nat) (ds : List D) (vs : List V), okds k ds = true → Dps K G0 vs ds → Dps K G vs ds
  | _, [], _, _, h => by cases h; exact .nil
  | k, d :: ds, _, o, h => by
    rw [okds, Bool.and_eq_true] at o
    cases h with
    | cons a r => exact .cons (dp_ext e k d _ o.1 a) (dps_ext e k ds _ o.2 r)
end
open Classical in
/-- the cells that are known -/
noncomputable def cellsIn (G : Hp) : Addr → Option Value := fun b => if h : ∃ u, G b = some (CellO b u) then some h.choose else none
theorem trk_in (G : Hp) : Trk G (cellsIn G) := fun b u e => by
  unfold cellsIn at e
  split at e
  · rename_i h
    cases e
    exact h.choose_spec
  · cases e
theorem cellsIn_at {b : Addr} {u : Value} (e : G b = some (CellO b u)) : ∃ u', cellsIn G b = some u' := by
  unfold cellsIn
  rw [dif_pos ⟨u, e⟩]
  exact ⟨_, rfl⟩
end
/-- an entry of the table of lambdas that were handed out -/
structure FzE where
  Fz : List D → Addr → Hp → Prop
  m : Nat
  S : DF
structure FzEOk (X : Cx) (k : Nat) (t : FzE) : Prop where
  ex : ∃ (L : LamR) (sc : Scope), t.Fz = FzAt X.K L ∧ LamSc L sc ∧ t.m = L.ps.length ∧ ∀ bp : Heap, (∀ b o, X.base.get? b = some o → bp.get? b = some o) → LamB X.prog X.w X.K X.mg bp k L t.S
/-- one of the list -/
structure EntZ where
  f : Addr
  G : Hp
  raw : List D
  m : Nat
  S : DF
abbrev EntZ.clo (e : EntZ) (G : Hp) (la : List Addr) : Clo := ⟨e.f, G, la, e.m, fun xs => e.S (xs ++ e.raw.map Sl.dat)⟩
def entOk (tf : List FzE) (tl : List LamE) (ρ : Env) (e : EntZ) : Prop := okds 60 e.raw = true ∧ ((∃ t ∈ tf, t.Fz e.raw e.f e.G ∧ e.m = t.m ∧ e.S = t.S) ∨ ∃ t ∈ tl, t.Lm e.f e.G ∧ rawAt ρ t.ixs (e.raw.map Sl.dat) ∧ e.m = t.m ∧ e.S = t.S)
theorem okds_at {k : Nat} : ∀ {ds : List D} {i : Nat} {d : D}, okds k ds = true → ds[i]? = some d → okd k d = true
  | [], _, _, _, h => by simp at h
  | x :: r, 0, _, o, h => by
    rw [okds, Bool.and_eq_true] at o
    have e := Option.some.inj h
    subst e
    exact o.1
  | x :: r, i + 1, _, o, h => by
    rw [okds, Bool.and_eq_true] at o
    exact okds_at o.2 h
theorem dps_es {K : PySem.W.Frag} {G G2 : Hp} : ∀ (es : List EntZ) {vs : List V}, Dps K G vs (es.map fun e => .cl e.f e.G) → Dps K G2 vs (es.map fun e => .cl e.f G2) ∧ ∀ e ∈ es, ExtS e.G G
  | [], _, h => by
    cases h
    exact ⟨.nil, fun c h => by simp at h⟩
  | c :: r, _, h => by
    cases h with
    | cons a b =>
      obtain ⟨x, y⟩ := dps_es (G2 := G2) r b
      cases a with
      | cl z =>
        refine ⟨.cons (.cl fun _ _ _ q => q) x, fun c' h' => ?_⟩
        rcases List.mem_cons.mp h' with rfl | h'
        · exact z
        · exact y c' h'
section
variable {X : Cx} {pins : List (Addr × Obj)} {σ : L2.St} {H G : Hp} {s : Shared} {ρ : Env} {la : List Addr} {k : Nat}
theorem no_lam (x : HOk X.prog X.w H s.heap) (e : Same G H) {f c' : Addr} {L : LamR} {cl : List (Str × Addr)} (h : G f = some (LamO f c' L cl)) : dnC G (cellsIn G) f = some (LamO f c' L cl) := by
  cases q : cellsIn G f with
  | none => rw [dnC_none q, h]
  | some u =>
    obtain ⟨⟨ob, hob, hd⟩, _, _⟩ := x f _ (e _ _ (trk_in G f u q))
    obtain ⟨⟨pm, ctv, of⟩, _, _⟩ := x f _ (e _ _ h)
    rw [of] at hob
    cases hob
    cases hd
theorem no_code (x : HOk X.prog X.w H s.heap) (e : Same G H) {c : Addr} {w : Str} (h : G c = some (LamX.CodeO c w)) : dnC G (cellsIn G) c = some (LamX.CodeO c w) := by
  cases q : cellsIn G c with
  | none => rw [dnC_none q, h]
  | some u =>
    obtain ⟨⟨ob, hob, hd⟩, _, _⟩ := x c _ (e _ _ (trk_in G c u q))
    obtain ⟨⟨oc, ws, tt, hoc, hdc, _⟩, _, _⟩ := x c _ (e _ _ h)
    rw [hoc] at hob
    cases hob
    rw [hdc] at hd
    cases hd
end
end DL
set_option Elab.async false
set_option linter.all false
set_option maxRecDepth 100000
set_option maxHeartbeats 4000000
set_option autoImplicit false
/-! The data level: a list of lambdas, as things that may be called. -/
namespace DL
open PySem PySem.Spec PyProof.Rows L2
/-- one of the list may be called, now and later -/
def EntC (P : Program) (w : World) (K : PySem.W.Frag) (mg : Str → Option Value) (base : Heap) (k : Nat) (e : EntZ) : Prop :=
  ∀ bp : Heap, (∀ b o, base.get? b = some o → bp.get? b = some o) → ∀ (G' : Hp) (la' : List Addr), ExtS e.G G' → CloOk P w K mg bp k (e.clo G' la')
section
variable {X : Cx} {pins : List (Addr × Obj)} {σ : L2.St} {H G : Hp} {s : Shared} {ρ : Env} {la : List Addr} {k : Nat} {v : V}
theorem gives_Z {tf : List FzE} {tl : List LamE} (hfn : ∀ x, X.fn x = true) (hF : ∀ t ∈ tf, FzEOk X k t) (hO : ∀ t ∈ tl, LamEOk X k t) {es : List EntZ} (I : Inv X pins σ H s) (re : Re X.K G H la σ ρ) (z : SlR X.K G la v (.dat (.lst (es.map fun e => .cl e.f e.G)))) (hes : ∀ e ∈ es, entOk tf tl ρ e) (hT : okT ρ.T = true) :
    ∃ bp : Heap, (∀ b o, X.base.get? b = some o → bp.get? b = some o) ∧ Env0 X.prog X.w X.K X.mg bp X.A X.stack s (dnC H (cellsIn G)) ∧ (∀ e ∈ es, EntC X.prog X.w X.K X.mg bp (k + 1) { e with G := dnC G (cellsIn G) }) ∧
      SlR X.K (dnC G (cellsIn G)) la v (.dat (.lst (es.map fun e => .cl e.f (dnC G (cellsIn G))))) ∧ Rl X.K (dnC G (cellsIn G)) (dnC H (cellsIn G)) la ρ.T := by
  have sm : Same G H := re.tb.ext
  have tG := trk_in G
  have tH : Trk H (cellsIn G) := fun b u e => sm _ _ (tG b u e)
  obtain ⟨bp, up, w1, w2, _, MB, e0⟩ := wide (inv_dn I tH)
  have hz : ∃ p vs, v = .ref p ∧ G p = some (.lst vs) ∧ vs.length ≤ sizeLine ∧ Dps X.K G vs (es.map fun e => .cl e.f e.G) := by
    have z : Dp X.K G v (.lst (es.map fun e => .cl e.f e.G)) := z
    cases z with
    | lst a b c => exact ⟨_, _, rfl, a, b, c⟩
  obtain ⟨p, vs, rfl, h1, h2, h3⟩ := hz
  obtain ⟨d1, d2⟩ := dps_es (G2 := dnC G (cellsIn G)) es h3
  refine ⟨bp, up, e0, fun e he => ?_, .lst (tG.dn h1 fun φ q => by cases q) h2 d1, rl_dn re.tb tG I.hok hT⟩
  obtain ⟨okr, h⟩ := hes e he
  have ex := d2 e he
  intro bp' up' G' la' ex'
  rcases h with ⟨t, ht, fz, em, eS⟩ | ⟨t, ht, lm, hraw, em, eS⟩
  · obtain ⟨L, sc, e1, LS, hm, hB⟩ := (hF t ht).ex
    rw [e1] at fz
    obtain ⟨c', cl, f1, f2, f3, f4, f5, f6⟩ := fz
    have g1 : G e.f = some (LamO e.f c' L cl) := ex _ _ (fun _ z => by unfold LamO at z; cases z) f1
    have g2 : G c' = some (LamX.CodeO c' L.q) := ex _ _ (fun _ z => by unfold LamX.CodeO at z; cases z) f2
    show CloOk _ _ _ _ _ _ ⟨e.f, _, la', e.m, fun xs => e.S (xs ++ e.raw.map Sl.dat)⟩
    rw [em, eS]
    refine clo_fz (ex' _ _ (fun _ z => by unfold LamO at z; cases z) (no_lam I.hok sm g1)) (ex' _ _ (fun _ z => by unfold LamX.CodeO at z; cases z) (no_code I.hok sm g2)) f3 f4 f5 (fun i y d a b => ?_) LS hm (hB bp' fun b o z => up' b o (up b o z))
    obtain ⟨c, u, v', x1, x2, x3, x4⟩ := f6 i y d a b
    have g3 : G c = some (CellO c u) := ex _ _ (fun _ z => by unfold CellO at z; cases z) x2
    obtain ⟨u', hu'⟩ := cellsIn_at g3
    obtain ⟨⟨o, ho, hd⟩, _, _⟩ := I.hok c _ (sm _ _ g3)
    have od := okds_at okr b
    refine ⟨c, u, v', x1, ⟨o, up' c o (w1 c o ho (dnC_some hu') fun q => ?_), hd⟩, x3, dp_ext ex' 60 d v' od (dp_dn tG 60 d v' od (dp_ext ex 60 d v' od x4))⟩
    have q2 := I.stkFree c q
    rw [sm _ _ g3] at q2
    cases q2
  · obtain ⟨L, e1, LS, hix, hm, hB⟩ := (hO t ht).ex
    rw [e1] at lm
    obtain ⟨c', f1, f2⟩ := lm.up ex
    have lenI : t.ixs.length = L.fr.length := by simpa using congrArg List.length hix
    have lenR : t.ixs.length = e.raw.length := by
      have := congrArg List.length hraw
      simpa using this
    show CloOk _ _ _ _ _ _ ⟨e.f, _, la', e.m, fun xs => e.S (xs ++ e.raw.map Sl.dat)⟩
    rw [em, eS]
    refine clo_fz (ex' _ _ (fun _ z => by unfold LamO at z; cases z) (no_lam I.hok sm f1)) (ex' _ _ (fun _ z => by unfold LamX.CodeO at z; cases z) (no_code I.hok sm f2)) (lenR.symm.trans lenI) (fun y c e => (clo_cm I LS e).1) (fun y z c a b => I.ok.inj y z c (clo_cm I LS a).2 (clo_cm I LS b).2) (fun i y d a b => ?_) LS hm (hB bp' fun b o z => up' b o (up b o z))
    obtain ⟨c, u, v', x1, x2, ⟨o, ho, hd⟩, x4, x5⟩ := cell_slot I re LS hix hraw a (show (e.raw.map Sl.dat)[i]? = some (.dat d) by rw [List.getElem?_map, b]; rfl)
    exact ⟨c, u, v', x1, ⟨o, up' c o (w1 c o ho (dn_none (I.freeC y c x2)) (cell_nf I hfn x2)), hd⟩, x4, dp_ext ex' 60 d v' (okds_at okr b) (dp_dn tG 60 d v' (okds_at okr b) x5)⟩
end
end DL
set_option Elab.async false
set_option linter.all false
set_option maxRecDepth 100000
set_option maxHeartbeats 4000000
set_option autoImplicit false
/-! The data level: x(rows, d), rows a list of lambdas. -/
namespace DL
open PySem PySem.Spec PyProof.Rows L2
def dCallZ (F : List EntZ → DF) (tf : List FzE) (tl : List LamE) (fA : DA) : DL' := fun X ρ Q => fA X ρ fun ss ρ2 => okT ρ2.T = true ∧ ∃ (es : List EntZ) (d : D), ss = [.dat (.lst (es.map fun e => .cl e.f e.G)), .dat d] ∧ okd 60 d = true ∧ (∀ e ∈ es, entOk tf tl ρ2 e) ∧
  ∀ (G : Hp), F (es.map fun e => { e with G := G }) [.dat (.lst (es.map fun e => .cl e.f G)), .dat d] ρ2.T (fun r T' => Q r ⟨T', ρ2.s⟩) (fun _ _ => False)
theorem dl_callZ {X : Cx} {W : WX} {k kf : Nat} {F : List EntZ → DF} {tf : List FzE} {tl : List LamE} {fa : Addr} {x : Str} {p pos : Pos} {e : Expr} {es : List Expr} {fA : DA} (hFz : ∀ t ∈ tf, FzEOk X k t) (hO : ∀ t ∈ tl, LamEOk X k t)
    (hF : ∀ (bp : Heap) (cs : List EntZ), (∀ b o, X.base.get? b = some o → bp.get? b = some o) → (∀ c ∈ cs, EntC X.prog X.w X.K X.mg bp (k + 1) c) → FnR X.prog X.w X.K X.mg bp (L2.CX X.prog X.w) kf fa (spD X.K 2 (F cs))) (hr : Room kf X.A) (hm : X.mg x = some (.ref fa)) (hk : PySem.W.keepIn X.K (.ref fa) = true)
    (ha : PA X (e :: es) (lA X.K W fA)) (hfn : ∀ x, X.fn x = true := by intro _; rfl) (hg : Gl X x := by rfl) (hdb : (x == ("__debug__" : Str)) = false := by decide) (he : starEach (e :: es) X.env = (false, eval e X.env) :: starEach es X.env := by rfl) (hpl : (backTo pos (starEach es X.env)).any (·.1) = false := by rfl) :
    PE X (.Call (.Name x p) (e :: es) [] pos) (lL X.K W (dCallZ F tf tl fA)) := by
  constructor
  rintro pins s σ H Q I ⟨ρ, G, la, P, XX, re, h, q, xo⟩
  refine wpAny_Call_Name_kw (ld_glob I hg hm ?_ hdb)
  refine PySem.W.callWith_K (h₀ := X.base) I.ok.mod.kin hk (thn (ha.run pos pins s σ H (fun vs H1 => ∃ ss ρ1 G1 la1, Aft X.K G la σ ρ1 G1 la1 H1 ∧ SlsR X.K G1 la1 vs ss ∧ okT ρ1.T = true ∧ ∃ (es : List EntZ) (d : D), ss = [.dat (.lst (es.map fun e => .cl e.f e.G)), .dat d] ∧ okd 60 d = true ∧ (∀ e ∈ es, entOk tf tl ρ1 e) ∧
      ∀ (G : Hp), F (es.map fun e => { e with G := G }) [.dat (.lst (es.map fun e => .cl e.f G)), .dat d] ρ1.T (fun r T' => P r ⟨T', ρ1.s⟩) (fun _ _ => False)) I
    ⟨ρ, G, la, _, XX, re, h, fun xs ρ' vs G' la' H' p a z => ⟨xs, ρ', G', la', a, z, p⟩, xo⟩) fun us s1 ⟨vs, H1, I1, r, ss, ρ1, G1, la1, a1, z1, hT, es2, d, ess, od, hes, hN⟩ => ⟨I1.kIn, ?_⟩) he hpl
  subst ess
  cases z1 with
  | cons zx z2 =>
  cases z2 with
  | cons zy z3 =>
  cases z3
  obtain ⟨bp, up, e0, C, sl, rl⟩ := gives_Z hfn hFz hO I1 a1.r zx hes hT
  have tG := trk_in G1
  have tH : Trk H1 (cellsIn G1) := fun b u e => a1.r.tb.ext _ _ (tG b u e)
  refine run_Z (us := us) (hF bp (es2.map fun e => { e with G := dnC G1 (cellsIn G1) }) up fun c hc => ?_) hr I1 tH e0 r ⟨rfl, _, dnC G1 (cellsIn G1), la1, ρ1.T, _, _, rl, .cons sl (.cons (show SlR X.K (dnC G1 (cellsIn G1)) la1 _ (.dat d) from dp_dn tG 60 d _ od zy) .nil), hN _, fun r2 T' v G' la' H' pr g pp rl2 sr o => ?_, fun _ _ _ _ _ _ _ f _ _ _ _ => f⟩
  · obtain ⟨e, he, rfl⟩ := List.mem_map.mp hc
    exact C e he
  · obtain ⟨r3, sm⟩ := rl_up rl2 o
    have sm1 : Same G1 (upC G' (cellsIn G1)) := fun b x e => by
      cases q : cellsIn G1 b with
      | some u =>
        rw [tG b u q] at e
        rw [upC_some q, e]
      | none =>
        rw [upC_none q]
        exact g _ _ (by rw [dnC_none q, e])
    exact q _ ⟨T', ρ1.s⟩ v _ la' _ pr ⟨a1.g.trans sm1, a1.p.trans pp, ⟨r3, a1.r.sl, fun i y hy => by
      obtain ⟨u, hu, ru⟩ := a1.r.at_ i y hy
      exact ⟨u, hu, ru.grow sm1 pp⟩⟩⟩ (sr.grow sm List.prefix_rfl)
end DL
set_option Elab.async false
set_option linter.all false
set_option maxRecDepth 100000
set_option maxHeartbeats 4000000
set_option autoImplicit false
/-! The data level: [x for x in lambdas if test] over lambdas that were handed in; a list of two lists that may be changed. -/
namespace DL
open PySem PySem.Spec PyProof.Rows L2
def compZ (t : Clo → DT) (own : List Nat) (j : Nat) : List EntZ → Env → (Env → Prop) → Prop
  | [], ρ, Q => Q ρ
  | p :: r, ρ, Q => ∀ G la, t (p.clo G la) X0 ⟨ρ.T, (wipeS ρ.s own).set j (some (.clo p.f G la))⟩ fun b ρ2 => b = false ∧ compZ t own j r ρ2 Q
def dCompZ (es : List EntZ) (fi : DI) (t : Clo → DT) (own : List Nat) (j : Nat) : DE := fun X ρ Q => fi X ρ fun ds ρ1 => ds = es.map (fun p => .cl p.f p.G) ∧
  compZ t own j es ⟨ρ1.T ++ [.lst []], wipeS ρ1.s own⟩ fun ρ2 => ρ2.T[ρ1.T.length]? = some (.lst []) ∧ lowS ρ1.T.length (wipeS ρ2.s own) = true ∧ Q (.lst []) ⟨ρ2.T.take ρ1.T.length, wipeS ρ2.s own⟩
section
variable {X : Cx} {W : WX}
theorem compZ_wipe {t : Clo → DT} {own : List Nat} {j : Nat} {Q : Env → Prop} (hQ : ∀ ρ, Q ρ → Q ⟨ρ.T, wipeS ρ.s own⟩) : ∀ {l : List EntZ} {ρ : Env}, compZ t own j l ρ Q → compZ t own j l ⟨ρ.T, wipeS ρ.s own⟩ Q
  | [], ρ, h => hQ ρ h
  | p :: r, ρ, h => fun G la => by
    show t _ X0 ⟨ρ.T, (wipeS (wipeS ρ.s own) own).set j _⟩ _
    rw [wipeS_two]
    exact h G la
theorem de_compZ {elt tg iter : Expr} {ifs : List Expr} {scope : Scope} {own : List (Str × Nat)} {pos : Pos} {fi : DI} {t : Clo → DT} {its : List EntZ} {k : Nat} (j : Nat) (hc : X.calm = true) (hN : X.N.Nodup) (hi : PI X tg iter (lI X.K W fi)) (ok : blkC X.N X.env.scope scope own = true)
    (hg : ∀ (bp : Heap) (s : Shared) (H : Hp) (C : Addr) (cl : List (Str × Addr)) (fp : List Addr), PG (blkB X bp s H scope (compEnvC scope cl C X.env) fp) tg (lG X.K [j] (gNm j))) (hT : ∀ e ∈ its, EntC X.prog X.w X.K X.mg X.base k e)
    (ht : ∀ (bp : Heap) (c : Clo), (∀ b o, X.base.get? b = some o → bp.get? b = some o) → CloOk X.prog X.w X.K X.mg bp k c → ∀ (s : Shared) (H : Hp) (C : Addr) (cl : List (Str × Addr)) (fp : List Addr), PTs (blkB X bp s H scope (compEnvC scope cl C X.env) fp) ifs (lT X.K W0 (t c)))
    (hfn : ∀ x, X.fn x = true := by intro _; rfl) (hio : j ∈ own.map (·.2) := by decide) (hs : ∀ x, foldedSetIterable iter X.env x = pure x := by intro _; rfl) : PE X (.ListComp elt [⟨tg, iter, ifs, 0⟩] scope pos) (lE X.K W (dCompZ its fi t (own.map (·.2)) j)) :=
  pe_imp (lc_bp hc hN hi (blkOk_by ok) hg hs) fun σ H Q ⟨ρ, G, la, P, XX, re, h, q, xo⟩ pins => ⟨ρ, G, la, _, XX, re, h, fun ds ρ1 G1 la1 H1 J p1 a1 wk lz D s3 bp nD I3 up hcell => by
    obtain ⟨eds, run⟩ := p1
    have l1 : la1.length = ρ1.T.length := a1.r.tb.len
    have fr := a1.r.tb.fresh (xs := []) (vs := []) nD (Nat.zero_le _) .nil
    have rr : Re X.K G1 (upd H1 D (.lst [])) (la1 ++ [D]) σ ⟨ρ1.T ++ [.lst []], ρ1.s⟩ := ⟨fr, a1.r.sl, fun i x hx => by
      obtain ⟨v, b, c⟩ := a1.r.at_ i x hx
      exact ⟨v, b, c.grow (Same.refl _) (List.prefix_append _ _)⟩⟩
    refine ⟨fun _ σ' H' Q' => ∃ c, CloOk X.prog X.w X.K X.mg bp k c ∧ lT X.K W0 (t c) σ' H' Q', fun i s H C cl fp => ⟨fun pn s' σ' H' Q' I' ⟨c, hc', hh⟩ => (ht bp c up hc' s H C cl fp).run pn s' σ' H' Q' I' hh⟩, ?_⟩
    let fin : Env → Prop := fun ρ2 => ρ2.T[ρ1.T.length]? = some (.lst []) ∧ lowS ρ1.T.length (wipeS ρ2.s (own.map (·.2))) = true ∧ P (.lst []) ⟨ρ2.T.take ρ1.T.length, wipeS ρ2.s (own.map (·.2))⟩
    have hfin : ∀ ρ, fin ρ → fin ⟨ρ.T, wipeS ρ.s (own.map (·.2))⟩ := fun ρ hh => by
      show ρ.T[ρ1.T.length]? = some (.lst []) ∧ lowS ρ1.T.length (wipeS (wipeS ρ.s (own.map (·.2))) (own.map (·.2))) = true ∧ P (.lst []) ⟨ρ.T.take ρ1.T.length, wipeS (wipeS ρ.s (own.map (·.2))) (own.map (·.2))⟩
      rw [wipeS_two]
      exact hh
    have run : compZ t (own.map (·.2)) j its ⟨ρ1.T ++ [.lst []], wipeS ρ1.s (own.map (·.2))⟩ fin := run
    have lds : ds.length = its.length := by rw [eds, List.length_map]
    refine ⟨fun i m H2 => m + i = its.length ∧ ∃ ρ2 G2 la2, Aft X.K G1 (la1 ++ [D]) (L2.wipe σ (own.map (·.2))) ρ2 G2 la2 H2 ∧ compZ t (own.map (·.2)) j (its.drop i) ρ2 fin, ⟨its.length, by simp, _, G1, la1 ++ [D], Aft.refl (rr.wipe (own.map (·.2))), by simpa using run⟩, ?_⟩
    rintro i m H2 ⟨hm, ρ2, G2, la2, a2, c2⟩
    by_cases hlt : i < its.length
    · right
      have hl2 : i < its.length := by simpa using hlt
      rw [List.drop_eq_getElem_cons hl2] at c2
      refine ⟨wk.goes i H2 (by omega) (a2.g.trans a2.r.ext), fun H3 => ∃ ρ3 G3 la3, Aft X.K G1 (la1 ++ [D]) (L2.wipe σ (own.map (·.2))) ρ3 G3 la3 H3 ∧ compZ t (own.map (·.2)) j (its.drop (i + 1)) ρ3 fin, fun H3 ⟨ρ3, G3, la3, a3, c3⟩ => ⟨m - 1, by omega, by omega, ρ3, G3, la3, a3, c3⟩, fun x H3 y => ?_⟩
      have hd : ds[i]? = some (.cl its[i].f its[i].G) := by
        rw [eds, List.getElem?_map, List.getElem?_eq_getElem hlt]
        rfl
      obtain ⟨G3, gr, dx⟩ := wk.yields i G2 H2 x H3 a2.g a2.r.ext y _ hd
      have a3 := a2.grow gr
      have dx0 := dx
      refine ⟨_, G3, la2, _, _, (a3.r.dropS (own.map (·.2))), dx, (show gNm j (.cl its[i].f its[i].G) ⟨ρ2.T, wipeS ρ2.s (own.map (·.2))⟩ (fun ρ' => ρ' = ⟨ρ2.T, (wipeS ρ2.s (own.map (·.2))).set j (some (.dat (.cl its[i].f its[i].G)))⟩) from rfl), fun ρ4 σ4 p4 r4 w4 => ?_⟩
      subst p4
      have wso : L2.wipe σ4 (own.map (·.2)) = L2.wipe σ (own.map (·.2)) := (w4.wipe (fun z hz => by rw [List.mem_singleton.mp hz]; exact hio)).trans (wipe_idem _ _)
      refine ⟨wso.trans (wipe_idem _ _).symm |>.trans (wipe_idem _ _), ?_⟩
      have ex : ExtS its[i].G G3 := by
        cases dx0 with
        | cl e => exact e
      have ev : x = .ref its[i].f := by
        cases dx0 with
        | cl e => rfl
      have C := hT _ (List.getElem_mem hlt) bp up G3 la2 ex
      refine ⟨_, C, ⟨ρ2.T, (wipeS ρ2.s (own.map (·.2))).set j (some (.clo its[i].f G3 la2))⟩, G3, la2, fun b ρ5 => b = false ∧ compZ t (own.map (·.2)) j (its.drop (i + 1)) ρ5 fin, X0, ⟨r4.tb, by simpa using r4.sl, fun z w hz => ?_⟩, ?_, fun b ρ5 G5 la5 H5 p5 a5 => ?_, fun _ _ _ _ _ _ _ _ z => z.elim⟩
      · have hz2 : ((wipeS ρ2.s (own.map (·.2))).set j (some (.clo its[i].f G3 la2)))[z]? = some (some w) := hz
        by_cases hzj : j = z
        · subst hzj
          have lj : j < (wipeS ρ2.s (own.map (·.2))).length := by
            have := (List.getElem?_eq_some_iff.mp hz2).1
            simpa using this
          rw [List.getElem?_set_self lj] at hz2
          have ew := Option.some.inj (Option.some.inj hz2)
          subst ew
          obtain ⟨v, hv, rv⟩ := r4.at_ j (.dat (.cl its[i].f its[i].G)) (by show ((wipeS ρ2.s (own.map (·.2))).set j _)[j]? = _; rw [List.getElem?_set_self lj])
          exact ⟨v, hv, (ext_of rv).1, Same.refl _, List.prefix_rfl⟩
        · rw [List.getElem?_set_ne hzj] at hz2
          exact r4.at_ z w (by show ((wipeS ρ2.s (own.map (·.2))).set j _)[z]? = _; rw [List.getElem?_set_ne hzj]; exact hz2)
      · have c3 := c2 G3 la2
        exact c3
      · obtain ⟨eb, p6⟩ : b = false ∧ compZ t (own.map (·.2)) j (its.drop (i + 1)) ρ5 fin := p5
        refine ⟨eb, ⟨ρ5.T, wipeS ρ5.s (own.map (·.2))⟩, G5, la5, ⟨(a2.g.trans gr.g).trans a5.g, a2.p.trans a5.p, ?_⟩, compZ_wipe hfin p6⟩
        have qq := a5.r.wipe (own.map (·.2))
        rw [wso] at qq
        exact qq
    · left
      have ei : i = its.length := by omega
      subst ei
      rw [List.drop_of_length_le (by simp)] at c2
      have c3 : fin ρ2 := c2
      obtain ⟨hk, hlow, hP⟩ := c3
      refine ⟨by rw [← lds]; exact wk.stops H2 (a2.g.trans a2.r.ext), ?_⟩
      have hla : la2[ρ1.T.length]? = some D := by
        obtain ⟨tl, e2⟩ := a2.p
        rw [← e2, List.append_assoc, List.getElem?_append_right (by omega), ← l1, Nat.sub_self]
        rfl
      have hlt2 : ρ1.T.length < la2.length := (List.getElem?_eq_some_iff.mp hla).1
      obtain ⟨G3, s3', d3, r3⟩ := comp_done (ρ := ⟨ρ2.T, wipeS ρ2.s (own.map (·.2))⟩) a2.r.unwipe hlt2 hla hk (lowS_at hlow)
      have et : la2.take ρ1.T.length = la1 := by
        rw [← l1]
        exact pre_take ((List.prefix_append _ _).trans a2.p)
      rw [et] at r3
      exact q _ _ _ _ _ _ hP ⟨(a1.g.trans a2.g).trans s3', a1.p, r3⟩ d3, xo⟩

/-! ### a list of two lists, that may be changed -/
def dNewAdd (fa fb : DE) : DL' := fun X ρ Q => fa X ρ fun d ρ1 => fb X ρ1 fun e ρ2 => ∃ a b, d = .lst a ∧ e = .lst b ∧ a.length + b.length ≤ sizeLine ∧ Q (.ob ρ2.T.length) ⟨ρ2.T ++ [.lst (a ++ b)], ρ2.s⟩
theorem dl_addN {a b : Expr} {fa fb : DE} {pos : Pos} (ha : PE X a (lE X.K W fa)) (hb : PE X b (lE X.K W fb)) : PE X (.BinOp a .Add b pos) (lL X.K W (dNewAdd fa fb)) :=
  pe_imp (pe_op op_cat ha hb) fun σ H Q ⟨ρ, G, la, P, XX, re, h, q, xo⟩ => ⟨ρ, G, la, _, XX, re, h, fun d ρ1 v G1 la1 H1 p1 a1 z1 => ⟨ρ1, G1, la1, _, XX, a1.r, p1, fun e ρ2 u G2 la2 H2 p2 a2 z2 => by
    obtain ⟨xs, ys, rfl, rfl, hl, p3⟩ := p2
    cases z1.up a2.g with
    | lst ha la r =>
      cases z2 with
      | lst hb lb r2 =>
        rw [← r.len, ← r2.len] at hl
        refine ⟨_, _, _, _, rfl, rfl, a2.r.ext _ _ ha, a2.r.ext _ _ hb, hl, fun p hp => ?_⟩
        obtain ⟨c1, c2⟩ := newOf_core a2.r hp (by rw [List.length_append]; exact hl) (r.app r2)
        exact q _ _ _ G2 (la2 ++ [p]) _ p3 ⟨a1.g.trans a2.g, a1.p.trans (a2.p.trans (List.prefix_append _ _)), c1⟩ c2, xo.up a1.g a1.p⟩, xo⟩
end
end DL
set_option Elab.async false
set_option linter.all false
set_option maxRecDepth 100000
set_option maxHeartbeats 4000000
set_option autoImplicit false
/-! The data level: the facts of makers of lambdas, put together. -/
namespace DL
open PySem PySem.Spec PyProof.Rows L2
def LsOk (N : List Str) (sc : Scope) : List LamR → List (List Nat) → Prop
  | [], [] => True
  | L :: Ls, ix :: ixs => (LamSc L sc ∧ ix.map (fun i => N[i]?) = L.fr.map some) ∧ LsOk N sc Ls ixs
  | _, _ => False
theorem LsOk.at {N : List Str} {sc : Scope} : ∀ {Ls : List LamR} {ixs : List (List Nat)}, LsOk N sc Ls ixs → ∀ (i : Nat) (L : LamR) (ix : List Nat), Ls[i]? = some L → ixs[i]? = some ix → LamSc L sc ∧ ix.map (fun i => N[i]?) = L.fr.map some
  | [], [], _, _, _, _, h, _ => by simp at h
  | L :: Ls, ix :: ixs, h, 0, _, _, h1, h2 => by
    have e1 := Option.some.inj h1
    have e2 := Option.some.inj h2
    subst e1 e2
    exact h.1
  | L :: Ls, ix :: ixs, h, i + 1, _, _, h1, h2 => LsOk.at h.2 i _ _ h1 h2
  | _ :: _, [], h, _, _, _, _, _ => h.elim
  | [], _ :: _, h, _, _, _, _, _ => h.elim
theorem ftab0 {X : Cx} {k : Nat} : ∀ t ∈ ([] : List FzE), FzEOk X k t := fun t h => by simp at h
theorem ftab {X : Cx} {k : Nat} {t : FzE} {l : List FzE} (h : FzEOk X k t) (r : ∀ t ∈ l, FzEOk X k t) : ∀ u ∈ t :: l, FzEOk X k u := fun u hu => (List.mem_cons.mp hu).elim (fun e => by rw [e]; exact h) (r u)
/-- as law_spT, the law being asked with no table at first -/
theorem law_spT0 {K : PySem.W.Frag} {S : DF} {cs : List (Addr × Addr)} (ht : ∀ p ∈ tabsOf K, ∃ c, (c, p.1) ∈ cs) (hlaw : ∀ (ns : List Int) (Q : Sl → List Ob → Prop) (QX : Xn → List Ob → Prop), ns.length ≤ 63 → (∀ T', Q (.dat (.bl true)) T') → S [.dat (.scr ns)] [] Q QX) (H : Hp) (a : Addr) (ns : List Int) (hl : ns.length ≤ 63)
    (hH : ∀ p ∈ cs, H p.2 = some (.tbl #[])) (hS : SqL K H a (ns.map V.int)) : spD K 1 S [.ref a] H (fun v _ => v = .bl true) fun _ _ _ => False :=
  ⟨rfl, [.dat (.scr ns)], lessTbl H, [], [], fun r _ => r = .dat (.bl true), fun _ _ => False, ⟨less_same H, List.nodup_nil, rfl, fun k a o h => by simp at h, fun k a h => by simp at h, less_nt H, fun p hp => by
    obtain ⟨c, hc⟩ := ht p hp
    exact ⟨less_none (hH _ hc), LamX.TabS.nil (hH _ hc)⟩⟩, .cons (.scr (less_seq hS)) .nil, hlaw ns _ _ hl (fun _ => rfl), fun r T' v G' la' H' e _ _ _ z => by
    subst e
    cases z
    rfl, fun _ _ _ _ _ _ _ f _ _ _ _ => f.elim⟩
end DL
set_option Elab.async false
set_option linter.all false
set_option maxRecDepth 100000
set_option maxHeartbeats 4000000
set_option autoImplicit false
/-! The data level: defs with two parameters and a star parameter. -/
namespace DL
open PySem PySem.Spec PyProof.Rows L2
/-- called with the two and any data behind them -/
def starF (F : DF) : DF := fun ss T Q QX => match ss with
  | x :: g :: r => match dats r with
    | some ds => ds.length ≤ 1000 ∧ F [x, g, .dat (.tup ds)] T Q QX
    | none => False
  | _ => False
section
variable {P : Program} {w : World} {K : PySem.W.Frag} {mg : Str → Option Value} {base : Heap}
theorem FnR.any {k : Nat} {f : Addr} {F : DF} (h : ∀ n, FnR P w K mg base (L2.CX P w) k f (spD K n F)) : FnR P w K mg base (L2.CX P w) k f (spDA K F) := fun A outer s H us vs Q E hr e0 r hs => h vs.length A outer s H us vs Q E hr e0 r hs
end
end DL
set_option Elab.async false
set_option linter.all false
set_option maxRecDepth 100000
set_option maxHeartbeats 1000000
set_option autoImplicit false
/-! Generators: if, for. -/
namespace DL
open PySem PySem.Spec PyProof.Rows GenW L2
section
variable {M : Model} {A : Around} {R : GenEnd} {Y : Protocol} {n : Nat} {s₀ : Shared} {c : Code} {fs : List Frame} {s : Shared} {env : PySem.Env}
  {K : Flow → Sem Fin} {H : Value → Sem Fin} {gd : Bool → Bool} {lv : List Value → List Value}
end
section
variable {prog : Program} {w : World} {A : Around} {R : GenEnd} {Y : Protocol} {n : Nat} {s₀ : Shared} {fs : List Frame} {s : Shared} {env : PySem.Env}
end
section
variable {X : Cx}
/-! ### if -/
/-! ### for -/
end
end DL
set_option Elab.async false
set_option linter.all false
set_option maxRecDepth 100000
set_option maxHeartbeats 1000000
set_option autoImplicit false
/-! The data level: defs that hand out one thing after another. -/
namespace DL
open PySem PySem.Spec PyProof.Rows L2
structure DGN where
  nx : List D → Env → Prop
  bk : List D → Env → Prop := fun _ _ => False
  ct : List D → Env → Prop := fun _ _ => False
structure BkG (K : PySem.W.Frag) (G : Hp) (la : List Addr) (E : DGN) (D : GEnds) : Prop where
  nx : ∀ (ds' : List DL.D) (ρ' : Env) (ys' : List V) (σ' : L2.St) (G' : Hp) (la' : List Addr) (H' : Hp), E.nx ds' ρ' → Aft K G la σ' ρ' G' la' H' → Dps K G' ys' ds' → D.nx ys' σ' H'
  bk : ∀ (ds' : List DL.D) (ρ' : Env) (ys' : List V) (σ' : L2.St) (G' : Hp) (la' : List Addr) (H' : Hp), E.bk ds' ρ' → Aft K G la σ' ρ' G' la' H' → Dps K G' ys' ds' → D.bk ys' σ' H'
  ct : ∀ (ds' : List DL.D) (ρ' : Env) (ys' : List V) (σ' : L2.St) (G' : Hp) (la' : List Addr) (H' : Hp), E.ct ds' ρ' → Aft K G la σ' ρ' G' la' H' → Dps K G' ys' ds' → D.ct ys' σ' H'
theorem BkG.up {K : PySem.W.Frag} {G G' : Hp} {la la' : List Addr} {E : DGN} {D : GEnds} (b : BkG K G la E D) (g : Same G G') (p : la <+: la') : BkG K G' la' E D :=
  ⟨fun ds ρ ys σ G2 la2 H2 h a z => b.nx ds ρ ys σ G2 la2 H2 h ⟨g.trans a.g, p.trans a.p, a.r⟩ z, fun ds ρ ys σ G2 la2 H2 h a z => b.bk ds ρ ys σ G2 la2 H2 h ⟨g.trans a.g, p.trans a.p, a.r⟩ z, fun ds ρ ys σ G2 la2 H2 h a z => b.ct ds ρ ys σ G2 la2 H2 h ⟨g.trans a.g, p.trans a.p, a.r⟩ z⟩
section
variable {X : Cx} {W : WX} {st : Stmt} {rest : List Stmt} {pos : Pos}
end
/-! ### the def -/
abbrev DFG := List Sl → List Ob → (List D → List Ob → Prop) → Prop
/-- list(o.m()), m hands out one thing after another -/
def dListG (Cn m : Str) (F : DFG) (fo : DL') : DE := fun X ρ Q => fo X ρ fun x ρ1 => match x with
  | .ob k => match ρ1.T[k]? with
    | some (.ins C fs) => C = Cn ∧ fs.lookup m = none ∧ F [.ob k] ρ1.T fun ds T' => ds.length ≤ 1000 ∧ Q (.lst ds) ⟨T', ρ1.s⟩
    | _ => False
  | _ => False
end DL
set_option Elab.async false
set_option linter.all false
set_option maxRecDepth 100000
set_option maxHeartbeats 1000000
set_option autoImplicit false
/-! The data level: sorted(tuple of ints), tuple.index(int), o.f for constants, xs.append(e) as an expression, defs with one parameter and a star. -/
namespace SrtO
open PySem PyProof.Rows Srt
section
variable {prog : Program} {w : World} {A : Around} {E : Value → Shared → Prop} {s : Shared}
end
end SrtO
namespace DL
open PySem PySem.Spec PyProof.Rows L2
/-! ### sorted, index -/
def gSortedI : List D → (D → Prop) → Prop
  | [.tup xs], P => ∃ ns : List Int, xs = ns.map .int ∧ ∀ ns' : List Int, ns'.Perm ns → ns'.Pairwise (· ≤ ·) → P (.lst (ns'.map .int))
  | _, _ => False
/-! ### a tuple that is known to have no dict: a slot for it -/
/-- the slot of such a tuple of ints, at a -/
def tplI (a : Addr) (o : Obj) (ns : List Int) : Sl := .clo a (upd (fun _ => none) a (.frz o (.tup (ns.map V.int)))) []
def dTupF (fe : DE) : DL' := fun X ρ Q => fe X ρ fun d ρ1 => ∃ ns : List Int, d = .lst (ns.map .int) ∧ ∀ (a : Addr) (o : Obj), o.dict = none → Q (tplI a o ns) ρ1
def dVarT (i : Nat) : DE := fun X ρ Q => ∃ (a : Addr) (o : Obj) (ns : List Int), ρ.s[i]? = some (some (tplI a o ns)) ∧ ns.length ≤ 1000 ∧ Q (.tup (ns.map .int)) ρ
def dTIdx (i : Nat) (fe : DE) : DE := fun X ρ Q => ∃ (a : Addr) (o : Obj) (ns : List Int), ρ.s[i]? = some (some (tplI a o ns)) ∧ o.dict = none ∧ fe X ρ fun e ρ1 => ∃ k : Int, e = .int k ∧ k ∈ ns ∧ Q (.int (ns.idxOf k : Nat)) ρ1
section
variable {X : Cx} {W : WX} {e : Expr} {x : Str} {p pos : Pos} {fe : DE}
end
/-! ### o.f, a constant of the class -/
def dConO (Cn f : Str) (i : Int) (o : DL') : DE := fun X ρ Q => o X ρ fun x ρ1 => match x with
  | .ob k => match ρ1.T[k]? with
    | some (.ins C fs) => C = Cn ∧ fs.lookup f = none ∧ Q (.int i) ρ1
    | _ => False
  | _ => False
section
variable {X : Cx} {W : WX} {Cn f : Str} {C : Addr} {o e : Expr} {fo : DL'} {fe : DE} {pos : Pos}
/-- xs.append(e), an expression -/
def dAppE (i : Nat) (f : DE) : DL' := fun X ρ Q => match ρ.s[i]? with
  | some (some (.ob k)) => match ρ.T[k]? with
    | some (.lst _) => f X ρ fun d ρ1 => match ρ1.T[k]? with
      | some (.lst xs) => xs.length < sizeLine ∧ Q (.dat .non) ⟨ρ1.T.set k (.lst (xs ++ [d])), ρ1.s⟩
      | _ => False
    | _ => False
  | _ => False
end
/-- called with the first and any data behind it -/
def starF1 (F : DF) : DF := fun ss T Q QX => match ss with
  | x :: r => match dats r with
    | some ds => ds.length ≤ 1000 ∧ F [x, .dat (.tup ds)] T Q QX
    | none => False
  | _ => False
section
variable {P : Program} {w : World} {K : PySem.W.Frag} {mg : Str → Option Value} {base : Heap}
end
end DL
set_option Elab.async false
set_option linter.all false
set_option maxRecDepth 100000
set_option maxHeartbeats 1000000
set_option autoImplicit false
/-! The data level: instances whose making takes so many things; methods with a star. -/
namespace DL
open PySem PySem.Spec PyProof.Rows L2
/-- called with so many -/
def fixF (n : Nat) (F : DF) : DF := fun ss T Q QX => ss.length = n ∧ F ss T Q QX
theorem IniF.of {X : Cx} {C f : Addr} {k n : Nat} {F : DF} {fd : FuncData} {ps : List Str} (mk : Mk X.K C f) (Fk : FnOk X.prog X.w X.K X.mg X.base (L2.CX X.prog X.w) k f fd ps (spD X.K n F)) (hb : Binds X.K fd ps []) : IniF X C f k (fixF n F) :=
  ⟨mk, (FnOk.raw Fk hb .nil).imp fun vs H Q E h => by
    rw [List.append_nil]
    obtain ⟨_, ss, G, la, T, Pd, PX, rl, sr, ⟨hl, fp⟩, q, qx⟩ := h
    exact ⟨sr.len.trans hl, ss, G, la, T, Pd, PX, rl, sr, fp, q, qx⟩⟩
end DL
set_option Elab.async false
set_option linter.all false
set_option maxRecDepth 100000
set_option maxHeartbeats 4000000
set_option autoImplicit false
/-! Slots that hold data or nothing. -/
namespace DL
open PySem PySem.Spec PyProof.Rows L2
theorem range_mem {lo hi : Int} {d : D} (h : d ∈ rangeD lo hi) : ∃ i : Int, d = .int i ∧ lo ≤ i ∧ i < hi := by
  obtain ⟨k, hk, rfl⟩ := List.mem_map.mp h
  rw [List.mem_range] at hk
  exact ⟨_, rfl, by omega, by omega⟩
end DL
namespace DL
open PySem PySem.Spec PyProof.Rows L2
set_option Elab.async false
set_option linter.all false
set_option maxRecDepth 100000
set_option maxHeartbeats 4000000
set_option autoImplicit false
/-! The program's defs at data level: what a drill and a beginning are. -/
local macro_rules | `(tactic| walk_at "dl") => `(tactic| (try simp only [sSeq, sSet, sRet, sRetN, sIf, sNil, sDrop, sFor, sTo, sPar2, sPar3, sNever, sRaise, sSetIx, dVar, dC, dVarL, dDat, dVal, valK_dat, valK_ob, dBin, dUn, dNil, dCons, dats, dTup, dLst, dNew, dNewOf, dTest, dtAnd, dtOr, dtNot, dAnd, dOr, dNot, dIf, dChain, dCB, dSl, dNo, dSo, sApp, dIxO, dLenO, dMaxD, dGetP, dCall, dSeq, dRng1, dRng2, dZip, dEnum, gNm, gTp, gCs, gNl, dYes,
  startD, endsOf, retD, wipeS, gAdd, gSub, gMul, gMulA, gMulB, gDiv, gMod, gPow, gNeg, gLt, gLe, gGt, gGe, gEq, gNe, gIn, gIx, gSl, gIsi, tyD, isiD, gLen, gAbs, gInt, gMax2, gMin2, gTuple, gList, gIsN, isNon, gIsB, gNotB,
  List.getElem?_cons_zero, List.getElem?_cons_succ, List.getElem?_nil, List.set_cons_zero, List.set_cons_succ, List.map_cons, List.map_nil, List.cons_append, List.nil_append, List.length_cons, List.length_nil, List.replicate_succ, List.replicate_zero, Option.map_some, Nat.reduceSub, Nat.reduceAdd, Nat.reduceLeDiff,
  List.take_length, beq_self_eq_true, String.reduceBEq, Bool.or_true, Bool.true_or, Bool.or_false, Bool.false_or, Bool.and_true, Bool.and_false, Bool.true_and, Bool.false_and, Bool.or_self, Bool.and_self, decide_true, decide_false, dmem, List.any_cons, List.any_nil, okd_non, okd_bl, okd_int, okd_str, okds_nil, okds_cons, okd_60t, okd_59t, okd_58t, okd_60l, okd_59l, okd_58l, st_tk, st_tb, st_tf, st_kt, st_kb, st_kf, st_bt, st_bk, st_bf, st_ft, st_fk, st_fb, nat_num, Int.reduceBEq, Int.reduceBNe, Int.reduceEq, Int.reduceLT, Int.reduceLE, Int.reduceAdd, Int.reduceSub, Int.reduceMul, Int.reduceNeg, Int.reduceToNat, Int.reducePow, atI_0, atI_1, atI_2, set_last, get_last, take_last, deq_str, deq_int, deq_non, deq_bl, deq_tt, deq_ll, deqs_nn, deqs_cc, deqs_nc, deqs_cn, Nat.lt_irrefl, List.set_set, ixN_20, ixN_21, tupI, okds_ints, atI_map', List.length_map, cutL_map, eq_self, if_true, if_false, ite_true, ite_false, Bool.false_eq_true, decide_eq_true_eq, true_and, and_true, and_self, Bool.not_true, Bool.not_false, true_or, or_true, false_or, or_false, Option.some.injEq, reduceCtorEq]))
def isInt (d : D) (lo hi : Int) : Bool := match d with
  | .int i => decide (lo ≤ i) && decide (i ≤ hi)
  | _ => false
/-- slots: 0 value, 1 low, 2 high -/
def B_is_int : DS :=
  (sRet (dDat (dAnd (dCB gIsi (dCons (dDat (dVar 0)) (dCons (dDat (dC (.raw (.ty "int")))) dNil))) (dAnd (dNot (dCB gIsi (dCons (dDat (dVar 0)) (dCons (dDat (dC (.raw (.ty "bool")))) dNil)))) (dChain gLe gLe (dVar 1) (dVar 0) (dVar 2))))))
def S_is_int : DF := fun ss T Q _ => match ss with
  | [.dat d, .dat (.int lo), .dat (.int hi)] => okd 60 d = true ∧ Q (.dat (.bl (isInt d lo hi))) T
  | _ => False
theorem h_is_int : ∀ (ss : List Sl) (T : List Ob) (Q : Sl → List Ob → Prop) (QX : Xn → List Ob → Prop), ss.length = 3 → S_is_int ss T Q QX → B_is_int (endsOf T.length Q QX) (startD 3 3 ss T) := by
  intro ss T Q QX hl h
  unfold S_is_int at h
  split at h
  · rename_i d lo hi
    obtain ⟨ok, h⟩ := h
    unfold B_is_int
    cases d with
    | raw v => simp [okd] at ok
    | int i =>
      walk_at "dl"
      unfold isInt at h
      split
      · rename_i q
        simpa [q] using h
      · rename_i q
        simpa [q] using h
    | scr ns => simp [okd] at ok
    | fn _ => simp [okd] at ok
    | err _ _ => simp [okd] at ok
    | cl _ _ => simp [okd] at ok
    | _ =>
      walk_at "dl"
      exact h
  · exact h.elim
/-- a run -/
def isRun (d : D) : Bool := match d with
  | .tup [.str w, a] => (w == "to" && isInt a 0 1000000000000) || (w == "bark" && isInt a 1 1000000000000)
  | .tup [.str w, a, b] => (w == "back" || w == "front") && isInt a 0 3 && isInt b 1 1000000000000
  | _ => false
/-- slots: 0 value -/
def B_is_a_run : DS :=
  (sSeq (sIf (dtOr (dtNot (dTest (dCB gIsi (dCons (dDat (dVar 0)) (dCons (dDat (dC (.raw (.ty "tuple")))) dNil))))) (dtOr (dTest (dBin gEq (dVar 0) (dTup dNil))) (dtNot (dTest (dCB gIsi (dCons (dDat (dBin gIx (dVar 0) (dC (.int 0)))) (dCons (dDat (dC (.raw (.ty "str")))) dNil))))))) (sRet (dDat (dC (.bl false)))) sNil)
  (sSeq (sIf (dTest (dBin gEq (dBin gIx (dVar 0) (dC (.int 0))) (dC (.str "to")))) (sRet (dDat (dAnd (dBin gEq (dCB gLen (dCons (dDat (dVar 0)) dNil)) (dC (.int 2))) (dVal (dCall 3 S_is_int (dCons (dDat (dBin gIx (dVar 0) (dC (.int 1)))) (dCons (dDat (dC (.int 0))) (dCons (dDat (dC (.int 1000000000000))) dNil)))))))) sNil)
  (sSeq (sIf (dTest (dBin gEq (dBin gIx (dVar 0) (dC (.int 0))) (dC (.str "bark")))) (sRet (dDat (dAnd (dBin gEq (dCB gLen (dCons (dDat (dVar 0)) dNil)) (dC (.int 2))) (dVal (dCall 3 S_is_int (dCons (dDat (dBin gIx (dVar 0) (dC (.int 1)))) (dCons (dDat (dC (.int 1))) (dCons (dDat (dC (.int 1000000000000))) dNil)))))))) sNil)
  (sSeq (sIf (dtOr (dTest (dBin (gIn true) (dBin gIx (dVar 0) (dC (.int 0))) (dTup (dCons (dDat (dC (.str "back"))) (dCons (dDat (dC (.str "front"))) dNil))))) (dTest (dBin gNe (dCB gLen (dCons (dDat (dVar 0)) dNil)) (dC (.int 3))))) (sRet (dDat (dC (.bl false)))) sNil)
  (sRet (dDat (dAnd (dVal (dCall 3 S_is_int (dCons (dDat (dBin gIx (dVar 0) (dC (.int 1)))) (dCons (dDat (dC (.int 0))) (dCons (dDat (dC (.int 3))) dNil))))) (dVal (dCall 3 S_is_int (dCons (dDat (dBin gIx (dVar 0) (dC (.int 2)))) (dCons (dDat (dC (.int 1))) (dCons (dDat (dC (.int 1000000000000))) dNil))))))))))))
def S_is_a_run : DF := fun ss T Q _ => match ss with
  | [.dat d] => okd 60 d = true ∧ Q (.dat (.bl (isRun d))) T
  | _ => False
theorem h_is_a_run : ∀ (ss : List Sl) (T : List Ob) (Q : Sl → List Ob → Prop) (QX : Xn → List Ob → Prop), ss.length = 1 → S_is_a_run ss T Q QX → B_is_a_run (endsOf T.length Q QX) (startD 1 1 ss T) := by
  intro ss T Q QX hl h
  unfold S_is_a_run at h
  split at h
  · rename_i d
    obtain ⟨ok, h⟩ := h
    unfold B_is_a_run
    cases d with
    | raw v => simp [okd] at ok
    | tup xs =>
      cases xs with
      | nil =>
        walk_at "dl"
        exact h
      | cons x r =>
        have okx := okd_item ok (d := x) (by simp)
        cases x with
        | raw v => simp [okd] at okx
        | str w =>
          have ok' := ok
          simp only [okd_60t, okds_cons, okd_str, Bool.true_and] at ok'
          by_cases w1 : w = "to"
          · subst w1
            cases r with
            | nil =>
              walk_at "dl"
              exact h
            | cons a r =>
              have oka := okd_item ok (d := a) (by simp)
              cases r with
              | nil =>
                simp only [okds_cons, okds_nil, Bool.and_true] at ok'
                walk_at "dl"
                simp only [S_is_int]
                walk_at "dl"
                simpa [isRun, oka, ok', st_tk] using h
              | cons b r =>
                simp only [okds_cons] at ok'
                walk_at "dl"
                have e : (((r.length + 1 + 1 + 1 : Nat) : Int) == 2) = false := by simp; omega
                simp only [ok', e]
                walk_at "dl"
                cases r <;> simpa [isRun, st_tb, st_tf] using h
          by_cases w2 : w = "bark"
          · subst w2
            cases r with
            | nil =>
              walk_at "dl"
              exact h
            | cons a r =>
              have oka := okd_item ok (d := a) (by simp)
              cases r with
              | nil =>
                simp only [okds_cons, okds_nil, Bool.and_true] at ok'
                walk_at "dl"
                simp only [S_is_int]
                walk_at "dl"
                simpa [isRun, oka, ok', st_kt] using h
              | cons b r =>
                simp only [okds_cons] at ok'
                walk_at "dl"
                have e : (((r.length + 1 + 1 + 1 : Nat) : Int) == 2) = false := by simp; omega
                simp only [ok', e]
                walk_at "dl"
                cases r <;> simpa [isRun, st_kb, st_kf] using h
          have v1 : (w == ("to" : Str)) = false := by simpa using w1
          have v2 : (w == ("bark" : Str)) = false := by simpa using w2
          by_cases w3 : w = "back" ∨ w = "front"
          · have v3 : ((("back" : Str) == w) || (("front" : Str) == w)) = true := by
              rcases w3 with rfl | rfl <;> simp
            have v3' : ((w == ("back" : Str)) || (w == ("front" : Str))) = true := by
              rcases w3 with rfl | rfl <;> simp
            cases r with
            | nil =>
              walk_at "dl"
              simp only [v1, v2, v3]
              walk_at "dl"
              exact h
            | cons a r =>
              have oka := okd_item ok (d := a) (by simp)
              cases r with
              | nil =>
                simp only [okds_cons, okds_nil, Bool.and_true] at ok'
                walk_at "dl"
                simp only [v1, v2, v3, ok']
                walk_at "dl"
                simpa [isRun, v1, v2] using h
              | cons b r =>
                have okb := okd_item ok (d := b) (by simp)
                cases r with
                | nil =>
                  simp only [okds_cons, okds_nil, Bool.and_true] at ok'
                  walk_at "dl"
                  simp only [v1, v2, v3, ok', S_is_int]
                  walk_at "dl"
                  refine ⟨oka, ?_⟩
                  simp only [isRun, v3', Bool.true_and] at h
                  cases q : isInt a 0 3 with
                  | true =>
                    rw [q] at h
                    simp only [Bool.true_and] at h
                    walk_at "dl"
                    refine ⟨okb, ?_⟩
                    walk_at "dl"
                    exact h
                  | false =>
                    rw [q] at h
                    walk_at "dl"
                    exact h
                | cons c r =>
                  simp only [okds_cons] at ok'
                  walk_at "dl"
                  have e : (((r.length + 1 + 1 + 1 + 1 : Nat) : Int) == 3) = false := by simp; omega
                  simp only [v1, v2, v3, ok', e]
                  walk_at "dl"
                  simpa [isRun] using h
          · have v3 : ((("back" : Str) == w) || (("front" : Str) == w)) = false := by
              simp only [not_or] at w3
              simp [Ne.symm w3.1, Ne.symm w3.2]
            have v4 : (w == ("back" : Str)) = false := by simp only [not_or] at w3; simpa using w3.1
            have v5 : (w == ("front" : Str)) = false := by simp only [not_or] at w3; simpa using w3.2
            cases r with
            | nil =>
              walk_at "dl"
              simp only [v1, v2, v3]
              walk_at "dl"
              exact h
            | cons a r =>
              simp only [okds_cons] at ok'
              walk_at "dl"
              simp only [v1, v2, v3, ok']
              walk_at "dl"
              rcases r with _ | ⟨b, _ | ⟨c, r⟩⟩ <;> simpa [isRun, v1, v2, v4, v5] using h
        | scr ns => simp [okd] at okx
        | fn _ => simp [okd] at okx
        | err _ _ => simp [okd] at okx
        | cl _ _ => simp [okd] at okx
        | _ =>
          have ok' := ok
          simp only [okd_60t, okds_cons] at ok'
          try simp only [okd_non, okd_bl, okd_int, Bool.true_and] at ok'
          try simp only [okd_59t, okd_59l] at ok'
          walk_at "dl"
          exact ⟨ok', h⟩
    | scr ns => simp [okd] at ok
    | fn _ => simp [okd] at ok
    | err _ _ => simp [okd] at ok
    | cl _ _ => simp [okd] at ok
    | _ =>
      walk_at "dl"
      exact h
  · exact h.elim
set_option Elab.async false
set_option linter.all false
set_option maxRecDepth 100000
set_option maxHeartbeats 4000000
set_option autoImplicit false
/-! The program's defs at data level: drills, beginnings. -/
/-- a drill -/
def fitsB (d : D) : Bool := match d with
  | .tup [g, .tup rs] => isInt g 1 9 && (decide (rs.length ≤ 8) && rs.all isRun)
  | _ => false
/-- slots: 0 value, 1 run -/
def B_fits : DS :=
  (sSeq (sIf (dtOr (dtNot (dTest (dCB gIsi (dCons (dDat (dVar 0)) (dCons (dDat (dC (.raw (.ty "tuple")))) dNil))))) (dtOr (dTest (dBin gNe (dCB gLen (dCons (dDat (dVar 0)) dNil)) (dC (.int 2)))) (dtNot (dTest (dVal (dCall 3 S_is_int (dCons (dDat (dBin gIx (dVar 0) (dC (.int 0)))) (dCons (dDat (dC (.int 1))) (dCons (dDat (dC (.int 9))) dNil))))))))) (sRet (dDat (dC (.bl false)))) sNil)
  (sSeq (sIf (dtOr (dtNot (dTest (dCB gIsi (dCons (dDat (dBin gIx (dVar 0) (dC (.int 1)))) (dCons (dDat (dC (.raw (.ty "tuple")))) dNil))))) (dTest (dBin gGt (dCB gLen (dCons (dDat (dBin gIx (dVar 0) (dC (.int 1)))) dNil)) (dC (.int 8))))) (sRet (dDat (dC (.bl false)))) sNil)
  (sRet (dDat (dBin gEq (dComp (dSeq (dBin gIx (dVar 0) (dC (.int 1)))) (gNm 1) (dtNot (dTest (dVal (dCall 1 S_is_a_run (dCons (dDat (dVar 1)) dNil))))) (dVar 1) [1]) (dLst dNil))))))
def S_fits : DF := fun ss T Q _ => match ss with
  | [.dat d] => okd 60 d = true ∧ Q (.dat (.bl (fitsB d))) T
  | _ => False
theorem filt_none {α : Type} (p : α → Bool) (l : List α) : l.filterMap (fun d => if !p d then some d else none) = [] ↔ l.all p = true := by
  induction l with
  | nil => simp
  | cons x r ih =>
    rw [List.filterMap_cons]
    cases q : p x <;> simp [q, ih]
theorem deqs_nil_iff (l : List D) : deqs l [] = l.isEmpty := by
  cases l with
  | nil => simp [deqs_nn]
  | cons x r => simp [deqs_cn]
theorem h_fits : ∀ (ss : List Sl) (T : List Ob) (Q : Sl → List Ob → Prop) (QX : Xn → List Ob → Prop), ss.length = 1 → S_fits ss T Q QX → B_fits (endsOf T.length Q QX) (startD 2 1 ss T) := by
  intro ss T Q QX hl h
  unfold S_fits at h
  split at h
  · rename_i d
    obtain ⟨ok, h⟩ := h
    unfold B_fits
    cases d with
    | raw v => simp [okd] at ok
    | fn _ => simp [okd] at ok
    | err _ _ => simp [okd] at ok
    | cl _ _ => simp [okd] at ok
    | scr ns => simp [okd] at ok
    | tup xs =>
      rcases xs with _ | ⟨g, _ | ⟨x, _ | ⟨y, r⟩⟩⟩
      · walk_at "dl"
        exact h
      · walk_at "dl"
        exact h
      · have okg := okd_item ok (d := g) (by simp)
        have okx := okd_item ok (d := x) (by simp)
        walk_at "dl"
        simp only [S_is_int]
        walk_at "dl"
        refine ⟨okg, ?_⟩
        cases qg : isInt g 1 9 with
        | false =>
          walk_at "dl"
          cases x <;> simpa [fitsB, qg] using h
        | true =>
          walk_at "dl"
          cases x with
          | raw v => simp [okd] at okx
          | fn _ => simp [okd] at okx
          | err _ _ => simp [okd] at okx
          | cl _ _ => simp [okd] at okx
          | scr ns => simp [okd] at okx
          | tup rs =>
            walk_at "dl"
            by_cases q8 : (8 : Int) < rs.length
            · rw [if_pos q8]
              have e : ¬ (rs.length ≤ 8) := by omega
              simpa [fitsB, e] using h
            · rw [if_neg q8]
              have e : rs.length ≤ 8 := by omega
              refine dComp_pure (fun d => if !isRun d then some d else none) rs T [some (.dat (.tup [g, .tup rs])), none] [some (.dat (.tup [g, .tup rs])), none] ?_ rfl rfl rfl (by rw [sizeLine_eq]; omega) ?_ ?_
              · intro P hP
                walk_at "dl"
                exact hP
              · intro d hd acc R hR
                have okd' := okd_item (n := 59) (ds := rs) okx hd
                walk_at "dl"
                simp only [S_is_a_run]
                walk_at "dl"
                refine ⟨okd', ?_⟩
                cases q : isRun d with
                | true =>
                  walk_at "dl"
                  have := hR [some (.dat (.tup [g, .tup rs])), some (.dat d)] rfl
                  simpa [q] using this
                | false =>
                  walk_at "dl"
                  have := hR [some (.dat (.tup [g, .tup rs])), some (.dat d)] rfl
                  simpa [q] using this
              · walk_at "dl"
                rw [deqs_nil_iff]
                have e2 : (List.filterMap (fun d => if !isRun d then some d else none) rs).isEmpty = rs.all isRun := by
                  rw [Bool.eq_iff_iff, List.isEmpty_iff]
                  exact filt_none isRun rs
                rw [e2]
                refine ⟨?_, ?_⟩
                · rw [okds_iff]
                  intro d hd
                  obtain ⟨x, hx, ex⟩ := List.mem_filterMap.mp hd
                  have okx' : okds 59 rs = true := okx
                  have := (okds_iff 59 rs).mp okx' x hx
                  split at ex
                  · cases ex
                    exact this
                  · cases ex
                · simpa [fitsB, qg, e] using h
          | _ =>
            walk_at "dl"
            exact h
      · walk_at "dl"
        have e : (((r.length + 1 + 1 + 1 : Nat) : Int) == 2) = false := by simp; omega
        simp only [e]
        walk_at "dl"
        cases x <;> exact h
    | _ =>
      walk_at "dl"
      exact h
  · exact h.elim
set_option Elab.async false
set_option linter.all false
set_option maxRecDepth 100000
set_option maxHeartbeats 4000000
set_option autoImplicit false
/-! The program's defs at data level: beginnings. -/
def spaced (g : Int) : List Int → Bool
  | x :: y :: r => decide (x + g ≤ y) && spaced g (y :: r)
  | _ => true
def inGreat (x : Int) : Bool := decide (0 ≤ x) && decide (x ≤ 1000000000000000000000000000000)
/-- a beginning -/
def beginsB (g : Int) (d : D) : Bool := match d with
  | .tup ds => (decide (1 ≤ ds.length) && decide (ds.length ≤ 40)) && match intsOf ds with
    | some xs => xs.all inGreat && spaced g xs
    | none => false
  | _ => false
theorem great_ints : ∀ ds : List D, ds.all (fun d => isInt d 0 1000000000000000000000000000000) = true → ∃ xs : List Int, ds = xs.map .int ∧ xs.all inGreat = true
  | [], _ => ⟨[], rfl, rfl⟩
  | d :: ds, h => by
    simp only [List.all_cons, Bool.and_eq_true] at h
    obtain ⟨xs, e, a⟩ := great_ints ds h.2
    cases d with
    | int i => exact ⟨i :: xs, by rw [e]; rfl, by rw [List.all_cons, a]; have h1 := h.1; unfold isInt at h1; simpa [inGreat] using h1⟩
    | _ => simp [isInt] at h
theorem great_not : ∀ {ds : List D} {xs : List Int}, ds.all (fun d => isInt d 0 1000000000000000000000000000000) = false → intsOf ds = some xs → xs.all inGreat = false
  | [], _, h, _ => by simp at h
  | d :: ds, xs, h, e => by
    cases d with
    | int i =>
      have e' : (intsOf ds).map (i :: ·) = some xs := e
      obtain ⟨ys, e1, rfl⟩ := Option.map_eq_some_iff.mp e'
      simp only [List.all_cons, Bool.and_eq_false_iff] at h ⊢
      rcases h with h | h
      · left
        simpa [isInt, inGreat] using h
      · exact .inr (great_not h e1)
    | _ => cases e
def pairLt (g : Int) (d : D) : Option D := match d with
  | .tup [.int a, .int b] => if b - a < g then some (.int 1) else none
  | _ => none
theorem spaced_zip (g : Int) : ∀ xs : List Int, ((zipD (xs.map .int) ((xs.drop 1).map .int)).filterMap (pairLt g)).isEmpty = spaced g xs
  | [] => rfl
  | [x] => rfl
  | x :: y :: r => by
    have ih := spaced_zip g (y :: r)
    show ((.tup [.int x, .int y] :: zipD ((y :: r).map .int) (((y :: r).drop 1).map .int)).filterMap (pairLt g)).isEmpty = (decide (x + g ≤ y) && spaced g (y :: r))
    rw [List.filterMap_cons, ← ih]
    simp only [pairLt]
    by_cases q : y - x < g
    · rw [if_pos q, show decide (x + g ≤ y) = false by simp; omega]
      rfl
    · rw [if_neg q, show decide (x + g ≤ y) = true by simp; omega]
      rfl
theorem zip_mem : ∀ (xs ys : List Int) (d : D), d ∈ zipD (xs.map .int) (ys.map .int) → ∃ a b, d = .tup [.int a, .int b]
  | [], _, d, h => by simp [zipD] at h
  | _ :: _, [], d, h => by simp [zipD] at h
  | x :: xs, y :: ys, d, h => by
    rcases List.mem_cons.mp h with rfl | h
    · exact ⟨x, y, rfl⟩
    · exact zip_mem xs ys d h
/-- slots: 0 gap, 1 value, 2 place, 3 one, 4 other -/
def B_begins : DS :=
  (sSeq (sIf (dtOr (dtNot (dTest (dCB gIsi (dCons (dDat (dVar 1)) (dCons (dDat (dC (.raw (.ty "tuple")))) dNil))))) (dtNot (dTest (dChain gLe gLe (dC (.int 1)) (dCB gLen (dCons (dDat (dVar 1)) dNil)) (dC (.int 40)))))) (sRet (dDat (dC (.bl false)))) sNil)
  (sSeq (sIf (dTest (dBin gNe (dComp (dSeq (dVar 1)) (gNm 2) (dtNot (dTest (dVal (dCall 3 S_is_int (dCons (dDat (dVar 2)) (dCons (dDat (dC (.int 0))) (dCons (dDat (dC (.int 1000000000000000000000000000000))) dNil))))))) (dVar 2) [2]) (dLst dNil))) (sRet (dDat (dC (.bl false)))) sNil)
  (sRet (dDat (dBin gEq (dComp (dZip (dCons (dDat (dVar 1)) (dCons (dDat (dSl (dVar 1) (dSo (dC (.int 1))) dNo)) dNil))) (gTp 2 (gCs (gNm 3) (gCs (gNm 4) gNl))) (dTest (dBin gLt (dBin gSub (dVar 4) (dVar 3)) (dVar 0))) (dC (.int 1)) [3, 4]) (dLst dNil))))))
def S_begins : DF := fun ss T Q _ => match ss with
  | [.dat (.int g), .dat d] => okd 60 d = true ∧ Q (.dat (.bl (beginsB g d))) T
  | _ => False
theorem h_begins : ∀ (ss : List Sl) (T : List Ob) (Q : Sl → List Ob → Prop) (QX : Xn → List Ob → Prop), ss.length = 2 → S_begins ss T Q QX → B_begins (endsOf T.length Q QX) (startD 5 2 ss T) := by
  intro ss T Q QX hl h
  unfold S_begins at h
  split at h
  · rename_i g d
    obtain ⟨ok, h⟩ := h
    unfold B_begins
    cases d with
    | raw v => simp [okd] at ok
    | fn _ => simp [okd] at ok
    | err _ _ => simp [okd] at ok
    | cl _ _ => simp [okd] at ok
    | scr ns => simp [okd] at ok
    | tup ds =>
      walk_at "dl"
      by_cases q1 : (1 : Int) ≤ ds.length
      rotate_left
      · rw [if_neg q1]
        have e : ds.length = 0 := by omega
        simpa [beginsB, e] using h
      rw [if_pos q1]
      by_cases q2 : (ds.length : Int) ≤ 40
      rotate_left
      · rw [if_pos (by simpa using q2)]
        have e : ¬ (ds.length ≤ 40) := by omega
        simpa [beginsB, e] using h
      rw [if_neg (by simpa using q2)]
      have e1 : decide (1 ≤ ds.length) = true := by simp; omega
      have e2 : decide (ds.length ≤ 40) = true := by simp; omega
      refine dComp_pure (fun d => if !isInt d 0 1000000000000000000000000000000 then some d else none) ds T [some (.dat (.int g)), some (.dat (.tup ds)), none, none, none] [some (.dat (.int g)), some (.dat (.tup ds)), none, none, none] ?_ rfl rfl rfl (by rw [sizeLine_eq]; omega) ?_ ?_
      · intro P hP
        walk_at "dl"
        exact hP
      · intro d hd acc R hR
        have okd' := okd_item (n := 59) (ds := ds) ok hd
        walk_at "dl"
        simp only [S_is_int]
        walk_at "dl"
        refine ⟨okd', ?_⟩
        have := hR [some (.dat (.int g)), some (.dat (.tup ds)), some (.dat d), none, none] rfl
        cases q : isInt d 0 1000000000000000000000000000000 with
        | true =>
          walk_at "dl"
          simpa [q] using this
        | false =>
          walk_at "dl"
          simpa [q] using this
      · walk_at "dl"
        rw [deqs_nil_iff]
        have e3 : (List.filterMap (fun d => if !isInt d 0 1000000000000000000000000000000 then some d else none) ds).isEmpty = ds.all (fun d => isInt d 0 1000000000000000000000000000000) := by
          rw [Bool.eq_iff_iff, List.isEmpty_iff]
          exact filt_none (fun d => isInt d 0 1000000000000000000000000000000) ds
        rw [e3]
        refine ⟨?_, ?_⟩
        · rw [okds_iff]
          intro d hd
          obtain ⟨x, hx, ex⟩ := List.mem_filterMap.mp hd
          have okx' : okds 59 ds = true := ok
          have := (okds_iff 59 ds).mp okx' x hx
          split at ex
          · cases ex
            exact this
          · cases ex
        · cases q : ds.all (fun d => isInt d 0 1000000000000000000000000000000) with
          | false =>
            walk_at "dl"
            cases qi : intsOf ds with
            | none => simpa [beginsB, qi] using h
            | some xs => simpa [beginsB, qi, great_not q qi] using h
          | true =>
            walk_at "dl"
            obtain ⟨xs, rfl, ha⟩ := great_ints ds q
            have hlen : xs.length ≤ 40 := by simpa using e2
            refine dComp_pure (pairLt g) (zipD (xs.map .int) ((xs.drop 1).map .int)) T [some (.dat (.int g)), some (.dat (.tup (xs.map .int))), none, none, none] [some (.dat (.int g)), some (.dat (.tup (xs.map .int))), none, none, none] ?_ rfl rfl rfl ?_ ?_ ?_
            · intro P hP
              walk_at "dl"
              rw [cut_from _ (by omega)]
              exact hP
            · rw [zipD_len, List.length_map, sizeLine_eq]
              omega
            · intro d hd acc R hR
              obtain ⟨a, b, rfl⟩ := zip_mem _ _ _ hd
              walk_at "dl"
              have := hR [some (.dat (.int g)), some (.dat (.tup (xs.map .int))), none, some (.dat (.int a)), some (.dat (.int b))] rfl
              by_cases q : b - a < g
              · rw [if_pos q]
                simpa [pairLt, q] using this
              · rw [if_neg q]
                simpa [pairLt, q] using this
            · walk_at "dl"
              rw [deqs_nil_iff, spaced_zip]
              refine ⟨?_, ?_⟩
              · rw [okds_iff]
                intro d hd
                obtain ⟨x, hx, ex⟩ := List.mem_filterMap.mp hd
                obtain ⟨a, b, rfl⟩ := zip_mem _ _ _ hx
                unfold pairLt at ex
                simp only at ex
                split at ex
                · cases ex
                  rfl
                · cases ex
              · have e1' : decide (1 ≤ xs.length) = true := by simpa using e1
                have e2' : decide (xs.length ≤ 40) = true := by simpa using e2
                simpa only [beginsB, e1', e2', intsOf_map, ha, List.length_map, Bool.true_and] using h
    | _ =>
      walk_at "dl"
      exact h
  · exact h.elim
/-- slots: 0 value -/
def B_need_drill : DS :=
  (sIf (dtNot (dTest (dVal (dCall 1 S_fits (dCons (dDat (dVar 0)) dNil))))) (sRaise "InvalidDrill") sNil)
def S_need_drill : DF := fun ss T Q QX => match ss with
  | [.dat d] => okd 60 d = true ∧ ((fitsB d = true ∧ Q (.dat .non) T) ∨ (fitsB d = false ∧ QX ⟨"InvalidDrill", none⟩ T))
  | _ => False
theorem h_need_drill : ∀ (ss : List Sl) (T : List Ob) (Q : Sl → List Ob → Prop) (QX : Xn → List Ob → Prop), ss.length = 1 → S_need_drill ss T Q QX → B_need_drill (endsOf T.length Q QX) (startD 1 1 ss T) := by
  intro ss T Q QX hl h
  unfold S_need_drill at h
  split at h
  · rename_i d
    obtain ⟨ok, h⟩ := h
    unfold B_need_drill
    walk_at "dl"
    simp only [S_fits]
    refine ⟨ok, ?_⟩
    rcases h with ⟨f, h⟩ | ⟨f, h⟩
    all_goals
      rw [f]
      walk_at "dl"
    · exact h
    · exact h
  · exact h.elim
/-- slots: 0 gap, 1 value -/
def B_need_beginning : DS :=
  (sIf (dtNot (dTest (dVal (dCall 2 S_begins (dCons (dDat (dVar 0)) (dCons (dDat (dVar 1)) dNil)))))) (sRaise "InvalidBeginning") sNil)
def S_need_beginning : DF := fun ss T Q QX => match ss with
  | [.dat (.int g), .dat d] => okd 60 d = true ∧ ((beginsB g d = true ∧ Q (.dat .non) T) ∨ (beginsB g d = false ∧ QX ⟨"InvalidBeginning", none⟩ T))
  | _ => False
theorem h_need_beginning : ∀ (ss : List Sl) (T : List Ob) (Q : Sl → List Ob → Prop) (QX : Xn → List Ob → Prop), ss.length = 2 → S_need_beginning ss T Q QX → B_need_beginning (endsOf T.length Q QX) (startD 2 2 ss T) := by
  intro ss T Q QX hl h
  unfold S_need_beginning at h
  split at h
  · rename_i g d
    obtain ⟨ok, h⟩ := h
    unfold B_need_beginning
    walk_at "dl"
    simp only [S_begins]
    refine ⟨ok, ?_⟩
    rcases h with ⟨f, h⟩ | ⟨f, h⟩
    all_goals
      rw [f]
      walk_at "dl"
    · exact h
    · exact h
  · exact h.elim
set_option Elab.async false
set_option linter.all false
set_option maxRecDepth 100000
set_option maxHeartbeats 4000000
set_option autoImplicit false
/-! The program's defs at data level: running. -/
theorem rangeD_cons {lo hi : Int} (h : lo < hi) : rangeD lo hi = .int lo :: rangeD (lo + 1) hi := by
  unfold rangeD
  rw [show (hi - lo).toNat = (hi - (lo + 1)).toNat + 1 by omega, List.range_succ_eq_map, List.map_cons, List.map_map]
  congr 1
  · simp
  · apply List.map_congr_left
    intro k _
    simp only [Function.comp]
    congr 1
    push_cast
    omega
theorem rangeD_nil {lo hi : Int} (h : hi ≤ lo) : rangeD lo hi = [] := by
  unfold rangeD
  rw [show (hi - lo).toNat = 0 by omega]
  rfl
theorem ints_set (A B : List Int) (x y : Int) : ((A ++ x :: B).map D.int).set A.length (.int y) = (A ++ y :: B).map D.int := by simp
theorem atI_ints (A B : List Int) (x i : Int) (h : i = A.length) : atI (A ++ x :: B) i = some x := by
  rw [h, atI_nat]
  simp
theorem atI_intsP (A B : List Int) (p x i : Int) (h : i = A.length + 1) : atI (A ++ p :: x :: B) i = some x := by
  rw [show A ++ p :: x :: B = (A ++ [p]) ++ x :: B by simp]
  exact atI_ints _ _ _ _ (by rw [h]; simp)
/-- each at least g behind the one before -/
def clo (g : Int) : Int → List Int → List Int
  | _, [] => []
  | p, x :: r => (if p + g > x then p + g else x) :: clo g (if p + g > x then p + g else x) r
theorem clo_len (g : Int) : ∀ (r : List Int) (p : Int), (clo g p r).length = r.length
  | [], _ => rfl
  | x :: r, p => congrArg (· + 1) (clo_len g r _)
def pushedL (g : Int) (xs : List Int) (i : Nat) (s : Int) : List Int := xs.take i ++ match xs.drop i with
  | [] => []
  | x :: r => (x + s) :: clo g (x + s) r
theorem pushedL_at (g s x : Int) (A r : List Int) : pushedL g (A ++ x :: r) A.length s = A ++ (x + s) :: clo g (x + s) r := by simp [pushedL]
theorem pushedL_len (g s : Int) (xs : List Int) (i : Nat) : (pushedL g xs i s).length = xs.length := by
  unfold pushedL
  rw [List.length_append]
  cases h : xs.drop i with
  | nil =>
    have := congrArg List.length h
    simp at this ⊢
    omega
  | cons x r =>
    have := congrArg List.length h
    simp [clo_len] at this ⊢
    omega
theorem split_at {xs : List Int} {i : Nat} (h : i < xs.length) : ∃ A x r, xs = A ++ x :: r ∧ A.length = i := by
  refine ⟨xs.take i, xs[i], xs.drop (i + 1), ?_, by simp; omega⟩
  rw [← List.drop_eq_getElem_cons h, List.take_append_drop]
/-- slots: 0 gap, 1 places, 2 sheep, 3 steps, 4 found, 5 at -/
def B_pushed : DS :=
  (sSeq (sSet 4 (dNewOf (dCons (dDat (dVar 1)) dNil)))
  (sSeq (sSetIx 4 (dVar 2) (dBin gAdd (dIxO 4 (dVar 2)) (dVar 3)))
  (sSeq (sFor (dRng2 (dCons (dDat (dBin gAdd (dVar 2) (dC (.int 1)))) (dCons (dDat (dLenO 4)) dNil))) (gNm 5) (sSetIx 4 (dVar 5) (dCB gMax2 (dCons (dDat (dIxO 4 (dVar 5))) (dCons (dDat (dBin gAdd (dIxO 4 (dBin gSub (dVar 5) (dC (.int 1)))) (dVar 0))) dNil)))))
  (sRet (dDat (dCB gTuple (dCons (dDat (dVar 4)) dNil)))))))
def S_pushed : DF := fun ss T Q _ => ∃ (g : Int) (xs : List Int) (i s : Int), ss = [.dat (.int g), .dat (tupI xs), .dat (.int i), .dat (.int s)] ∧ 0 ≤ i ∧ i < xs.length ∧ xs.length ≤ 1000 ∧ Q (.dat (tupI (pushedL g xs i.toNat s))) T
theorem h_pushed : ∀ (ss : List Sl) (T : List Ob) (Q : Sl → List Ob → Prop) (QX : Xn → List Ob → Prop), ss.length = 4 → S_pushed ss T Q QX → B_pushed (endsOf T.length Q QX) (startD 6 4 ss T) := by
  intro ss T Q QX hl h
  obtain ⟨g, xs, i, s, rfl, h0, h1, hz, h⟩ := h
  obtain ⟨A, x, r, rfl, hA⟩ := split_at (i := i.toNat) (xs := xs) (by omega)
  have hi : i = A.length := by omega
  subst hi
  rw [Int.toNat_natCast, pushedL_at] at h
  unfold B_pushed
  simp only [tupI]
  walk_at "dl"
  rw [atI_ints A r x _ rfl]
  walk_at "dl"
  rw [ixN_pos (by omega) (by simp; omega)]
  walk_at "dl"
  rw [Int.toNat_natCast, ints_set]
  refine ⟨by simp at hz ⊢; omega, ?_⟩
  refine loop_inv (fun ds ρ => ∃ P p rest v, ρ = ⟨T ++ [.lst ((P ++ p :: rest).map .int)], [some (.dat (.int g)), some (.dat (.tup ((A ++ x :: r).map .int))), some (.dat (.int A.length)), some (.dat (.int s)), some (.ob T.length), v]⟩ ∧
    ds = rangeD (P.length + 1) (P.length + 1 + rest.length) ∧ P ++ p :: clo g p rest = A ++ (x + s) :: clo g (x + s) r) ?_ ?_ _ _ ?_
  · rintro d ds ρ ⟨P, p, rest, v, rfl, e, f⟩ N hN
    cases rest with
    | nil =>
      rw [rangeD_nil (by simp)] at e
      cases e
    | cons y rest =>
      rw [rangeD_cons (by simp; omega)] at e
      cases e
      walk_at "dl"
      rw [atI_intsP P rest p y _ rfl]
      walk_at "dl"
      rw [show ((P.length : Int) + 1 - 1) = P.length by omega, atI_ints P (y :: rest) p _ rfl]
      walk_at "dl"
      rw [ixN_pos (by omega) (by simp; omega)]
      walk_at "dl"
      apply hN
      refine ⟨P ++ [p], (if p + g > y then p + g else y), rest, some (.dat (.int (P.length + 1))), ?_, ?_, ?_⟩
      · have e1 : ((P.length : Int) + 1).toNat = (P ++ [p]).length := by simp
        rw [e1, show P ++ p :: y :: rest = (P ++ [p]) ++ y :: rest by simp, ints_set]
      · congr 1
        · simp
        · simp
          omega
      · rw [← f]
        simp [clo]
  · rintro ρ ⟨P, p, rest, v, rfl, e, f⟩
    have hr : rest = [] := by
      cases rest with
      | nil => rfl
      | cons y rest =>
        rw [rangeD_cons (by simp; omega)] at e
        cases e
    subst hr
    walk_at "dl"
    rw [show (P ++ [p]) = A ++ (x + s) :: clo g (x + s) r by simpa [clo] using f]
    exact h
  · refine ⟨A, x + s, r, none, rfl, ?_, rfl⟩
    congr 1
    simp
    omega
set_option Elab.async false
set_option linter.all false
set_option maxRecDepth 100000
set_option maxHeartbeats 4000000
set_option autoImplicit false
/-! The program's defs at data level: courses. -/
/-- a run -/
inductive Rn | to (p : Int) | bark (s : Int) | back (n s : Int) | front (n s : Int)
def Rn.d : Rn → D
  | .to p => .tup [.str "to", .int p]
  | .bark s => .tup [.str "bark", .int s]
  | .back n s => .tup [.str "back", .int n, .int s]
  | .front n s => .tup [.str "front", .int n, .int s]
def Rn.ok : Rn → Prop
  | .to p => 0 ≤ p ∧ p ≤ 1000000000000
  | .bark s => 1 ≤ s ∧ s ≤ 1000000000000
  | .back n s => (0 ≤ n ∧ n ≤ 3) ∧ 1 ≤ s ∧ s ≤ 1000000000000
  | .front n s => (0 ≤ n ∧ n ≤ 3) ∧ 1 ≤ s ∧ s ≤ 1000000000000
theorem isInt_int {i lo hi : Int} (h : lo ≤ i) (h2 : i ≤ hi) : isInt (.int i) lo hi = true := by simp [isInt, h, h2]
theorem Rn.run {r : Rn} (h : r.ok) : isRun r.d = true := by
  cases r with
  | to p => simp [Rn.d, DL.isRun, isInt_int h.1 h.2]
  | bark p => simp [Rn.d, DL.isRun, isInt_int h.1 h.2]
  | back n s => simp [Rn.d, DL.isRun, isInt_int h.1.1 h.1.2, isInt_int h.2.1 h.2.2]
  | front n s => simp [Rn.d, DL.isRun, isInt_int h.1.1 h.1.2, isInt_int h.2.1 h.2.2]
theorem Rn.okd (r : Rn) (n : Nat) : okd (n + 1) r.d = true := by
  cases r <;> simp [Rn.d, DL.okd, okds]
def drD (g : Int) (rs : List Rn) : D := .tup [.int g, .tup (rs.map Rn.d)]
structure DrOk (g : Int) (rs : List Rn) : Prop where
  g1 : 1 ≤ g
  g9 : g ≤ 9
  l8 : rs.length ≤ 8
  ok : ∀ r ∈ rs, r.ok
theorem okd_drD (g : Int) (rs : List Rn) (n : Nat) : okd (n + 3) (drD g rs) = true := by
  simp only [drD, okd, okds, Bool.and_true, Bool.true_and]
  rw [okds_iff]
  intro d hd
  obtain ⟨r, _, rfl⟩ := List.mem_map.mp hd
  exact r.okd n
theorem DrOk.fits {g : Int} {rs : List Rn} (h : DrOk g rs) : fitsB (drD g rs) = true := by
  simp only [drD, fitsB, isInt_int h.g1 h.g9, List.length_map, Bool.true_and, Bool.and_eq_true, decide_eq_true_eq]
  refine ⟨h.l8, ?_⟩
  rw [List.all_eq_true]
  intro d hd
  obtain ⟨r, hr, rfl⟩ := List.mem_map.mp hd
  exact Rn.run (h.ok r hr)
structure BgOk (g : Int) (xs : List Int) : Prop where
  l1 : 1 ≤ xs.length
  l40 : xs.length ≤ 40
  great : ∀ x ∈ xs, 0 ≤ x ∧ x ≤ 1000000000000000000000000000000
  sp : spaced g xs = true
theorem BgOk.begins {g : Int} {xs : List Int} (h : BgOk g xs) : beginsB g (tupI xs) = true := by
  simp only [tupI, beginsB, intsOf_map, List.length_map, Bool.and_eq_true, decide_eq_true_eq]
  refine ⟨⟨h.l1, h.l40⟩, ?_, h.sp⟩
  rw [List.all_eq_true]
  intro x hx
  have := h.great x hx
  simp [inGreat, this]
/-- what the program does with a run -/
def ranL (g : Int) (xs : List Int) : Rn → List Int
  | .to p => pushedL g xs 0 (if p - xs.headD 0 > 0 then p - xs.headD 0 else 0)
  | .bark s => xs.map (· + s)
  | .back n s => if n < xs.length then pushedL g xs n.toNat s else xs
  | .front n s => if 0 ≤ (xs.length : Int) - 1 - n then pushedL g xs ((xs.length : Int) - 1 - n).toNat s else xs
theorem ranL_len (g : Int) (xs : List Int) (r : Rn) : (ranL g xs r).length = xs.length := by
  cases r with
  | to p => simp [ranL, pushedL_len]
  | bark s => simp [ranL]
  | back n s => simp only [ranL]; split <;> simp [pushedL_len]
  | front n s => simp only [ranL]; split <;> simp [pushedL_len]
theorem filterMap_some {α β : Type} (f : α → β) (l : List α) : l.filterMap (fun x => some (f x)) = l.map f := by simp
/-- slots: 0 gap, 1 places, 2 run, 3 sheep, 4 place -/
def B_ran : DS :=
  (sSeq (sIf (dTest (dBin gEq (dBin gIx (dVar 2) (dC (.int 0))) (dC (.str "to")))) (sRet (dDat (dVal (dCall 4 S_pushed (dCons (dDat (dVar 0)) (dCons (dDat (dVar 1)) (dCons (dDat (dC (.int 0))) (dCons (dDat (dCB gMax2 (dCons (dDat (dC (.int 0))) (dCons (dDat (dBin gSub (dBin gIx (dVar 2) (dC (.int 1))) (dBin gIx (dVar 1) (dC (.int 0))))) dNil)))) dNil)))))))) sNil)
  (sSeq (sIf (dTest (dBin gEq (dBin gIx (dVar 2) (dC (.int 0))) (dC (.str "bark")))) (sRet (dDat (dCB gTuple (dCons (dDat (dComp (dSeq (dVar 1)) (gNm 4) dYes (dBin gAdd (dVar 4) (dBin gIx (dVar 2) (dC (.int 1)))) [4])) dNil)))) sNil)
  (sSeq (sSet 3 (dDat (dIf (dTest (dBin gEq (dBin gIx (dVar 2) (dC (.int 0))) (dC (.str "back")))) (dBin gIx (dVar 2) (dC (.int 1))) (dBin gSub (dBin gSub (dCB gLen (dCons (dDat (dVar 1)) dNil)) (dC (.int 1))) (dBin gIx (dVar 2) (dC (.int 1)))))))
  (sSeq (sIf (dtNot (dTest (dChain gLe gLt (dC (.int 0)) (dVar 3) (dCB gLen (dCons (dDat (dVar 1)) dNil))))) (sRet (dDat (dVar 1))) sNil)
  (sRet (dDat (dVal (dCall 4 S_pushed (dCons (dDat (dVar 0)) (dCons (dDat (dVar 1)) (dCons (dDat (dVar 3)) (dCons (dDat (dBin gIx (dVar 2) (dC (.int 2)))) dNil))))))))))))
def S_ran : DF := fun ss T Q _ => ∃ (g : Int) (xs : List Int) (r : Rn), ss = [.dat (.int g), .dat (tupI xs), .dat r.d] ∧ 1 ≤ xs.length ∧ xs.length ≤ 1000 ∧ r.ok ∧ Q (.dat (tupI (ranL g xs r))) T
theorem h_ran : ∀ (ss : List Sl) (T : List Ob) (Q : Sl → List Ob → Prop) (QX : Xn → List Ob → Prop), ss.length = 3 → S_ran ss T Q QX → B_ran (endsOf T.length Q QX) (startD 5 3 ss T) := by
  intro ss T Q QX hl h
  obtain ⟨g, xs, r, rfl, h1, hz, ok, h⟩ := h
  unfold B_ran
  cases r with
  | to p =>
    simp only [Rn.d]
    walk_at "dl"
    obtain ⟨x, r, rfl⟩ : ∃ x r, xs = x :: r := by
      cases xs with
      | nil => simp at h1
      | cons x r => exact ⟨x, r, rfl⟩
    walk_at "dl"
    exact ⟨_, _, _, _, rfl, by omega, by simp, hz, by walk_at "dl"; exact h⟩
  | bark s =>
    simp only [Rn.d]
    walk_at "dl"
    refine dComp_pure (fun d => match d with | .int i => some (.int (i + s)) | _ => none) (xs.map .int) T [some (.dat (.int g)), some (.dat (tupI xs)), some (.dat (.tup [.str "bark", .int s])), none, none] [some (.dat (.int g)), some (.dat (tupI xs)), some (.dat (.tup [.str "bark", .int s])), none, none] ?_ rfl rfl rfl (by rw [List.length_map, sizeLine_eq]; omega) ?_ ?_
    · intro P hP
      walk_at "dl"
      exact hP
    · intro d hd acc R hR
      obtain ⟨x, _, rfl⟩ := List.mem_map.mp hd
      walk_at "dl"
      exact hR _ rfl
    · walk_at "dl"
      rw [List.filterMap_map, show ((fun d => match d with | D.int i => some (D.int (i + s)) | _ => none) ∘ D.int) = fun x => some (D.int (x + s)) from rfl, filterMap_some]
      have e : xs.map (fun x => D.int (x + s)) = (xs.map (· + s)).map D.int := by simp
      rw [e]
      exact h
  | back n s =>
    obtain ⟨⟨n0, n3⟩, s1, s2⟩ := ok
    simp only [Rn.d]
    walk_at "dl"
    rw [if_pos n0]
    simp only [ranL] at h
    by_cases q : n < xs.length
    · rw [if_pos q] at h
      rw [if_neg (by simpa using q)]
      exact ⟨_, _, _, _, rfl, n0, q, hz, by walk_at "dl"; exact h⟩
    · rw [if_neg q] at h
      rw [if_pos (by simpa using q)]
      exact h
  | front n s =>
    obtain ⟨⟨n0, n3⟩, s1, s2⟩ := ok
    simp only [Rn.d]
    walk_at "dl"
    simp only [ranL] at h
    by_cases q : 0 ≤ (xs.length : Int) - 1 - n
    · rw [if_pos q] at h
      rw [if_pos q, if_neg (by simp; omega)]
      exact ⟨_, _, _, _, rfl, q, by omega, hz, by walk_at "dl"; exact h⟩
    · rw [if_neg q] at h
      rw [if_neg q]
      exact h
/-- a course -/
def courseL (g : Int) : List Int → List Rn → List (List Int)
  | _, [] => []
  | xs, r :: rs => ranL g xs r :: courseL g (ranL g xs r) rs
theorem courseL_len (g : Int) : ∀ (rs : List Rn) (xs : List Int), (courseL g xs rs).length = rs.length
  | [], _ => rfl
  | r :: rs, xs => congrArg (· + 1) (courseL_len g rs _)
/-- slots: 0 drill, 1 beginning, 2 found, 3 run -/
def B_course_of : DS :=
  (sSeq (sSet 2 (dNew dNil))
  (sSeq (sFor (dSeq (dBin gIx (dVar 0) (dC (.int 1)))) (gNm 3) (sSeq (sSet 1 (dDat (dVal (dCall 3 S_ran (dCons (dDat (dBin gIx (dVar 0) (dC (.int 0)))) (dCons (dDat (dVar 1)) (dCons (dDat (dVar 3)) dNil)))))))
  (sApp 2 (dVar 1))))
  (sRet (dDat (dVar 2)))))
def S_course_of : DF := fun ss T Q _ => ∃ (g : Int) (xs : List Int) (rs : List Rn), ss = [.dat (drD g rs), .dat (tupI xs)] ∧ 1 ≤ xs.length ∧ xs.length ≤ 1000 ∧ rs.length ≤ 1000 ∧ (∀ r ∈ rs, r.ok) ∧ Q (.dat (.lst ((courseL g xs rs).map tupI))) T
theorem h_course_of : ∀ (ss : List Sl) (T : List Ob) (Q : Sl → List Ob → Prop) (QX : Xn → List Ob → Prop), ss.length = 2 → S_course_of ss T Q QX → B_course_of (endsOf T.length Q QX) (startD 4 2 ss T) := by
  intro ss T Q QX hl h
  obtain ⟨g, xs, rs, rfl, h1, hz, hr, ok, h⟩ := h
  unfold B_course_of
  simp only [drD]
  walk_at "dl"
  refine loop_inv (fun ds ρ => ∃ (done : List (List Int)) (ys : List Int) (rest : List Rn) (v : Option Sl), ρ = ⟨T ++ [.lst (done.map tupI)], [some (.dat (.tup [.int g, .tup (rs.map Rn.d)])), some (.dat (tupI ys)), some (.ob T.length), v]⟩ ∧ ds = rest.map Rn.d ∧ ys.length = xs.length ∧ (∀ r ∈ rest, r.ok) ∧ done ++ courseL g ys rest = courseL g xs rs) ?_ ?_ _ _ ?_
  · rintro d ds ρ ⟨done, ys, rest, v, rfl, e, hy, ho, hc⟩ N hN
    cases rest with
    | nil => cases e
    | cons r rest =>
      cases e
      walk_at "dl"
      refine ⟨g, ys, r, rfl, by omega, by omega, ho r (by simp), ?_⟩
      walk_at "dl"
      have hlen := congrArg List.length hc
      simp only [List.length_append, courseL_len, List.length_cons] at hlen
      refine ⟨by rw [sizeLine_eq]; omega, ?_⟩
      apply hN
      refine ⟨done ++ [ranL g ys r], ranL g ys r, rest, some (.dat r.d), by simp [tupI], rfl, by rw [ranL_len, hy], fun r hr => ho r (by simp [hr]), ?_⟩
      rw [← hc]
      simp [courseL]
  · rintro ρ ⟨done, ys, rest, v, rfl, e, hy, ho, hc⟩
    have hr : rest = [] := by
      cases rest with
      | nil => rfl
      | cons y rest => cases e
    subst hr
    walk_at "dl"
    rw [show done = courseL g xs rs by simpa [courseL] using hc]
    exact h
  · exact ⟨[], xs, rs, none, rfl, rfl, rfl, ok, rfl⟩
/-- slots: 0 drill, 1 beginning -/
def B_course : DS :=
  (sSeq (sDrop (dCall 1 S_need_drill (dCons (dDat (dVar 0)) dNil)))
  (sSeq (sDrop (dCall 2 S_need_beginning (dCons (dDat (dBin gIx (dVar 0) (dC (.int 0)))) (dCons (dDat (dVar 1)) dNil))))
  (sRet (dDat (dVal (dCall 2 S_course_of (dCons (dDat (dVar 0)) (dCons (dDat (dVar 1)) dNil))))))))
def S_course : DF := fun ss T Q _ => ∃ (g : Int) (xs : List Int) (rs : List Rn), ss = [.dat (drD g rs), .dat (tupI xs)] ∧ DrOk g rs ∧ BgOk g xs ∧ Q (.dat (.lst ((courseL g xs rs).map tupI))) T
theorem h_course : ∀ (ss : List Sl) (T : List Ob) (Q : Sl → List Ob → Prop) (QX : Xn → List Ob → Prop), ss.length = 2 → S_course ss T Q QX → B_course (endsOf T.length Q QX) (startD 2 2 ss T) := by
  intro ss T Q QX hl h
  obtain ⟨g, xs, rs, rfl, hd, hb, h⟩ := h
  unfold B_course
  simp only [drD]
  walk_at "dl"
  simp only [S_need_drill]
  refine ⟨okd_drD g rs 57, .inl ⟨hd.fits, ?_⟩⟩
  walk_at "dl"
  simp only [S_need_beginning]
  refine ⟨okd_tupI 59 xs, .inl ⟨hb.begins, ?_⟩⟩
  walk_at "dl"
  refine ⟨g, xs, rs, rfl, hb.l1, Nat.le_trans hb.l40 (by decide), Nat.le_trans hd.l8 (by decide), hd.ok, ?_⟩
  walk_at "dl"
  exact h
theorem course_last (g : Int) : ∀ (rs : List Rn) (xs : List Int), ∃ l, xs :: courseL g xs rs = l ++ [rs.foldl (ranL g) xs]
  | [], xs => ⟨[], rfl⟩
  | r :: rs, xs => by
    obtain ⟨l, e⟩ := course_last g rs (ranL g xs r)
    exact ⟨xs :: l, by simp only [courseL, List.foldl_cons, List.cons_append]; rw [e]⟩
/-- slots: 0 drill, 1 beginning -/
def B_ends : DS :=
  (sSeq (sDrop (dCall 1 S_need_drill (dCons (dDat (dVar 0)) dNil)))
  (sSeq (sDrop (dCall 2 S_need_beginning (dCons (dDat (dBin gIx (dVar 0) (dC (.int 0)))) (dCons (dDat (dVar 1)) dNil))))
  (sRet (dDat (dBin gIx (dBin gAdd (dLst (dCons (dDat (dVar 1)) dNil)) (dVal (dCall 2 S_course_of (dCons (dDat (dVar 0)) (dCons (dDat (dVar 1)) dNil))))) (dUn gNeg (dC (.int 1))))))))
def S_ends : DF := fun ss T Q _ => ∃ (g : Int) (xs : List Int) (rs : List Rn), ss = [.dat (drD g rs), .dat (tupI xs)] ∧ DrOk g rs ∧ BgOk g xs ∧ Q (.dat (tupI (rs.foldl (ranL g) xs))) T
theorem h_ends : ∀ (ss : List Sl) (T : List Ob) (Q : Sl → List Ob → Prop) (QX : Xn → List Ob → Prop), ss.length = 2 → S_ends ss T Q QX → B_ends (endsOf T.length Q QX) (startD 2 2 ss T) := by
  intro ss T Q QX hl h
  obtain ⟨g, xs, rs, rfl, hd, hb, h⟩ := h
  unfold B_ends
  simp only [drD]
  walk_at "dl"
  simp only [S_need_drill]
  refine ⟨okd_drD g rs 57, .inl ⟨hd.fits, ?_⟩⟩
  walk_at "dl"
  simp only [S_need_beginning]
  refine ⟨okd_tupI 59 xs, .inl ⟨hb.begins, ?_⟩⟩
  walk_at "dl"
  refine ⟨g, xs, rs, rfl, hb.l1, Nat.le_trans hb.l40 (by decide), Nat.le_trans hd.l8 (by decide), hd.ok, ?_⟩
  walk_at "dl"
  have hl8 := hd.l8
  refine ⟨by rw [courseL_len, sizeLine_eq]; omega, ?_⟩
  obtain ⟨l, e⟩ := course_last g rs xs
  rw [show D.tup (xs.map .int) :: (courseL g xs rs).map tupI = l.map tupI ++ [tupI (rs.foldl (ranL g) xs)] by rw [dat_tI, ← List.map_cons, e]; simp, atI_last]
  exact h
set_option Elab.async false
set_option linter.all false
set_option maxRecDepth 100000
set_option maxHeartbeats 4000000
set_option autoImplicit false
/-! The law's defs at data level: drawing. -/
theorem log_lt {n k : Nat} (hk : 0 < k) (h : n < 2 ^ k) : n.log2 < k := by
  by_cases z : n = 0
  · subst z
    simpa using hk
  · exact (Nat.log2_lt z).mpr h
theorem cmulW {i j : Int} (hi : i.natAbs < 2 ^ 250) (hj : j.natAbs < 2 ^ 250) : CMulW i j := by
  have h1 := log_lt (by decide) hi
  have h2 := log_lt (by decide) hj
  unfold CMulW
  omega
theorem cdivW {i j : Int} (h : 0 < j) (hj : j.natAbs < 2 ^ 250) : CDivW i j := ⟨h, Nat.lt_trans (log_lt (by decide) hj) (by decide)⟩
def CartV (a b : Int) : Ob := .lst [.int a, .int b]
structure CartOk (a b : Int) : Prop where
  a0 : 0 ≤ a
  aM : a < 10 ^ 240
  b0 : 0 ≤ b
  bM : b < 4294967296
def Cart (T : List Ob) (k : Nat) : Prop := ∃ a b, T[k]? = some (CartV a b) ∧ CartOk a b
def CartTo (T T' : List Ob) (k : Nat) : Prop := ∃ a b, T' = T.set k (CartV a b) ∧ CartOk a b
theorem Cart.lt {T : List Ob} {k : Nat} (h : Cart T k) : k < T.length := by
  obtain ⟨a, b, e, _⟩ := h
  exact (List.getElem?_eq_some_iff.mp e).1
theorem CartTo.cart {T T' : List Ob} {k : Nat} (c : Cart T k) (h : CartTo T T' k) : Cart T' k := by
  obtain ⟨a, b, rfl, ok⟩ := h
  exact ⟨a, b, by rw [List.getElem?_set_self c.lt], ok⟩
theorem CartTo.trans {T T' T2 : List Ob} {k : Nat} (h : CartTo T T' k) (h2 : CartTo T' T2 k) : CartTo T T2 k := by
  obtain ⟨a, b, rfl, ok⟩ := h
  obtain ⟨a2, b2, rfl, ok2⟩ := h2
  exact ⟨a2, b2, by rw [List.set_set], ok2⟩
theorem CartTo.len {T T' : List Ob} {k : Nat} (h : CartTo T T' k) : T'.length = T.length := by
  obtain ⟨a, b, rfl, ok⟩ := h
  simp
theorem Cart.refl {T : List Ob} {k : Nat} (c : Cart T k) : CartTo T T k := by
  obtain ⟨a, b, e, ok⟩ := c
  refine ⟨a, b, ?_, ok⟩
  obtain ⟨h, e'⟩ := List.getElem?_eq_some_iff.mp e
  rw [← e', List.set_getElem_self]
theorem Cart.app {T : List Ob} {k : Nat} (c : Cart T k) (S : List Ob) : Cart (T ++ S) k := by
  obtain ⟨a, b, e, ok⟩ := c
  exact ⟨a, b, by rw [List.getElem?_append_left (List.getElem?_eq_some_iff.mp e).1, e], ok⟩
theorem CartTo.unapp {T T' S : List Ob} {k : Nat} (c : Cart T k) (h : CartTo (T ++ S) T' k) : ∃ T2, T' = T2 ++ S ∧ CartTo T T2 k := by
  obtain ⟨a, b, rfl, ok⟩ := h
  exact ⟨T.set k (CartV a b), by rw [List.set_append_left _ _ c.lt], a, b, rfl, ok⟩
/-- slots: 0 _law_script, 1 _law_k, 2 _law_cell -/
def B_l_cart_of : DS :=
  (sSeq (sSet 2 (dDat (dBin gAdd (dBin gMulB (dC (.int 32003)) (dVar 1)) (dC (.int 79)))))
  (sSeq (sIf (dTest (dBin gLt (dVar 1) (dCB gLen (dCons (dDat (dVar 0)) dNil)))) (sSet 2 (dDat (dBin gMod (dCB gAbs (dCons (dDat (dCB gInt (dCons (dDat (dBin gIx (dVar 0) (dVar 1))) dNil))) dNil)) (dBin gMulB (dBin gMulB (dBin gMulB (dBin gPow (dC (.int 10)) (dC (.int 60))) (dBin gPow (dC (.int 10)) (dC (.int 60)))) (dBin gPow (dC (.int 10)) (dC (.int 60)))) (dBin gPow (dC (.int 10)) (dC (.int 60))))))) (sIf (dTest (dBin gGt (dCB gLen (dCons (dDat (dVar 0)) dNil)) (dC (.int 0)))) (sSet 2 (dDat (dBin gAdd (dVar 2) (dBin gMod (dCB gAbs (dCons (dDat (dCB gInt (dCons (dDat (dBin gIx (dVar 0) (dC (.int 0)))) dNil))) dNil)) (dC (.int 1000357)))))) sNil))
  (sRet (dNew (dCons (dDat (dIf (dTest (dBin gGe (dVar 2) (dBin gPow (dC (.int 10)) (dC (.int 18))))) (dVar 2) (dC (.int 0)))) (dCons (dDat (dBin gAdd (dBin gMod (dCB gInt (dCons (dDat (dBin gAdd (dBin gAdd (dBin gMulB (dBin gMod (dVar 2) (dC (.int 2147482697))) (dC (.int 41))) (dBin gMulB (dC (.int 127)) (dVar 1))) (dC (.int 73)))) dNil)) (dC (.int 2147482697))) (dC (.int 1)))) dNil))))))
def S_l_cart_of : DF := fun ss T Q _ => ∃ (ns : List Int) (k : Int), ss = [.dat (.scr ns), .dat (.int k)] ∧ 0 ≤ k ∧ k ≤ 1000 ∧ ns.length ≤ 1000 ∧ ∀ a b, CartOk a b → Q (.ob T.length) (T ++ [CartV a b])
theorem cart_b (c k : Int) : 0 ≤ (c % 2147482697 * 41 + 127 * k + 73) % 2147482697 + 1 ∧ (c % 2147482697 * 41 + 127 * k + 73) % 2147482697 + 1 < 4294967296 := by omega
theorem h_l_cart_of : ∀ (ss : List Sl) (T : List Ob) (Q : Sl → List Ob → Prop) (QX : Xn → List Ob → Prop), ss.length = 2 → S_l_cart_of ss T Q QX → B_l_cart_of (endsOf T.length Q QX) (startD 3 2 ss T) := by
  intro ss T Q QX hl h
  obtain ⟨ns, k, rfl, k0, k1, hn, h⟩ := h
  unfold B_l_cart_of
  walk_at "dl"
  refine ⟨cmulW (by decide) (by omega), ?_⟩
  have fin : ∀ c : Int, 0 ≤ c → c < 10 ^ 240 → (CPow 10 18 ∧ (if (1000000000000000000 : Int) ≤ c then CMulW (c % 2147482697) 41 ∧ CMulW 127 k ∧ Q (.ob T.length) (T ++ [CartV c ((c % 2147482697 * 41 + 127 * k + 73) % 2147482697 + 1)]) else CMulW (c % 2147482697) 41 ∧ CMulW 127 k ∧ Q (.ob T.length) (T ++ [CartV 0 ((c % 2147482697 * 41 + 127 * k + 73) % 2147482697 + 1)]))) := by
    intro c c0 c1
    refine ⟨by unfold CPow; decide, ?_⟩
    have e1 : CMulW (c % 2147482697) 41 := cmulW (by omega) (by decide)
    have e2 : CMulW 127 k := cmulW (by decide) (by omega)
    split
    · exact ⟨e1, e2, h _ _ ⟨c0, c1, (cart_b c k).1, (cart_b c k).2⟩⟩
    · exact ⟨e1, e2, h _ _ ⟨by decide, by decide, (cart_b c k).1, (cart_b c k).2⟩⟩
  have p60 : CPow 10 60 := by unfold CPow; decide
  simp only [CartV] at fin
  by_cases q : k < ns.length
  · rw [if_pos q, atI_some k0 q]
    walk_at "dl"
    generalize ns[k.toNat] = n
    refine ⟨p60, p60, by unfold CMulW; decide +kernel, p60, by unfold CMulW; decide +kernel, p60, by unfold CMulW; decide +kernel, ?_⟩
    exact fin _ (Int.emod_nonneg _ (by decide)) (by simp only [Int.reducePow]; exact Int.emod_lt_of_pos _ (by decide))
  · rw [if_neg q]
    by_cases q0 : (0 : Int) < ns.length
    · rw [if_pos q0, atI_some (by omega) q0]
      walk_at "dl"
      refine fin _ (by split <;> omega) ?_
      simp only [Int.reducePow]
      split <;> omega
    · rw [if_neg q0]
      refine fin _ (by omega) ?_
      simp only [Int.reducePow]
      omega
/-- slots: 0 _law_cart, 1 _law_many, 2 _law_found, 3 _law_wide -/
def B_l_take : DS :=
  (sSeq (sIf (dTest (dBin gGt (dIxO 0 (dC (.int 0))) (dC (.int 0)))) (sSeq (sSet 2 (dDat (dBin gMod (dCB gInt (dCons (dDat (dIxO 0 (dC (.int 0)))) dNil)) (dVar 1))))
  (sSeq (sSetIx 0 (dC (.int 0)) (dBin gDiv (dIxO 0 (dC (.int 0))) (dVar 1)))
  (sRet (dDat (dVar 2))))) sNil)
  (sSeq (sTo (dTup (dCons (dDat (dC (.int 0))) (dCons (dDat (dC (.int 1))) dNil))) (gTp 2 (gCs (gNm 2) (gCs (gNm 3) gNl))))
  (sSeq (sWhile (dtOr (dTest (dBin gLt (dVar 3) (dVar 1))) (dTest (dBin gEq (dVar 3) (dC (.int 1))))) (sSeq (sSetIx 0 (dC (.int 1)) (dBin gMod (dCB gInt (dCons (dDat (dBin gAdd (dBin gMulB (dIxO 0 (dC (.int 1))) (dC (.int 16741))) (dC (.int 137)))) dNil)) (dC (.int 2147482697))))
  (sSeq (sSet 2 (dDat (dBin gAdd (dBin gMulB (dVar 2) (dC (.int 8192))) (dBin gMod (dCB gInt (dCons (dDat (dBin gDiv (dIxO 0 (dC (.int 1))) (dC (.int 65729)))) dNil)) (dC (.int 8192))))))
  (sSet 3 (dDat (dBin gMulB (dVar 3) (dC (.int 8192))))))))
  (sRet (dDat (dBin gMod (dCB gInt (dCons (dDat (dVar 2)) dNil)) (dVar 1)))))))
def S_l_take : DF := fun ss T Q _ => ∃ (k : Nat) (n : Int), ss = [.ob k, .dat (.int n)] ∧ Cart T k ∧ 0 < n ∧ n ≤ 10 ^ 60 ∧ ∀ r T', 0 ≤ r → r < n → CartTo T T' k → Q (.dat (.int r)) T'
theorem h_l_take : ∀ (ss : List Sl) (T : List Ob) (Q : Sl → List Ob → Prop) (QX : Xn → List Ob → Prop), ss.length = 2 → S_l_take ss T Q QX → B_l_take (endsOf T.length Q QX) (startD 4 2 ss T) := by
  intro ss T Q QX hl h
  obtain ⟨k, n, rfl, c, n0, n1, h⟩ := h
  simp only [Int.reducePow] at n1
  have hk := c.lt
  obtain ⟨a, b, e, ok⟩ := c
  unfold B_l_take
  walk_at "dl"
  have eT : T.take T.length = T := List.take_length
  have el : ∀ x : Ob, (T.set k x)[k]? = some x := fun x => List.getElem?_set_self hk
  have et : ∀ x : Ob, (T.set k x).take T.length = T.set k x := fun x => by rw [List.take_of_length_le (by simp)]
  simp only [e, CartV]
  walk_at "dl"
  by_cases q : 0 < a
  · rw [if_pos q]
    refine ⟨n0, cdivW n0 (by omega), ?_⟩
    rw [et]
    refine h _ _ (Int.emod_nonneg _ (by omega)) (Int.emod_lt_of_pos _ n0) ⟨a / n, b, rfl, ?_⟩
    refine ⟨Int.ediv_nonneg ok.a0 (by omega), ?_, ok.b0, ok.bM⟩
    exact Int.lt_of_le_of_lt (Int.ediv_le_self _ ok.a0) ok.aM
  · rw [if_neg q]
    refine ⟨fun m ρ => ∃ a b f w, ρ = ⟨T.set k (CartV a b), [some (.ob k), some (.dat (.int n)), some (.dat (.int f)), some (.dat (.int w))]⟩ ∧ CartOk a b ∧ 0 ≤ f ∧ f < w ∧ m = (n + 2 - w).toNat, ⟨_, a, b, 0, 1, ?_, ok, by omega, by omega, rfl⟩, ?_⟩
    · congr 1
      obtain ⟨h1, h2⟩ := List.getElem?_eq_some_iff.mp e
      rw [← h2, List.set_getElem_self]
    · rintro m ρ ⟨a, b, f, w, rfl, ok, f0, fw, rfl⟩
      walk_at "dl"
      simp only [el, CartV]
      walk_at "dl"
      have c1 : CMulW b 16741 := cmulW (by have := ok.b0; have := ok.bM; omega) (by decide)
      have d1 : CDivW ((b * 16741 + 137) % 2147482697) 65729 := cdivW (by decide) (by decide)
      have go : (w < n ∨ w = 1) → CMulW b 16741 ∧ CMulW f 8192 ∧ CDivW ((b * 16741 + 137) % 2147482697) 65729 ∧ CMulW w 8192 ∧ ∃ m', m' < (n + 2 - w).toNat ∧ ∃ a_1 b_1 f_1 w_1, (⟨T.set k (.lst [.int a, .int ((b * 16741 + 137) % 2147482697)]), [some (.ob k), some (.dat (.int n)), some (.dat (.int (f * 8192 + (b * 16741 + 137) % 2147482697 / 65729 % 8192))), some (.dat (.int (w * 8192)))]⟩ : Env) = ⟨T.set k (.lst [.int a_1, .int b_1]), [some (.ob k), some (.dat (.int n)), some (.dat (.int f_1)), some (.dat (.int w_1))]⟩ ∧ CartOk a_1 b_1 ∧ 0 ≤ f_1 ∧ f_1 < w_1 ∧ m' = (n + 2 - w_1).toNat := by
        intro hw
        refine ⟨c1, cmulW (by omega) (by decide), d1, cmulW (by omega) (by decide), _, ?_, _, _, _, _, rfl, ⟨ok.a0, ok.aM, by omega, by omega⟩, by omega, by omega, rfl⟩
        omega
      have done : 0 < n ∧ Q (.dat (.int (f % n))) (T.set k (.lst [.int a, .int b])) := ⟨n0, h _ _ (Int.emod_nonneg _ (by omega)) (Int.emod_lt_of_pos _ n0) ⟨a, b, rfl, ok⟩⟩
      by_cases q1 : w < n
      · rw [if_pos q1]
        have := go (.inl q1)
        exact this
      · rw [if_neg q1]
        by_cases q2 : w = 1
        · rw [if_pos (by simpa using q2)]
          exact go (.inr q2)
        · rw [if_neg (by simpa using q2), et]
          exact done
set_option Elab.async false
set_option linter.all false
set_option maxRecDepth 100000
set_option maxHeartbeats 4000000
set_option autoImplicit false
/-! The law's defs at data level: drills and rooms drawn. -/
/-- slots: 0 _law_cart, 1 _law_things -/
def B_l_any : DS :=
  (sRet (dDat (dBin gIx (dVar 1) (dVal (dCall 2 S_l_take (dCons (dVarL 0) (dCons (dDat (dCB gLen (dCons (dDat (dVar 1)) dNil))) dNil)))))))
def S_l_any : DF := fun ss T Q _ => ∃ (k : Nat) (d : D) (ds : List D), ss = [.ob k, .dat d] ∧ (d = .lst ds ∨ d = .tup ds) ∧ Cart T k ∧ 0 < ds.length ∧ ds.length ≤ 1000 ∧ ∀ x T', x ∈ ds → CartTo T T' k → Q (.dat x) T'
theorem h_l_any : ∀ (ss : List Sl) (T : List Ob) (Q : Sl → List Ob → Prop) (QX : Xn → List Ob → Prop), ss.length = 2 → S_l_any ss T Q QX → B_l_any (endsOf T.length Q QX) (startD 2 2 ss T) := by
  intro ss T Q QX hl h
  obtain ⟨k, d, ds, rfl, hd, c, l0, l1, h⟩ := h
  unfold B_l_any
  rcases hd with rfl | rfl
  all_goals
    walk_at "dl"
    refine ⟨k, ds.length, rfl, c, by omega, by simp only [Int.reducePow]; omega, fun r T' r0 r1 ct => ?_⟩
    walk_at "dl"
    rw [atI_some r0 r1, take_len ct.len]
    exact h _ _ (List.getElem_mem _) ct
/-- slots: 0 _law_cart, 1 _law_wide, 2 _law_word, 3 _law_most -/
def B_l_deed : DS :=
  (sSeq (sPar2 2 3 (dDat (dVal (dCall 2 S_l_any (dCons (dVarL 0) (dCons (dDat (dLst (dCons (dDat (dC (.str "to"))) (dCons (dDat (dC (.str "back"))) (dCons (dDat (dC (.str "back"))) (dCons (dDat (dC (.str "front"))) (dCons (dDat (dC (.str "front"))) (dCons (dDat (dC (.str "bark"))) dNil)))))))) dNil))))) (dDat (dVal (dCall 2 S_l_any (dCons (dVarL 0) (dCons (dDat (dLst (dCons (dDat (dC (.int 3))) (dCons (dDat (dC (.int 3))) (dCons (dDat (dVar 1)) dNil))))) dNil))))))
  (sSeq (sIf (dTest (dBin gEq (dVar 2) (dC (.str "to")))) (sRet (dDat (dTup (dCons (dDat (dVar 2)) (dCons (dDat (dVal (dCall 2 S_l_take (dCons (dVarL 0) (dCons (dDat (dBin gAdd (dVar 3) (dC (.int 1)))) dNil))))) dNil))))) sNil)
  (sSeq (sIf (dTest (dBin gEq (dVar 2) (dC (.str "bark")))) (sRet (dDat (dTup (dCons (dDat (dVar 2)) (dCons (dDat (dBin gAdd (dC (.int 1)) (dVal (dCall 2 S_l_take (dCons (dVarL 0) (dCons (dDat (dVar 3)) dNil)))))) dNil))))) sNil)
  (sRet (dDat (dTup (dCons (dDat (dVar 2)) (dCons (dDat (dVal (dCall 2 S_l_any (dCons (dVarL 0) (dCons (dDat (dLst (dCons (dDat (dC (.int 0))) (dCons (dDat (dC (.int 0))) (dCons (dDat (dC (.int 1))) (dCons (dDat (dC (.int 1))) (dCons (dDat (dC (.int 2))) (dCons (dDat (dC (.int 3))) dNil)))))))) dNil))))) (dCons (dDat (dBin gAdd (dC (.int 1)) (dVal (dCall 2 S_l_take (dCons (dVarL 0) (dCons (dDat (dVar 3)) dNil)))))) dNil)))))))))
def S_l_deed : DF := fun ss T Q _ => ∃ (k : Nat) (w : Int), ss = [.ob k, .dat (.int w)] ∧ Cart T k ∧ 1 ≤ w ∧ w ≤ 1000000000000 ∧ ∀ (r : Rn) T', r.ok → CartTo T T' k → Q (.dat r.d) T'
theorem h_l_deed : ∀ (ss : List Sl) (T : List Ob) (Q : Sl → List Ob → Prop) (QX : Xn → List Ob → Prop), ss.length = 2 → S_l_deed ss T Q QX → B_l_deed (endsOf T.length Q QX) (startD 4 2 ss T) := by
  intro ss T Q QX hl h
  obtain ⟨k, w, rfl, c, w0, w1, h⟩ := h
  unfold B_l_deed
  walk_at "dl"
  refine ⟨k, _, _, rfl, .inl rfl, c, by decide, by decide, fun x T1 hx c1 => ?_⟩
  have k1 := c1.cart c
  walk_at "dl"
  refine ⟨k, _, _, rfl, .inl rfl, k1, by simp, by simp, fun y T2 hy c2 => ?_⟩
  have k2 := c2.cart k1
  obtain ⟨m, rfl, m1, m2⟩ : ∃ m : Int, y = .int m ∧ 1 ≤ m ∧ m ≤ 1000000000000 := by
    simp only [List.mem_cons, List.not_mem_nil, or_false] at hy
    rcases hy with rfl | rfl | rfl
    · exact ⟨3, rfl, by decide, by decide⟩
    · exact ⟨3, rfl, by decide, by decide⟩
    · exact ⟨w, rfl, w0, w1⟩
  have c12 := c1.trans c2
  simp only [List.mem_cons, List.not_mem_nil, or_false] at hx
  rcases hx with rfl | rfl | rfl | rfl | rfl | rfl
  all_goals walk_at "dl"
  · refine ⟨k, _, rfl, k2, by omega, by simp only [Int.reducePow]; omega, fun s T4 s0 s1 c4 => ?_⟩
    walk_at "dl"
    rw [take_len (c12.trans c4).len]
    exact h (.to s) T4 ⟨s0, by omega⟩ (c12.trans c4)
  · refine ⟨k, _, _, rfl, .inl rfl, k2, by decide, by decide, fun z T3 hz c3 => ?_⟩
    obtain ⟨n, rfl, n1, n3⟩ : ∃ n : Int, z = .int n ∧ 0 ≤ n ∧ n ≤ 3 := by
      simp only [List.mem_cons, List.not_mem_nil, or_false] at hz
      rcases hz with rfl | rfl | rfl | rfl | rfl | rfl
      all_goals exact ⟨_, rfl, by decide, by decide⟩
    walk_at "dl"
    refine ⟨k, m, rfl, c3.cart k2, by omega, by simp only [Int.reducePow]; omega, fun s T4 s0 s1 c4 => ?_⟩
    walk_at "dl"
    rw [take_len ((c12.trans c3).trans c4).len]
    exact h (.back n (1 + s)) T4 ⟨⟨n1, n3⟩, by omega, by omega⟩ ((c12.trans c3).trans c4)
  · refine ⟨k, _, _, rfl, .inl rfl, k2, by decide, by decide, fun z T3 hz c3 => ?_⟩
    obtain ⟨n, rfl, n1, n3⟩ : ∃ n : Int, z = .int n ∧ 0 ≤ n ∧ n ≤ 3 := by
      simp only [List.mem_cons, List.not_mem_nil, or_false] at hz
      rcases hz with rfl | rfl | rfl | rfl | rfl | rfl
      all_goals exact ⟨_, rfl, by decide, by decide⟩
    walk_at "dl"
    refine ⟨k, m, rfl, c3.cart k2, by omega, by simp only [Int.reducePow]; omega, fun s T4 s0 s1 c4 => ?_⟩
    walk_at "dl"
    rw [take_len ((c12.trans c3).trans c4).len]
    exact h (.back n (1 + s)) T4 ⟨⟨n1, n3⟩, by omega, by omega⟩ ((c12.trans c3).trans c4)
  · refine ⟨k, _, _, rfl, .inl rfl, k2, by decide, by decide, fun z T3 hz c3 => ?_⟩
    obtain ⟨n, rfl, n1, n3⟩ : ∃ n : Int, z = .int n ∧ 0 ≤ n ∧ n ≤ 3 := by
      simp only [List.mem_cons, List.not_mem_nil, or_false] at hz
      rcases hz with rfl | rfl | rfl | rfl | rfl | rfl
      all_goals exact ⟨_, rfl, by decide, by decide⟩
    walk_at "dl"
    refine ⟨k, m, rfl, c3.cart k2, by omega, by simp only [Int.reducePow]; omega, fun s T4 s0 s1 c4 => ?_⟩
    walk_at "dl"
    rw [take_len ((c12.trans c3).trans c4).len]
    exact h (.front n (1 + s)) T4 ⟨⟨n1, n3⟩, by omega, by omega⟩ ((c12.trans c3).trans c4)
  · refine ⟨k, _, _, rfl, .inl rfl, k2, by decide, by decide, fun z T3 hz c3 => ?_⟩
    obtain ⟨n, rfl, n1, n3⟩ : ∃ n : Int, z = .int n ∧ 0 ≤ n ∧ n ≤ 3 := by
      simp only [List.mem_cons, List.not_mem_nil, or_false] at hz
      rcases hz with rfl | rfl | rfl | rfl | rfl | rfl
      all_goals exact ⟨_, rfl, by decide, by decide⟩
    walk_at "dl"
    refine ⟨k, m, rfl, c3.cart k2, by omega, by simp only [Int.reducePow]; omega, fun s T4 s0 s1 c4 => ?_⟩
    walk_at "dl"
    rw [take_len ((c12.trans c3).trans c4).len]
    exact h (.front n (1 + s)) T4 ⟨⟨n1, n3⟩, by omega, by omega⟩ ((c12.trans c3).trans c4)
  · refine ⟨k, _, rfl, k2, by omega, by simp only [Int.reducePow]; omega, fun s T4 s0 s1 c4 => ?_⟩
    walk_at "dl"
    rw [take_len (c12.trans c4).len]
    exact h (.bark (1 + s)) T4 ⟨by omega, by omega⟩ (c12.trans c4)
/-- slots: 0 _law_cart, 1 _law_most, 2 _law_wide, 3 _law_turn -/
def B_l_deeds : DS :=
  (sRet (dDat (dCB gTuple (dCons (dDat (dComp (dRng1 (dCons (dDat (dVal (dCall 2 S_l_take (dCons (dVarL 0) (dCons (dDat (dBin gAdd (dVar 1) (dC (.int 1)))) dNil))))) dNil)) (gNm 3) dYes (dVal (dCall 2 S_l_deed (dCons (dVarL 0) (dCons (dDat (dVar 2)) dNil)))) [3])) dNil))))
def S_l_deeds : DF := fun ss T Q _ => ∃ (k : Nat) (m w : Int), ss = [.ob k, .dat (.int m), .dat (.int w)] ∧ Cart T k ∧ 0 ≤ m ∧ m ≤ 1000 ∧ 1 ≤ w ∧ w ≤ 1000000000000 ∧ ∀ (rs : List Rn) T', (rs.length : Int) ≤ m → (∀ r ∈ rs, r.ok) → CartTo T T' k → Q (.dat (.tup (rs.map Rn.d))) T'
theorem h_l_deeds : ∀ (ss : List Sl) (T : List Ob) (Q : Sl → List Ob → Prop) (QX : Xn → List Ob → Prop), ss.length = 3 → S_l_deeds ss T Q QX → B_l_deeds (endsOf T.length Q QX) (startD 4 3 ss T) := by
  intro ss T Q QX hl h
  obtain ⟨k, m, w, rfl, c, m0, m1, w0, w1, h⟩ := h
  unfold B_l_deeds
  walk_at "dl"
  rw [dComp_eq]
  walk_at "dl"
  refine ⟨k, _, rfl, c, by omega, by simp only [Int.reducePow]; omega, fun r T1 r0 r1 c1 => ?_⟩
  walk_at "dl"
  have k1 := c1.cart c
  have hk := k1.lt
  refine ⟨by omega, ?_⟩
  have hrl : (rangeD 0 r).length = r.toNat := by rw [rangeD_len]; simp
  refine compK_any (fun ds acc T' => CartTo T T' k ∧ ∃ rs : List Rn, acc = rs.map Rn.d ∧ (∀ r ∈ rs, r.ok) ∧ ds.length + rs.length = r.toNat) [some (.ob k), some (.dat (.int m)), some (.dat (.int w)), none] rfl rfl ?_ ?_ ⟨c1, [], rfl, by simp, by simp [hrl]⟩ ?_ ?_
  · simp [lowS, hk]
  · rw [hrl, sizeLine_eq]
    omega
  · rintro d ds acc T' hl hz ⟨c2, rs, rfl, ok, e⟩ R hR
    walk_at "dl"
    have k2 := c2.cart c
    refine ⟨k, w, rfl, k2.app _, w0, w1, fun x T'' xok c3 => ?_⟩
    obtain ⟨T3, rfl, c4⟩ := c3.unapp k2
    walk_at "dl"
    refine hR (some x.d) T3 _ (c4.len.trans hl) ⟨c2.trans c4, rs ++ [x], by simp, ?_, ?_⟩ rfl
    · intro r hr
      rcases List.mem_append.mp hr with hr | hr
      · exact ok r hr
      · rw [List.mem_singleton.mp hr]
        exact xok
    · simp at e ⊢
      omega
  · rintro acc T' hl ⟨c2, rs, rfl, ok, e⟩
    walk_at "dl"
    rw [take_len c2.len]
    refine h rs T' ?_ ok c2
    simp at e
    omega
/-- slots: 0 _law_cart, 1 _law_most -/
def B_l_work : DS :=
  (sRet (dDat (dTup (dCons (dDat (dBin gAdd (dC (.int 1)) (dVal (dCall 2 S_l_take (dCons (dVarL 0) (dCons (dDat (dC (.int 4))) dNil)))))) (dCons (dDat (dVal (dCall 3 S_l_deeds (dCons (dVarL 0) (dCons (dDat (dVar 1)) (dCons (dDat (dVal (dCall 2 S_l_any (dCons (dVarL 0) (dCons (dDat (dLst (dCons (dDat (dC (.int 6))) (dCons (dDat (dC (.int 12))) (dCons (dDat (dBin gPow (dC (.int 10)) (dC (.int 12)))) dNil))))) dNil))))) dNil)))))) dNil)))))
def S_l_work : DF := fun ss T Q _ => ∃ (k : Nat) (m : Int), ss = [.ob k, .dat (.int m)] ∧ Cart T k ∧ 0 ≤ m ∧ m ≤ 1000 ∧ ∀ (g : Int) (rs : List Rn) T', 1 ≤ g → g ≤ 4 → (rs.length : Int) ≤ m → (∀ r ∈ rs, r.ok) → CartTo T T' k → Q (.dat (drD g rs)) T'
theorem h_l_work : ∀ (ss : List Sl) (T : List Ob) (Q : Sl → List Ob → Prop) (QX : Xn → List Ob → Prop), ss.length = 2 → S_l_work ss T Q QX → B_l_work (endsOf T.length Q QX) (startD 2 2 ss T) := by
  intro ss T Q QX hl h
  obtain ⟨k, m, rfl, c, m0, m1, h⟩ := h
  unfold B_l_work
  walk_at "dl"
  refine ⟨k, _, rfl, c, by omega, by simp only [Int.reducePow]; omega, fun r T1 r0 r1 c1 => ?_⟩
  walk_at "dl"
  have k1 := c1.cart c
  refine ⟨by unfold CPow; decide, k, _, _, rfl, .inl rfl, k1, by simp, by simp, fun x T2 hx c2 => ?_⟩
  have k2 := c2.cart k1
  obtain ⟨w, rfl, w0, w1⟩ : ∃ n : Int, x = .int n ∧ 1 ≤ n ∧ n ≤ 1000000000000 := by
    simp only [List.mem_cons, List.not_mem_nil, or_false] at hx
    rcases hx with rfl | rfl | rfl
    all_goals exact ⟨_, rfl, by decide, by decide⟩
  walk_at "dl"
  refine ⟨k, m, w, rfl, k2, m0, m1, w0, w1, fun rs T3 hr ok c3 => ?_⟩
  walk_at "dl"
  rw [take_len ((c1.trans c2).trans c3).len]
  exact h (1 + r) rs T3 (by omega) (by omega) hr ok ((c1.trans c2).trans c3)
/-- the places of rooms -/
def atL (g : Int) : Nat → List Int → List Int
  | _, [] => []
  | i, x :: r => (x + (i : Int) * g) :: atL g (i + 1) r
theorem atL_len (g : Int) : ∀ (xs : List Int) (i : Nat), (atL g i xs).length = xs.length
  | [], _ => rfl
  | _ :: r, i => congrArg (· + 1) (atL_len g r (i + 1))
def atD (g : Int) (d : D) : Option D := match d with
  | .tup [.int i, .int x] => some (.int (x + i * g))
  | _ => none
theorem atD_enum (g : Int) : ∀ (xs : List Int) (i : Nat), (enumD i (xs.map .int)).filterMap (atD g) = (atL g i xs).map .int
  | [], _ => rfl
  | x :: r, i => by
    show (D.tup [.int i, .int x] :: enumD (i + 1) (r.map .int)).filterMap (atD g) = _
    rw [List.filterMap_cons, atD_enum g r (i + 1)]
    rfl
theorem enum_mem : ∀ (xs : List Int) (n : Nat) (d : D), d ∈ enumD n (xs.map .int) → ∃ (i : Nat) (x : Int), d = .tup [.int i, .int x] ∧ i < n + xs.length
  | [], _, d, h => by simp [enumD] at h
  | x :: xs, n, d, h => by
    rcases List.mem_cons.mp h with rfl | h
    · exact ⟨n, x, rfl, by simp⟩
    · obtain ⟨i, y, e, l⟩ := enum_mem xs (n + 1) d h
      exact ⟨i, y, e, by simp at l ⊢; omega⟩
/-- slots: 0 _law_gap, 1 _law_rooms_here, 2 _law_at_here, 3 _law_room -/
def B_l_at : DS :=
  (sRet (dDat (dCB gTuple (dCons (dDat (dComp (dEnum (dCons (dDat (dVar 1)) dNil)) (gTp 2 (gCs (gNm 2) (gCs (gNm 3) gNl))) dYes (dBin gAdd (dVar 3) (dBin gMulB (dVar 2) (dVar 0))) [2, 3])) dNil))))
def S_l_at : DF := fun ss T Q _ => ∃ (g : Int) (xs : List Int), ss = [.dat (.int g), .dat (tupI xs)] ∧ g.natAbs < 2 ^ 200 ∧ xs.length ≤ 1000 ∧ Q (.dat (tupI (atL g 0 xs))) T
theorem h_l_at : ∀ (ss : List Sl) (T : List Ob) (Q : Sl → List Ob → Prop) (QX : Xn → List Ob → Prop), ss.length = 2 → S_l_at ss T Q QX → B_l_at (endsOf T.length Q QX) (startD 4 2 ss T) := by
  intro ss T Q QX hl h
  obtain ⟨g, xs, rfl, hg, hx, h⟩ := h
  unfold B_l_at
  walk_at "dl"
  rw [dComp_eq]
  walk_at "dl"
  refine compK_pure (atD g) [some (.dat (.int g)), some (.dat (tupI xs)), none, none] rfl rfl rfl (by rw [enumD_len, List.length_map, sizeLine_eq]; omega) ?_ ?_
  · intro d hd acc R hR
    obtain ⟨i, x, rfl, hi⟩ := enum_mem _ _ _ hd
    walk_at "dl"
    exact ⟨cmulW (by omega) (by omega), hR _ rfl⟩
  · walk_at "dl"
    rw [atD_enum]
    exact h
set_option Elab.async false
set_option linter.all false
set_option maxRecDepth 100000
set_option maxHeartbeats 4000000
set_option autoImplicit false
/-! Rooms that are drawn; the places of such. -/
/-- rooms that are drawn -/
structure RoomsOk (w : Int) (xs : List Int) : Prop where
  sp : spaced 0 xs = true
  r : ∀ x ∈ xs, 0 ≤ x ∧ x ≤ w * xs.length
theorem BgOk.at {g w : Int} {xs : List Int} (h : RoomsOk w xs) (g1 : 1 ≤ g) (g9 : g ≤ 9) (l1 : 1 ≤ xs.length) (l40 : xs.length ≤ 40) (hw : w ≤ 10 ^ 28) (w0 : 0 ≤ w) : BgOk g (atL g 0 xs) := by
  have key : ∀ (xs : List Int) (i : Nat), spaced 0 xs = true → spaced g (atL g i xs) = true := by
    intro xs
    induction xs with
    | nil => exact fun _ _ => rfl
    | cons x r ih =>
      intro i sp
      cases r with
      | nil => rfl
      | cons y r =>
        simp only [spaced, Bool.and_eq_true, decide_eq_true_eq] at sp
        simp only [atL, spaced, Bool.and_eq_true, decide_eq_true_eq]
        refine ⟨?_, by simpa [atL] using ih (i + 1) sp.2⟩
        push_cast
        rw [Int.add_mul, Int.one_mul]
        omega
  have bd : ∀ (xs : List Int) (i : Nat), (i : Int) + xs.length ≤ 40 → (∀ x ∈ xs, 0 ≤ x ∧ x ≤ 10 ^ 28 * 40) → ∀ y ∈ atL g i xs, 0 ≤ y ∧ y ≤ 1000000000000000000000000000000 := by
    intro xs
    induction xs with
    | nil => intro i _ _ y hy; simp [atL] at hy
    | cons x r ih =>
      intro i hi hx y hy
      simp only [List.length_cons] at hi
      rcases List.mem_cons.mp hy with rfl | hy
      · have h1 := hx x (by simp)
        simp only [Int.reducePow, Int.reduceMul] at h1
        have h2 : (i : Int) * g ≤ 40 * 9 := Int.mul_le_mul (by omega) g9 (by omega) (by omega)
        have h3 : 0 ≤ (i : Int) * g := Int.mul_nonneg (by omega) (by omega)
        omega
      · exact ih (i + 1) (by omega) (fun x h => hx x (by simp [h])) y hy
  refine ⟨by rw [atL_len]; exact l1, by rw [atL_len]; exact l40, bd xs 0 (by omega) fun x hx => ?_, key xs 0 h.sp⟩
  have := h.r x hx
  refine ⟨this.1, Int.le_trans this.2 (Int.mul_le_mul hw (by omega) (by omega) (by decide))⟩
set_option Elab.async false
set_option linter.all false
set_option maxRecDepth 100000
set_option maxHeartbeats 4000000
set_option autoImplicit false
/-! The program's defs at data level: what a drill does to rooms, as maps. -/
def imax (a b : Int) : Int := if b > a then b else a
/-- of each sheep: the least room, and what is added to each sheep's room -/
structure Mp where
  l : Nat → Int
  m : Nat → Nat → Int
def pairD (l : Int) (ms : List Int) : D := .tup [.int l, tupI ms]
def Mp.row (f : Mp) (j : Nat) : List Int := (List.range (j + 1)).map (f.m j)
def Mp.d (f : Mp) (j : Nat) : D := pairD (f.l j) (f.row j)
def Mp.D (f : Mp) (n : Nat) : List D := (List.range n).map f.d
theorem Mp.row_len (f : Mp) (j : Nat) : (f.row j).length = j + 1 := by simp [Mp.row]
theorem Mp.D_len (f : Mp) (n : Nat) : (f.D n).length = n := by simp [Mp.D]
theorem Mp.D_at (f : Mp) {n j : Nat} (h : j < n) : (f.D n)[j]? = some (f.d j) := by simp [Mp.D, h]
def mp0 : Mp := ⟨fun _ => 0, fun _ _ => 0⟩
/-- sheep k is moved by s -/
def moved (k : Nat) (s : Int) (f : Mp) : Mp :=
  ⟨fun j => if j < k then f.l j else if j = k then f.l k + s else imax (f.l j) (f.l k + s),
   fun j i => if j < k then f.m j i else if j = k then f.m k i + s else if i ≤ k then imax (f.m k i + s) (f.m j i) else f.m j i⟩
def stepMp (n : Nat) (f : Mp) : Rn → Mp
  | .to p => ⟨fun j => imax (f.l j) p, f.m⟩
  | .bark s => ⟨fun j => f.l j + s, fun j i => f.m j i + s⟩
  | .back k s => if k < n then moved k.toNat s f else f
  | .front k s => if 0 ≤ (n : Int) - 1 - k then moved ((n : Int) - 1 - k).toNat s f else f
def mpOf (n : Nat) (rs : List Rn) : Mp := rs.foldl (stepMp n) mp0
theorem rangeD_map (n : Nat) : rangeD 0 n = (List.range n).map fun (k : Nat) => D.int k := by
  unfold rangeD
  rw [show ((n : Int) - 0).toNat = n by omega]
  apply List.map_congr_left
  intro k _
  simp
/-- slots: 0 many, 1 at -/
def B_plain : DS :=
  (sRet (dDat (dComp (dRng1 (dCons (dDat (dVar 0)) dNil)) (gNm 1) dYes (dTup (dCons (dDat (dC (.int 0))) (dCons (dDat (dBin gMulB (dTup (dCons (dDat (dC (.int 0))) dNil)) (dBin gAdd (dVar 1) (dC (.int 1))))) dNil))) [1])))
def S_plain : DF := fun ss T Q _ => ∃ n : Nat, ss = [.dat (.int n)] ∧ n ≤ 999 ∧ Q (.dat (.lst (mp0.D n))) T
theorem h_plain : ∀ (ss : List Sl) (T : List Ob) (Q : Sl → List Ob → Prop) (QX : Xn → List Ob → Prop), ss.length = 1 → S_plain ss T Q QX → B_plain (endsOf T.length Q QX) (startD 2 1 ss T) := by
  intro ss T Q QX hl h
  obtain ⟨n, rfl, hn, h⟩ := h
  unfold B_plain
  walk_at "dl"
  rw [dComp_eq]
  walk_at "dl"
  refine ⟨by omega, ?_⟩
  refine compK_pure (fun d => match d with | .int i => some (.tup [.int 0, .tup (List.replicate (i + 1).toNat [D.int 0]).flatten]) | _ => none) [some (.dat (.int n)), none] rfl rfl rfl (by rw [rangeD_len, sizeLine_eq]; omega) ?_ ?_
  · intro d hd acc R hR
    obtain ⟨i, rfl, i0, i1⟩ := range_mem hd
    walk_at "dl"
    exact ⟨by omega, hR _ rfl⟩
  · walk_at "dl"
    rw [rangeD_map, List.filterMap_map]
    have e : List.filterMap ((fun d => match d with | D.int i => some (D.tup [D.int 0, D.tup (List.replicate (i + 1).toNat [D.int 0]).flatten]) | _ => none) ∘ fun (k : Nat) => D.int k) (List.range n) = mp0.D n := by
      rw [show ((fun d => match d with | D.int i => some (D.tup [D.int 0, D.tup (List.replicate (i + 1).toNat [D.int 0]).flatten]) | _ => none) ∘ fun (k : Nat) => D.int k) = fun (k : Nat) => some (mp0.d k) from ?_, filterMap_some]
      · rfl
      · funext k
        show some (D.tup [D.int 0, D.tup (List.replicate ((k : Int) + 1).toNat [D.int 0]).flatten]) = _
        rw [show ((k : Int) + 1).toNat = k + 1 by omega, List.flatten_replicate_singleton]
        simp only [Mp.d, pairD, tupI, Mp.row, mp0, List.map_map]
        congr 5
        symm
        rw [List.eq_replicate_iff]
        simp
    rw [e]
    exact h
/-- slots: 0 pair, 1 steps, 2 more -/
def B_raised : DS :=
  (sRet (dDat (dTup (dCons (dDat (dBin gAdd (dBin gIx (dVar 0) (dC (.int 0))) (dVar 1))) (dCons (dDat (dCB gTuple (dCons (dDat (dComp (dSeq (dBin gIx (dVar 0) (dC (.int 1)))) (gNm 2) dYes (dBin gAdd (dVar 2) (dVar 1)) [2])) dNil))) dNil)))))
def S_raised : DF := fun ss T Q _ => ∃ (l s : Int) (ms : List Int), ss = [.dat (pairD l ms), .dat (.int s)] ∧ ms.length ≤ 1000 ∧ Q (.dat (pairD (l + s) (ms.map (· + s)))) T
theorem h_raised : ∀ (ss : List Sl) (T : List Ob) (Q : Sl → List Ob → Prop) (QX : Xn → List Ob → Prop), ss.length = 2 → S_raised ss T Q QX → B_raised (endsOf T.length Q QX) (startD 3 2 ss T) := by
  intro ss T Q QX hl h
  obtain ⟨l, s, ms, rfl, hn, h⟩ := h
  unfold B_raised
  simp only [pairD]
  walk_at "dl"
  rw [dComp_eq]
  walk_at "dl"
  refine compK_pure (fun d => match d with | .int i => some (.int (i + s)) | _ => none) [some (.dat (pairD l ms)), some (.dat (.int s)), none] rfl rfl rfl (by rw [List.length_map, sizeLine_eq]; omega) ?_ ?_
  · intro d hd acc R hR
    obtain ⟨x, _, rfl⟩ := List.mem_map.mp hd
    walk_at "dl"
    exact hR _ rfl
  · walk_at "dl"
    rw [List.filterMap_map, show ((fun d => match d with | D.int i => some (D.int (i + s)) | _ => none) ∘ D.int) = fun x => some (D.int (x + s)) from rfl, filterMap_some]
    have e : ms.map (fun x => D.int (x + s)) = (ms.map (· + s)).map D.int := by simp
    rw [e]
    exact h
/-- the greater, place by place, as far as the first reaches -/
def joinL : List Int → List Int → List Int
  | a :: as', b :: bs => imax a b :: joinL as' bs
  | _, bs => bs
theorem joinL_split : ∀ (a b : List Int), a.length ≤ b.length → joinL a b = List.zipWith imax a b ++ b.drop a.length
  | [], b, _ => by simp [joinL]
  | x :: a, [], h => by simp at h
  | x :: a, y :: b, h => by
    simp only [joinL, List.zipWith_cons_cons, List.cons_append, List.length_cons, List.drop_succ_cons]
    rw [joinL_split a b (by simpa using h)]
def jD (bs : List Int) (d : D) : Option D := match d with
  | .tup [.int i, .int x] => match atI bs i with
    | some y => some (.int (imax x y))
    | none => none
  | _ => none
theorem jD_enum (bs : List Int) : ∀ (as' : List Int) (i : Nat), i + as'.length ≤ bs.length → (enumD i (as'.map .int)).filterMap (jD bs) = (List.zipWith imax as' (bs.drop i)).map .int
  | [], _, _ => rfl
  | x :: r, i, h => by
    simp only [List.length_cons] at h
    show (D.tup [.int i, .int x] :: enumD (i + 1) (r.map .int)).filterMap (jD bs) = _
    rw [List.filterMap_cons, jD_enum bs r (i + 1) (by omega)]
    have e : bs.drop i = bs[i] :: bs.drop (i + 1) := List.drop_eq_getElem_cons (by omega)
    rw [e]
    simp only [jD, atI_nat, List.getElem?_eq_getElem (show i < bs.length by omega), List.zipWith_cons_cons, List.map_cons]
/-- slots: 0 pair, 1 other, 2 mores, 3 at, 4 more -/
def B_joined : DS :=
  (sSeq (sSet 2 (dDat (dComp (dEnum (dCons (dDat (dBin gIx (dVar 1) (dC (.int 1)))) dNil)) (gTp 2 (gCs (gNm 3) (gCs (gNm 4) gNl))) dYes (dCB gMax2 (dCons (dDat (dVar 4)) (dCons (dDat (dBin gIx (dBin gIx (dVar 0) (dC (.int 1))) (dVar 3))) dNil))) [3, 4])))
  (sRet (dDat (dTup (dCons (dDat (dCB gMax2 (dCons (dDat (dBin gIx (dVar 0) (dC (.int 0)))) (dCons (dDat (dBin gIx (dVar 1) (dC (.int 0)))) dNil)))) (dCons (dDat (dBin gAdd (dCB gTuple (dCons (dDat (dVar 2)) dNil)) (dSl (dBin gIx (dVar 0) (dC (.int 1))) (dSo (dCB gLen (dCons (dDat (dBin gIx (dVar 1) (dC (.int 1)))) dNil))) dNo))) dNil))))))
def S_joined : DF := fun ss T Q _ => ∃ (l k : Int) (ms ks : List Int), ss = [.dat (pairD l ms), .dat (pairD k ks)] ∧ ks.length ≤ ms.length ∧ ms.length ≤ 1000 ∧ Q (.dat (pairD (imax l k) (joinL ks ms))) T
theorem h_joined : ∀ (ss : List Sl) (T : List Ob) (Q : Sl → List Ob → Prop) (QX : Xn → List Ob → Prop), ss.length = 2 → S_joined ss T Q QX → B_joined (endsOf T.length Q QX) (startD 5 2 ss T) := by
  intro ss T Q QX hl h
  obtain ⟨l, k, ms, ks, rfl, hk, hm, h⟩ := h
  unfold B_joined
  simp only [pairD]
  walk_at "dl"
  rw [dComp_eq]
  walk_at "dl"
  refine compK_pure (jD ms) [some (.dat (pairD l ms)), some (.dat (pairD k ks)), none, none, none] rfl rfl rfl (by rw [enumD_len, List.length_map, sizeLine_eq]; omega) ?_ ?_
  · intro d hd acc R hR
    obtain ⟨i, x, rfl, hi⟩ := enum_mem _ _ _ hd
    simp only [pairD]
    walk_at "dl"
    have hi2 : i < ms.length := by omega
    have e : atI ms (i : Int) = some ms[i] := by rw [atI_nat, List.getElem?_eq_getElem hi2]
    rw [e]
    walk_at "dl"
    have := hR [some (.dat (pairD l ms)), some (.dat (pairD k ks)), none, some (.dat (.int i)), some (.dat (.int x))] rfl
    simp only [jD, e] at this
    exact this
  · simp only [pairD]
    walk_at "dl"
    rw [jD_enum ms ks 0 (by omega), List.drop_zero, cut_from _ (by omega), Int.toNat_natCast]
    rw [← List.map_append, ← joinL_split ks ms hk]
    refine ⟨?_, h⟩
    simp only [List.length_map, List.length_zipWith, List.length_drop, sizeLine_eq]
    omega
set_option Elab.async false
set_option linter.all false
set_option maxRecDepth 100000
set_option maxHeartbeats 4000000
set_option autoImplicit false
/-! The program's defs at data level: what a drill does, run by run; terms. -/
/-- a comprehension over things that a list of indices tells -/
theorem compK_idx {ι : Type} {g : DG} {t : DT} {e : DE} {own : List Nat} {Q : D → Env → Prop} (is : List ι) (g0 : ι → D) (h : ι → Option D) {ds : List D} (hds : ds = is.map g0) {T : List Ob} {s : List (Option Sl)} (s0 : List (Option Sl))
    (hs : wipeS s own = s0) (hs2 : wipeS s0 own = s0) (hlow : lowS T.length s0 = true) (hz : is.length ≤ sizeLine)
    (step : ∀ i ∈ is, ∀ acc, ∀ R : Option D → Env → Prop, (∀ s', wipeS s' own = s0 → R (h i) ⟨T ++ [.lst acc], s'⟩) → g (g0 i) ⟨T ++ [.lst acc], s0⟩ fun ρ1 => t X0 ρ1 fun b ρ2 => if b = true then e X0 ρ2 fun y ρ3 => R (some y) ρ3 else R none ρ2)
    (q : Q (.lst (is.filterMap h)) ⟨T, s0⟩) : compK g t e own Q ds ⟨T, s⟩ := by
  subst hds
  refine compK_any (fun r acc T' => T' = T ∧ ∃ js : List ι, r = js.map g0 ∧ (∀ j ∈ js, j ∈ is) ∧ acc ++ js.filterMap h = is.filterMap h) s0 hs hs2 hlow (by simpa using hz) ⟨rfl, is, rfl, fun _ h => h, rfl⟩ ?_ ?_
  · rintro d r acc T' hl hz ⟨rfl, js, e, hm, he⟩ R hR
    cases js with
    | nil => cases e
    | cons j js =>
      cases e
      refine step j (hm j List.mem_cons_self) acc R fun s' hs' => hR _ _ _ rfl ⟨rfl, js, rfl, fun k m => hm k (List.mem_cons_of_mem _ m), ?_⟩ hs'
      rw [← he, List.filterMap_cons]
      cases h j <;> simp
  · rintro acc T' hl ⟨rfl, js, e, hm, he⟩
    cases js with
    | cons j js => cases e
    | nil =>
      simp only [List.filterMap_nil, List.append_nil] at he
      rw [he]
      exact q
theorem joinL_get : ∀ (a b : List Int) (i : Nat), (joinL a b)[i]? = match a[i]?, b[i]? with
    | some x, some y => some (imax x y)
    | _, y => y
  | [], b, i => by simp [joinL]
  | x :: a, [], i => by simp [joinL]
  | x :: a, y :: b, 0 => by simp [joinL]
  | x :: a, y :: b, i + 1 => by simpa [joinL] using joinL_get a b i
theorem moved_row {f : Mp} {k j : Nat} {s : Int} (h : k < j) : joinL ((f.row k).map (· + s)) (f.row j) = (moved k s f).row j := by
  apply List.ext_getElem?
  intro i
  rw [joinL_get]
  simp only [Mp.row, moved, List.getElem?_map, List.map_map]
  by_cases h1 : i < j + 1
  · rw [List.getElem?_range h1]
    by_cases h2 : i < k + 1
    · rw [List.getElem?_range h2]
      simp [show ¬ (j < k) by omega, show ¬ (j = k) by omega, show i ≤ k by omega]
    · rw [List.getElem?_eq_none (l := List.range (k + 1)) (by simp; omega)]
      simp [show ¬ (j < k) by omega, show ¬ (j = k) by omega, show ¬ (i ≤ k) by omega]
  · rw [List.getElem?_eq_none (l := List.range (j + 1)) (by simp; omega), List.getElem?_eq_none (l := List.range (k + 1)) (by simp; omega)]
    rfl
theorem moved_lt {f : Mp} {k j : Nat} {s : Int} (h : j < k) : (moved k s f).d j = f.d j := by
  simp only [Mp.d, Mp.row, moved, if_pos h]
theorem moved_eq {f : Mp} {k : Nat} {s : Int} : (moved k s f).d k = pairD (f.l k + s) ((f.row k).map (· + s)) := by
  simp only [Mp.d, Mp.row, moved, Nat.lt_irrefl, if_false, if_true, List.map_map]
  rfl
theorem moved_gt {f : Mp} {k j : Nat} {s : Int} (h : k < j) : (moved k s f).d j = pairD (imax (f.l j) (f.l k + s)) (joinL ((f.row k).map (· + s)) (f.row j)) := by
  rw [moved_row h]
  simp only [Mp.d, moved, if_neg (show ¬ (j < k) by omega), if_neg (show ¬ (j = k) by omega)]
theorem mem_take_range {n k j : Nat} (h : j ∈ (List.range n).take k) : j < k := by
  rw [List.take_range, List.mem_range] at h
  omega
theorem mem_drop_range {n k j : Nat} (h : j ∈ (List.range n).drop k) : k ≤ j ∧ j < n := by
  obtain ⟨i, hi, e⟩ := List.getElem_of_mem h
  simp at hi e
  omega
theorem moved_D {f : Mp} {k n : Nat} {s : Int} (h : k < n) : (moved k s f).D n = (f.D n).take k ++ pairD (f.l k + s) ((f.row k).map (· + s)) :: ((List.range n).drop (k + 1)).map fun j => pairD (imax (f.l j) (f.l k + s)) (joinL ((f.row k).map (· + s)) (f.row j)) := by
  unfold Mp.D
  have e : List.range n = (List.range n).take k ++ k :: (List.range n).drop (k + 1) := by
    conv => lhs; rw [← List.take_append_drop k (List.range n), List.drop_eq_getElem_cons (by simpa using h)]
    simp
  conv => lhs; rw [e]
  rw [List.map_append, List.map_cons, ← List.map_take, moved_eq]
  congr 1
  · apply List.map_congr_left
    intro j hj
    exact moved_lt (mem_take_range hj)
  · congr 1
    apply List.map_congr_left
    intro j hj
    exact moved_gt (by have := (mem_drop_range hj).1; omega)
/-- slots: 0 found, 1 run, 2 many, 3 sheep, 4 here, 5 pair, 6 least, 7 mores -/
def B_after : DS :=
  (sSeq (sIf (dTest (dBin gEq (dBin gIx (dVar 1) (dC (.int 0))) (dC (.str "to")))) (sRet (dDat (dComp (dSeq (dVar 0)) (gTp 2 (gCs (gNm 6) (gCs (gNm 7) gNl))) dYes (dTup (dCons (dDat (dCB gMax2 (dCons (dDat (dVar 6)) (dCons (dDat (dBin gIx (dVar 1) (dC (.int 1)))) dNil)))) (dCons (dDat (dVar 7)) dNil))) [6, 7]))) sNil)
  (sSeq (sIf (dTest (dBin gEq (dBin gIx (dVar 1) (dC (.int 0))) (dC (.str "bark")))) (sRet (dDat (dComp (dSeq (dVar 0)) (gNm 5) dYes (dVal (dCall 2 S_raised (dCons (dDat (dVar 5)) (dCons (dDat (dBin gIx (dVar 1) (dC (.int 1)))) dNil)))) [5]))) sNil)
  (sSeq (sSet 3 (dDat (dIf (dTest (dBin gEq (dBin gIx (dVar 1) (dC (.int 0))) (dC (.str "back")))) (dBin gIx (dVar 1) (dC (.int 1))) (dBin gSub (dBin gSub (dVar 2) (dC (.int 1))) (dBin gIx (dVar 1) (dC (.int 1)))))))
  (sSeq (sIf (dtNot (dTest (dChain gLe gLt (dC (.int 0)) (dVar 3) (dVar 2)))) (sRet (dDat (dVar 0))) sNil)
  (sSeq (sSet 4 (dDat (dVal (dCall 2 S_raised (dCons (dDat (dBin gIx (dVar 0) (dVar 3))) (dCons (dDat (dBin gIx (dVar 1) (dC (.int 2)))) dNil))))))
  (sRet (dDat (dBin gAdd (dBin gAdd (dSl (dVar 0) dNo (dSo (dVar 3))) (dLst (dCons (dDat (dVar 4)) dNil))) (dComp (dSeq (dSl (dVar 0) (dSo (dBin gAdd (dVar 3) (dC (.int 1)))) dNo)) (gNm 5) dYes (dVal (dCall 2 S_joined (dCons (dDat (dVar 5)) (dCons (dDat (dVar 4)) dNil)))) [5])))))))))
def S_after : DF := fun ss T Q _ => ∃ (f : Mp) (r : Rn) (n : Nat), ss = [.dat (.lst (f.D n)), .dat r.d, .dat (.int n)] ∧ n ≤ 999 ∧ r.ok ∧ Q (.dat (.lst ((stepMp n f r).D n))) T
theorem after_mv {f : Mp} {k n : Nat} {s : Int} {T : List Ob} {run : D} {Q : D → Env → Prop} (hk : k < n) (hn : n ≤ 999) (q : Q (.lst (((List.range n).drop (k + 1)).map fun j => pairD (imax (f.l j) (f.l k + s)) (joinL ((f.row k).map (· + s)) (f.row j)))) ⟨T, [some (.dat (.lst (f.D n))), some (.dat run), some (.dat (.int n)), some (.dat (.int k)), some (.dat (pairD (f.l k + s) ((f.row k).map (· + s)))), none, none, none]⟩) :
    compK (gNm 5) dYes (dVal (dCall 2 S_joined (dCons (dDat (dVar 5)) (dCons (dDat (dVar 4)) dNil)))) [5] Q ((f.D n).drop (k + 1)) ⟨T, [some (.dat (.lst (f.D n))), some (.dat run), some (.dat (.int n)), some (.dat (.int k)), some (.dat (pairD (f.l k + s) ((f.row k).map (· + s)))), none, none, none]⟩ := by
  refine compK_idx ((List.range n).drop (k + 1)) f.d (fun j => some (pairD (imax (f.l j) (f.l k + s)) (joinL ((f.row k).map (· + s)) (f.row j)))) (by simp [Mp.D]) _ rfl rfl rfl (by simp [sizeLine_eq]; omega) ?_ ?_
  · intro j hj acc R hR
    have := mem_drop_range hj
    walk_at "dl"
    refine ⟨f.l j, _, f.row j, _, rfl, by simp [Mp.row_len]; omega, by simp [Mp.row_len]; omega, ?_⟩
    walk_at "dl"
    exact hR _ rfl
  · rw [filterMap_some]
    exact q
theorem h_after : ∀ (ss : List Sl) (T : List Ob) (Q : Sl → List Ob → Prop) (QX : Xn → List Ob → Prop), ss.length = 3 → S_after ss T Q QX → B_after (endsOf T.length Q QX) (startD 8 3 ss T) := by
  intro ss T Q QX hl h
  obtain ⟨f, r, n, rfl, hn, ok, h⟩ := h
  unfold B_after
  cases r with
  | to p =>
    simp only [Rn.d]
    walk_at "dl"
    rw [dComp_eq]
    walk_at "dl"
    refine compK_idx (List.range n) f.d (fun j => some (pairD (imax (f.l j) p) (f.row j))) rfl [some (.dat (.lst (f.D n))), some (.dat (.tup [.str "to", .int p])), some (.dat (.int n)), none, none, none, none, none] rfl rfl rfl (by simp [sizeLine_eq]; omega) ?_ ?_
    · intro j hj acc R hR
      simp only [Mp.d, pairD]
      walk_at "dl"
      exact hR _ rfl
    · rw [filterMap_some]
      walk_at "dl"
      exact h
  | bark s =>
    simp only [Rn.d]
    walk_at "dl"
    rw [dComp_eq]
    walk_at "dl"
    refine compK_idx (List.range n) f.d (fun j => some (pairD (f.l j + s) ((f.row j).map (· + s)))) rfl [some (.dat (.lst (f.D n))), some (.dat (.tup [.str "bark", .int s])), some (.dat (.int n)), none, none, none, none, none] rfl rfl rfl (by simp [sizeLine_eq]; omega) ?_ ?_
    · intro j hj acc R hR
      have hj' : j < n := by simpa using hj
      walk_at "dl"
      refine ⟨f.l j, s, f.row j, rfl, by rw [Mp.row_len]; omega, ?_⟩
      walk_at "dl"
      exact hR _ rfl
    · rw [filterMap_some]
      walk_at "dl"
      have e : (List.range n).map (fun j => pairD (f.l j + s) ((f.row j).map (· + s))) = (stepMp n f (.bark s)).D n := by
        unfold Mp.D
        apply List.map_congr_left
        intro j _
        simp only [Mp.d, Mp.row, stepMp, List.map_map]
        rfl
      rw [e]
      exact h
  | back k s =>
    obtain ⟨⟨k0, k3⟩, s1, s2⟩ := ok
    simp only [Rn.d]
    walk_at "dl"
    rw [if_pos k0]
    simp only [stepMp] at h
    by_cases q : k < n
    · rw [if_pos q] at h
      rw [if_neg (by simpa using q), atI_pos k0, f.D_at (by omega)]
      obtain ⟨k, rfl⟩ : ∃ m : Nat, k = m := ⟨k.toNat, by omega⟩
      rw [Int.toNat_natCast] at h ⊢
      walk_at "dl"
      refine ⟨f.l k, s, f.row k, rfl, by rw [Mp.row_len]; omega, ?_⟩
      walk_at "dl"
      rw [cut_to _ (by omega) (by rw [Mp.D_len]; omega), Int.toNat_natCast]
      refine ⟨by rw [List.length_take, Mp.D_len, sizeLine_eq]; omega, ?_⟩
      rw [dComp_eq]
      walk_at "dl"
      rw [cut_from _ (by omega), show ((k : Int) + 1).toNat = k + 1 by omega]
      refine after_mv (by omega) hn ?_
      walk_at "dl"
      refine ⟨?_, ?_⟩
      · simp only [List.length_append, List.length_take, List.length_drop, List.length_range, Mp.D_len, List.length_cons, List.length_nil, sizeLine_eq]
        omega
      · rw [List.append_assoc, List.singleton_append, ← moved_D (by omega)]
        exact h
    · rw [if_neg q] at h
      rw [if_pos (by simpa using q)]
      exact h
  | front k s =>
    obtain ⟨⟨k0, k3⟩, s1, s2⟩ := ok
    simp only [Rn.d]
    walk_at "dl"
    simp only [stepMp] at h
    by_cases q : 0 ≤ (n : Int) - 1 - k
    · rw [if_pos q] at h
      rw [if_pos q, if_neg (by simp; omega), atI_pos q, f.D_at (by omega)]
      generalize hm : (n : Int) - 1 - k = m at *
      obtain ⟨m, rfl⟩ : ∃ m' : Nat, m = m' := ⟨m.toNat, by omega⟩
      rw [Int.toNat_natCast] at h ⊢
      walk_at "dl"
      refine ⟨f.l m, s, f.row m, rfl, by rw [Mp.row_len]; omega, ?_⟩
      walk_at "dl"
      rw [cut_to _ (by omega) (by rw [Mp.D_len]; omega), Int.toNat_natCast]
      refine ⟨by rw [List.length_take, Mp.D_len, sizeLine_eq]; omega, ?_⟩
      rw [dComp_eq]
      walk_at "dl"
      rw [cut_from _ (by omega), show ((m : Int) + 1).toNat = m + 1 by omega]
      refine after_mv (by omega) hn ?_
      walk_at "dl"
      refine ⟨?_, ?_⟩
      · simp only [List.length_append, List.length_take, List.length_drop, List.length_range, Mp.D_len, List.length_cons, List.length_nil, sizeLine_eq]
        omega
      · rw [List.append_assoc, List.singleton_append, ← moved_D (by omega)]
        exact h
    · rw [if_neg q] at h
      rw [if_neg q]
      exact h
/-- slots: 0 drill, 1 many, 2 found, 3 run -/
def B_map_of : DS :=
  (sSeq (sSet 2 (dDat (dVal (dCall 1 S_plain (dCons (dDat (dVar 1)) dNil)))))
  (sSeq (sFor (dSeq (dBin gIx (dVar 0) (dC (.int 1)))) (gNm 3) (sSet 2 (dDat (dVal (dCall 3 S_after (dCons (dDat (dVar 2)) (dCons (dDat (dVar 3)) (dCons (dDat (dVar 1)) dNil))))))))
  (sRet (dDat (dVar 2)))))
def S_map_of : DF := fun ss T Q _ => ∃ (g : Int) (rs : List Rn) (n : Nat), ss = [.dat (drD g rs), .dat (.int n)] ∧ n ≤ 999 ∧ (∀ r ∈ rs, r.ok) ∧ Q (.dat (.lst ((mpOf n rs).D n))) T
theorem h_map_of : ∀ (ss : List Sl) (T : List Ob) (Q : Sl → List Ob → Prop) (QX : Xn → List Ob → Prop), ss.length = 2 → S_map_of ss T Q QX → B_map_of (endsOf T.length Q QX) (startD 4 2 ss T) := by
  intro ss T Q QX hl h
  obtain ⟨g, rs, n, rfl, hn, ok, h⟩ := h
  unfold B_map_of
  simp only [drD]
  walk_at "dl"
  refine ⟨n, rfl, hn, ?_⟩
  walk_at "dl"
  refine loop_inv (fun ds ρ => ∃ (f : Mp) (rest : List Rn) (v : Option Sl), ρ = ⟨T, [some (.dat (.tup [.int g, .tup (rs.map Rn.d)])), some (.dat (.int n)), some (.dat (.lst (f.D n))), v]⟩ ∧ ds = rest.map Rn.d ∧ (∀ r ∈ rest, r.ok) ∧ rest.foldl (stepMp n) f = mpOf n rs) ?_ ?_ _ _ ?_
  · rintro d ds ρ ⟨f, rest, v, rfl, e, ho, hf⟩ N hN
    cases rest with
    | nil => cases e
    | cons r rest =>
      cases e
      walk_at "dl"
      refine ⟨f, r, n, rfl, hn, ho r (by simp), ?_⟩
      walk_at "dl"
      exact hN _ ⟨stepMp n f r, rest, _, rfl, rfl, fun x hx => ho x (by simp [hx]), hf⟩
  · rintro ρ ⟨f, rest, v, rfl, e, ho, hf⟩
    have hr : rest = [] := by
      cases rest with
      | nil => rfl
      | cons y rest => cases e
    subst hr
    simp only [List.foldl_nil] at hf
    subst hf
    walk_at "dl"
    exact h
  · exact ⟨mp0, rs, none, rfl, rfl, ok, rfl⟩
set_option Elab.async false
set_option linter.all false
set_option maxRecDepth 100000
set_option maxHeartbeats 4000000
set_option autoImplicit false
/-! The program's defs at data level: terms, few sheep for many, forms. -/
def backs : List Rn → List Int
  | [] => []
  | .back n _ :: r => (n + 1) :: backs r
  | _ :: r => backs r
def fronts : List Rn → List Int
  | [] => []
  | .front n _ :: r => (n + 1) :: fronts r
  | _ :: r => fronts r
def deepOf : List Int → Int
  | [] => 0
  | x :: r => maxOf x r
theorem deepOf_ge {l : List Int} {x : Int} (h : x ∈ l) : x ≤ deepOf l := by
  cases l with
  | nil => simp at h
  | cons y r =>
    obtain ⟨a, b, c⟩ := maxOf_ge r y
    rcases List.mem_cons.mp h with rfl | h
    · exact a
    · exact b _ h
theorem deepOf_mem (l : List Int) : deepOf l = 0 ∨ deepOf l ∈ l := by
  cases l with
  | nil => exact .inl rfl
  | cons y r =>
    obtain ⟨a, b, c⟩ := maxOf_ge r y
    right
    show maxOf y r ∈ y :: r
    rcases c with c | c
    · rw [c]
      simp
    · simp [c]
theorem backs_mem : ∀ {rs : List Rn} {x : Int}, x ∈ backs rs → ∃ n s, .back n s ∈ rs ∧ x = n + 1
  | [], x, h => by simp [backs] at h
  | r :: rs, x, h => by
    cases r with
    | back n s =>
      simp only [backs, List.mem_cons] at h
      rcases h with rfl | h
      · exact ⟨n, s, by simp, rfl⟩
      · obtain ⟨n', s', h1, h2⟩ := backs_mem h
        exact ⟨n', s', by simp [h1], h2⟩
    | _ =>
      obtain ⟨n', s', h1, h2⟩ := backs_mem (rs := rs) h
      exact ⟨n', s', by simp [h1], h2⟩
theorem fronts_mem : ∀ {rs : List Rn} {x : Int}, x ∈ fronts rs → ∃ n s, .front n s ∈ rs ∧ x = n + 1
  | [], x, h => by simp [fronts] at h
  | r :: rs, x, h => by
    cases r with
    | front n s =>
      simp only [fronts, List.mem_cons] at h
      rcases h with rfl | h
      · exact ⟨n, s, by simp, rfl⟩
      · obtain ⟨n', s', h1, h2⟩ := fronts_mem h
        exact ⟨n', s', by simp [h1], h2⟩
    | _ =>
      obtain ⟨n', s', h1, h2⟩ := fronts_mem (rs := rs) h
      exact ⟨n', s', by simp [h1], h2⟩
theorem mem_backs : ∀ {rs : List Rn} {n s : Int}, .back n s ∈ rs → n + 1 ∈ backs rs
  | [], n, s, h => by simp at h
  | r :: rs, n, s, h => by
    rcases List.mem_cons.mp h with rfl | h
    · simp [backs]
    · have := mem_backs h
      cases r <;> simp [backs, this]
theorem mem_fronts : ∀ {rs : List Rn} {n s : Int}, .front n s ∈ rs → n + 1 ∈ fronts rs
  | [], n, s, h => by simp at h
  | r :: rs, n, s, h => by
    rcases List.mem_cons.mp h with rfl | h
    · simp [fronts]
    · have := mem_fronts h
      cases r <;> simp [fronts, this]
theorem deep_back {rs : List Rn} (ok : ∀ r ∈ rs, r.ok) : 0 ≤ deepOf (backs rs) ∧ deepOf (backs rs) ≤ 4 := by
  rcases deepOf_mem (backs rs) with h | h
  · omega
  · obtain ⟨n, s, h1, h2⟩ := backs_mem h
    have := (ok _ h1).1
    omega
theorem deep_front {rs : List Rn} (ok : ∀ r ∈ rs, r.ok) : 0 ≤ deepOf (fronts rs) ∧ deepOf (fronts rs) ≤ 4 := by
  rcases deepOf_mem (fronts rs) with h | h
  · omega
  · obtain ⟨n, s, h1, h2⟩ := fronts_mem h
    have := (ok _ h1).1
    omega
theorem backs_map : ∀ rs : List Rn, (rs.filterMap fun r => match r with | .back n _ => some (D.int (n + 1)) | _ => none) = (backs rs).map D.int
  | [] => rfl
  | r :: rs => by
    have ih := backs_map rs
    cases r <;> simp [backs, ih]
theorem fronts_map : ∀ rs : List Rn, (rs.filterMap fun r => match r with | .front n _ => some (D.int (n + 1)) | _ => none) = (fronts rs).map D.int
  | [] => rfl
  | r :: rs => by
    have ih := fronts_map rs
    cases r <;> simp [fronts, ih]
/-- slots: 0 drill, 1 word, 2 run -/
def B_deep : DS :=
  (sRet (dDat (dMaxD (dCons (dDat (dComp (dSeq (dBin gIx (dVar 0) (dC (.int 1)))) (gNm 2) (dTest (dBin gEq (dBin gIx (dVar 2) (dC (.int 0))) (dVar 1))) (dBin gAdd (dBin gIx (dVar 2) (dC (.int 1))) (dC (.int 1))) [2])) dNil) (dC (.int 0)))))
def S_deep : DF := fun ss T Q _ => ∃ (g : Int) (rs : List Rn) (w : Str), ss = [.dat (drD g rs), .dat (.str w)] ∧ rs.length ≤ 1000 ∧ ((w = "back" ∧ Q (.dat (.int (deepOf (backs rs)))) T) ∨ (w = "front" ∧ Q (.dat (.int (deepOf (fronts rs)))) T))
theorem deep_fin {l : List Int} {P : Int → Prop} (h : P (deepOf l)) : (match some l with
    | some [] => P 0
    | some (n :: ns) => P (maxOf n ns)
    | none => False) := by
  cases l with
  | nil => exact h
  | cons x r => exact h
theorem h_deep : ∀ (ss : List Sl) (T : List Ob) (Q : Sl → List Ob → Prop) (QX : Xn → List Ob → Prop), ss.length = 2 → S_deep ss T Q QX → B_deep (endsOf T.length Q QX) (startD 3 2 ss T) := by
  intro ss T Q QX hl h
  obtain ⟨g, rs, w, rfl, hr, h⟩ := h
  unfold B_deep
  rcases h with ⟨rfl, h⟩ | ⟨rfl, h⟩
  · simp only [drD]
    walk_at "dl"
    rw [dComp_eq]
    walk_at "dl"
    refine compK_idx rs Rn.d (fun r => match r with | .back n _ => some (D.int (n + 1)) | _ => none) rfl [some (.dat (drD g rs)), some (.dat (.str "back")), none] rfl rfl rfl (by rw [sizeLine_eq]; omega) ?_ ?_
    · intro r hr acc R hR
      cases r <;>
      · simp only [Rn.d]
        walk_at "dl"
        exact hR _ rfl
    · rw [backs_map]
      walk_at "dl"
      rw [intsOf_map]
      exact deep_fin (P := fun i => Q (.dat (.int i)) T) h
  · simp only [drD]
    walk_at "dl"
    rw [dComp_eq]
    walk_at "dl"
    refine compK_idx rs Rn.d (fun r => match r with | .front n _ => some (D.int (n + 1)) | _ => none) rfl [some (.dat (drD g rs)), some (.dat (.str "front")), none] rfl rfl rfl (by rw [sizeLine_eq]; omega) ?_ ?_
    · intro r hr acc R hR
      cases r <;>
      · simp only [Rn.d]
        walk_at "dl"
        exact hR _ rfl
    · rw [fronts_map]
      walk_at "dl"
      rw [intsOf_map]
      exact deep_fin (P := fun i => Q (.dat (.int i)) T) h
/-- the terms that matter -/
def termsL : Nat → List Int → List (Nat × Int)
  | _, [] => []
  | i, [x] => [(i, x)]
  | i, x :: y :: r => if y < x then (i, x) :: termsL (i + 1) (y :: r) else termsL (i + 1) (y :: r)
def tmD (p : Nat × Int) : D := .tup [.int p.1, .int p.2]
theorem termsL_len : ∀ (l : List Int) (i : Nat), (termsL i l).length ≤ l.length
  | [], _ => by simp [termsL]
  | [x], _ => by simp [termsL]
  | x :: y :: r, i => by
    have := termsL_len (y :: r) (i + 1)
    simp only [termsL]
    split <;> simp at this ⊢ <;> omega
/-- slots: 0 pair, 1 found, 2 least, 3 mores, 4 at, 5 more -/
def B_terms_of : DS :=
  (sSeq (sTo (dVar 0) (gTp 2 (gCs (gNm 2) (gCs (gNm 3) gNl))))
  (sSeq (sSet 1 (dNew dNil))
  (sSeq (sFor (dEnum (dCons (dDat (dVar 3)) dNil)) (gTp 2 (gCs (gNm 4) (gCs (gNm 5) gNl))) (sIf (dtOr (dTest (dBin gEq (dBin gAdd (dVar 4) (dC (.int 1))) (dCB gLen (dCons (dDat (dVar 3)) dNil)))) (dTest (dBin gLt (dBin gIx (dVar 3) (dBin gAdd (dVar 4) (dC (.int 1)))) (dVar 5)))) (sApp 1 (dTup (dCons (dDat (dVar 4)) (dCons (dDat (dVar 5)) dNil)))) sNil))
  (sRet (dDat (dTup (dCons (dDat (dCB gMax2 (dCons (dDat (dVar 2)) (dCons (dDat (dBin gIx (dVar 3) (dC (.int 0)))) dNil)))) (dCons (dDat (dCB gTuple (dCons (dDat (dVar 1)) dNil))) dNil))))))))
def S_terms_of : DF := fun ss T Q _ => ∃ (l : Int) (ms : List Int), ss = [.dat (pairD l ms)] ∧ 1 ≤ ms.length ∧ ms.length ≤ 1000 ∧ Q (.dat (.tup [.int (imax l (ms.headD 0)), .tup ((termsL 0 ms).map tmD)])) T
theorem h_terms_of : ∀ (ss : List Sl) (T : List Ob) (Q : Sl → List Ob → Prop) (QX : Xn → List Ob → Prop), ss.length = 1 → S_terms_of ss T Q QX → B_terms_of (endsOf T.length Q QX) (startD 6 1 ss T) := by
  intro ss T Q QX hl h
  obtain ⟨l, ms, rfl, h1, hm, h⟩ := h
  unfold B_terms_of
  simp only [pairD]
  walk_at "dl"
  refine loop_inv (fun ds ρ => ∃ (done : List (Nat × Int)) (i : Nat) (rest : List Int) (u v : Option Sl), ρ = ⟨T ++ [.lst (done.map tmD)], [some (.dat (.tup [.int l, .tup (ms.map .int)])), some (.ob T.length), some (.dat (.int l)), some (.dat (.tup (ms.map .int))), u, v]⟩ ∧ ds = enumD i (rest.map .int) ∧ rest = ms.drop i ∧ done.length ≤ i ∧ done ++ termsL i rest = termsL 0 ms) ?_ ?_ _ _ ?_
  · rintro d ds ρ ⟨done, i, rest, u, v, rfl, e, er, hd, hc⟩ N hN
    cases rest with
    | nil => cases e
    | cons x rest =>
      cases e
      have hlen := congrArg List.length er
      simp only [List.length_cons, List.length_drop] at hlen
      have er2 : rest = ms.drop (i + 1) := by
        have := congrArg List.tail er
        simpa using this
      walk_at "dl"
      cases rest with
      | nil =>
        simp only [List.length_nil] at hlen
        have e1 : (((i : Int) + 1) == (ms.length : Int)) = true := by
          simp only [beq_iff_eq]
          omega
        rw [e1]
        walk_at "dl"
        refine ⟨by rw [sizeLine_eq]; omega, hN _ ⟨done ++ [(i, x)], i + 1, [], some (.dat (.int i)), some (.dat (.int x)), by simp [tmD], rfl, er2, by simp; omega, ?_⟩⟩
        rw [← hc]
        simp [termsL]
      | cons y rest =>
        simp only [List.length_cons] at hlen
        have e1 : (((i : Int) + 1) == (ms.length : Int)) = false := by
          simp only [beq_eq_false_iff_ne, ne_eq]
          omega
        have e2 : atI ms ((i : Int) + 1) = some y := by
          have : ms[i + 1]? = some y := by
            have h0 : (ms.drop (i + 1))[0]? = some y := by rw [← er2]; rfl
            simpa using h0
          rw [show ((i : Int) + 1) = ((i + 1 : Nat) : Int) by omega, atI_nat, this]
        rw [e1, e2]
        walk_at "dl"
        by_cases q : y < x
        · rw [if_pos q]
          refine ⟨by rw [sizeLine_eq]; omega, hN _ ⟨done ++ [(i, x)], i + 1, y :: rest, some (.dat (.int i)), some (.dat (.int x)), by simp [tmD], rfl, er2, by simp; omega, ?_⟩⟩
          rw [← hc]
          simp [termsL, q]
        · rw [if_neg q]
          refine hN _ ⟨done, i + 1, y :: rest, _, _, rfl, rfl, er2, by omega, ?_⟩
          rw [← hc]
          simp [termsL, q]
  · rintro ρ ⟨done, i, rest, u, v, rfl, e, er, hd, hc⟩
    have hr : rest = [] := by
      cases rest with
      | nil => rfl
      | cons y rest => cases e
    subst hr
    simp only [termsL, List.append_nil] at hc
    subst hc
    obtain ⟨x, r, rfl⟩ : ∃ x r, ms = x :: r := by
      cases ms with
      | nil => simp at h1
      | cons x r => exact ⟨x, r, rfl⟩
    walk_at "dl"
    exact h
  · exact ⟨[], 0, ms, none, none, rfl, rfl, by simp, by simp, rfl⟩
set_option Elab.async false
set_option linter.all false
set_option maxRecDepth 100000
set_option maxHeartbeats 4000000
set_option autoImplicit false
/-! Few sheep for many: plain mathematics. -/
/-- the sheep of few for a sheep of many: b behind, d in the midst left out -/
def col (b d i : Nat) : Nat := if i < b then i else if i ≤ b + d then b else i - d
theorem col_lt {b d k j : Nat} (hk : k < b ∨ b + d < k) : (j < k ↔ col b d j < col b d k) := by
  unfold col
  split <;> split <;> (try split) <;> (try split) <;> omega
theorem col_le {b d k j : Nat} (hk : k < b ∨ b + d < k) : (j ≤ k ↔ col b d j ≤ col b d k) := by
  unfold col
  split <;> split <;> (try split) <;> (try split) <;> omega
structure Alike (b d n : Nat) (G F : Mp) : Prop where
  l : ∀ j, j < n → G.l j = F.l (col b d j)
  m : ∀ j i, j < n → i ≤ j → G.m j i = F.m (col b d j) (col b d i)
theorem Alike.moved {b d n k : Nat} {s : Int} {G F : Mp} (h : Alike b d n G F) (kn : k < n) (hk : k < b ∨ b + d < k) : Alike b d n (moved k s G) (moved (col b d k) s F) := by
  constructor
  · intro j hj
    have h1 := col_lt (j := j) hk
    have h2 := col_le (j := j) hk
    simp only [DL.moved]
    by_cases c1 : j < k
    · rw [if_pos c1, if_pos (h1.mp c1), h.l j hj]
    · rw [if_neg c1, if_neg (fun z => c1 (h1.mpr z))]
      by_cases c2 : j = k
      · subst c2
        rw [if_pos rfl, if_pos rfl, h.l j hj]
      · rw [if_neg c2, if_neg (by omega), h.l j hj, h.l k kn]
  · intro j i hj hi
    have h1 := col_lt (j := j) hk
    have h2 := col_le (j := j) hk
    have h3 := col_le (j := i) hk
    simp only [DL.moved]
    by_cases c1 : j < k
    · rw [if_pos c1, if_pos (h1.mp c1), h.m j i hj hi]
    · rw [if_neg c1, if_neg (fun z => c1 (h1.mpr z))]
      by_cases c2 : j = k
      · subst c2
        rw [if_pos rfl, if_pos rfl, h.m j i hj hi]
      · rw [if_neg c2, if_neg (show ¬ (col b d j = col b d k) by omega)]
        by_cases c3 : i ≤ k
        · rw [if_pos c3, if_pos (h3.mp c3), h.m j i hj hi, h.m k i kn c3]
        · rw [if_neg c3, if_neg (fun z => c3 (h3.mpr z)), h.m j i hj hi]
/-- a run starts sheep among the b behind and the f in front alone -/
def Rn.within (b f : Nat) : Rn → Prop
  | .back n _ => 0 ≤ n ∧ n + 1 ≤ (b : Int)
  | .front n _ => 0 ≤ n ∧ n + 1 ≤ (f : Int)
  | _ => True
theorem Alike.step {b d f : Nat} {G F : Mp} {r : Rn} (h : Alike b d (b + f + 1 + d) G F) (hr : r.within b f) : Alike b d (b + f + 1 + d) (stepMp (b + f + 1 + d) G r) (stepMp (b + f + 1) F r) := by
  cases r with
  | to p => exact ⟨fun j hj => by simp only [stepMp, h.l j hj], fun j i hj hi => by simp only [stepMp, h.m j i hj hi]⟩
  | bark s => exact ⟨fun j hj => by simp only [stepMp, h.l j hj], fun j i hj hi => by simp only [stepMp, h.m j i hj hi]⟩
  | back n s =>
    obtain ⟨n0, n1⟩ := hr
    simp only [stepMp]
    rw [if_pos (by omega), if_pos (by omega)]
    have e : col b d n.toNat = n.toNat := by
      unfold col
      rw [if_pos (by omega)]
    have := h.moved (k := n.toNat) (s := s) (by omega) (.inl (by omega))
    rw [e] at this
    exact this
  | front n s =>
    obtain ⟨n0, n1⟩ := hr
    simp only [stepMp]
    rw [if_pos (by omega), if_pos (by omega)]
    have e : col b d (((b + f + 1 + d : Nat) : Int) - 1 - n).toNat = (((b + f + 1 : Nat) : Int) - 1 - n).toNat := by
      unfold col
      rw [if_neg (by omega), if_neg (by omega)]
      omega
    have := h.moved (k := (((b + f + 1 + d : Nat) : Int) - 1 - n).toNat) (s := s) (by omega) (.inr (by omega))
    rw [e] at this
    exact this
theorem alike_fold {b d f : Nat} : ∀ (rs : List Rn) (G F : Mp), Alike b d (b + f + 1 + d) G F → (∀ r ∈ rs, r.within b f) → Alike b d (b + f + 1 + d) (rs.foldl (stepMp (b + f + 1 + d)) G) (rs.foldl (stepMp (b + f + 1)) F)
  | [], _, _, h, _ => h
  | r :: rs, G, F, h, hr => alike_fold rs _ _ (h.step (hr r (by simp))) fun x hx => hr x (by simp [hx])
theorem alike_mp {b d f : Nat} {rs : List Rn} (hr : ∀ r ∈ rs, r.within b f) : Alike b d (b + f + 1 + d) (mpOf (b + f + 1 + d) rs) (mpOf (b + f + 1) rs) :=
  alike_fold rs mp0 mp0 ⟨fun _ _ => rfl, fun _ _ _ _ => rfl⟩ hr
theorem within_of {rs : List Rn} {b f : Nat} (ok : ∀ r ∈ rs, r.ok) (hb : deepOf (backs rs) ≤ b) (hf : deepOf (fronts rs) ≤ f) : ∀ r ∈ rs, r.within b f := by
  intro r hr
  cases r with
  | to p => trivial
  | bark s => trivial
  | back n s =>
    have := deepOf_ge (mem_backs hr)
    exact ⟨(ok _ hr).1.1, by omega⟩
  | front n s =>
    have := deepOf_ge (mem_fronts hr)
    exact ⟨(ok _ hr).1.1, by omega⟩
/-- a term, if it matters -/
def tf (m : Nat → Int) (j t : Nat) : Option (Nat × Int) := if t = j ∨ m (t + 1) < m t then some (t, m t) else none
theorem termsL_range (m : Nat → Int) : ∀ (k i : Nat), termsL i ((List.range' i (k + 1)).map m) = (List.range' i (k + 1)).filterMap (tf m (i + k))
  | 0, i => by simp [termsL, tf]
  | k + 1, i => by
    have ih := termsL_range m k (i + 1)
    rw [List.range'_succ, List.range'_succ, List.map_cons, List.map_cons, List.filterMap_cons]
    rw [List.range'_succ, List.map_cons] at ih
    simp only [termsL]
    rw [ih, show i + 1 + k = i + (k + 1) by omega]
    by_cases q : m (i + 1) < m i
    · rw [if_pos q]
      simp [tf, q]
    · rw [if_neg q]
      have : tf m (i + (k + 1)) i = none := by
        unfold tf
        rw [if_neg]
        omega
      rw [this]
theorem row_range' (f : Mp) (j : Nat) : f.row j = (List.range' 0 (j + 1)).map (f.m j) := by
  rw [Mp.row, List.range_eq_range']
theorem terms_row (f : Mp) (j : Nat) : termsL 0 (f.row j) = (List.range' 0 (j + 1)).filterMap (tf (f.m j) j) := by
  rw [row_range', termsL_range, Nat.zero_add]
def sh (b d here own : Nat) (p : Nat × Int) : Nat × Int := (if p.1 = here then own else if b ≤ p.1 then p.1 + d else p.1, p.2)
theorem filterMap_none {α β : Type} {f : α → Option β} : ∀ {l : List α}, (∀ x ∈ l, f x = none) → l.filterMap f = []
  | [], _ => rfl
  | x :: r, h => by
    rw [List.filterMap_cons, h x (by simp)]
    exact filterMap_none fun y hy => h y (by simp [hy])
theorem filterMap_congr' {α β : Type} {f g : α → Option β} : ∀ {l : List α}, (∀ x ∈ l, f x = g x) → l.filterMap f = l.filterMap g
  | [], _ => rfl
  | x :: r, h => by
    rw [List.filterMap_cons, List.filterMap_cons, h x (by simp), filterMap_congr' fun y hy => h y (by simp [hy])]
theorem terms_shift {b d f own : Nat} {G F : Mp} (h : Alike b d (b + f + 1 + d) G F) (ho : own < b + f + 1 + d) : (termsL 0 (F.row (col b d own))).map (sh b d (col b d own) own) = termsL 0 (G.row own) := by
  rw [terms_row, terms_row, List.map_filterMap]
  have G1 : ∀ i, i ≤ own → G.m own i = F.m (col b d own) (col b d i) := fun i hi => h.m own i ho hi
  by_cases c : own < b
  · have e : col b d own = own := by
      unfold col
      rw [if_pos c]
    rw [e] at G1 ⊢
    apply filterMap_congr'
    intro t ht
    have ht' : t ≤ own := by
      simp at ht
      omega
    have e1 : G.m own t = F.m own t := by
      rw [G1 t ht']
      unfold col
      rw [if_pos (by omega)]
    unfold tf
    by_cases z : t = own
    · subst z
      simp [sh, e1]
    · have e2 : G.m own (t + 1) = F.m own (t + 1) := by
        rw [G1 (t + 1) (by omega)]
        unfold col
        rw [if_pos (by omega)]
      rw [e1, e2]
      by_cases q : F.m own (t + 1) < F.m own t
      · simp [q, sh, z, show ¬ (b ≤ t) by omega]
      · simp [q, z]
  · obtain ⟨e, he, hle, hcase⟩ : ∃ e, own = col b d own + e ∧ e ≤ d ∧ (e = d ∨ col b d own = b) := by
      unfold col
      rw [if_neg c]
      by_cases z : own ≤ b + d
      · rw [if_pos z]
        exact ⟨own - b, by omega, by omega, .inr rfl⟩
      · rw [if_neg z]
        exact ⟨d, by omega, by omega, .inl rfl⟩
    have hb : b ≤ col b d own := by
      unfold col
      rw [if_neg c]
      split <;> omega
    have hcol : ∀ t, b ≤ t → t ≤ col b d own → col b d (t + e) = t := by
      intro t t1 t2
      rcases hcase with rfl | hc
      · unfold col
        rw [if_neg (by omega)]
        split <;> omega
      · have : t = b := by omega
        subst this
        have e3 : t + e = own := by omega
        rw [e3, hc]
    generalize hh : col b d own = here at *
    obtain ⟨n, hn⟩ : ∃ n, here + 1 = b + n := ⟨here + 1 - b, by omega⟩
    rw [show own + 1 = b + (e + n) by omega, hn]
    rw [← List.range'_append_1 (s := 0) (m := b) (n := n), ← List.range'_append_1 (s := 0) (m := b) (n := e + n), ← List.range'_append_1 (s := 0 + b) (m := e) (n := n)]
    simp only [List.filterMap_append, Nat.zero_add]
    congr 1
    · apply filterMap_congr'
      intro t ht
      have ht' : t < b := by simpa using ht
      have e1 : G.m own t = F.m here t := by
        rw [G1 t (by omega)]
        congr 1
        unfold col
        rw [if_pos ht']
      have e2 : G.m own (t + 1) = F.m here (t + 1) := by
        rw [G1 (t + 1) (by omega)]
        congr 1
        unfold col
        split
        · rfl
        · rw [if_pos (by omega)]
          omega
      unfold tf
      rw [e1, e2]
      by_cases q : F.m here (t + 1) < F.m here t
      · simp [q, sh, show ¬ (t = here) by omega, show ¬ (b ≤ t) by omega]
      · simp [q, show ¬ (t = here) by omega, show ¬ (t = own) by omega]
    · rw [filterMap_none (l := List.range' b e) ?_, List.nil_append]
      · have e3 : List.range' (b + e) n = (List.range' b n).map (· + e) := by
          rw [Nat.add_comm b e, ← List.map_add_range']
          apply List.map_congr_left
          intro x _
          omega
        rw [e3, List.filterMap_map]
        apply filterMap_congr'
        intro t ht
        have ht' : b ≤ t ∧ t < b + n := by
          simp at ht
          omega
        have e1 : G.m own (t + e) = F.m here t := by rw [G1 (t + e) (by omega), hcol t ht'.1 (by omega)]
        show Option.map (sh b d here own) (tf (F.m here) here t) = tf (G.m own) own (t + e)
        unfold tf
        by_cases z : t = here
        · subst z
          rw [if_pos (.inl rfl), if_pos (.inl (by omega)), e1]
          simp [sh, he]
        · have e2 : G.m own (t + e + 1) = F.m here (t + 1) := by
            rw [show t + e + 1 = t + 1 + e by omega, G1 (t + 1 + e) (by omega), hcol (t + 1) (by omega) (by omega)]
          rw [e1, e2]
          by_cases q : F.m here (t + 1) < F.m here t
          · rw [if_pos (.inr q), if_pos (.inr q)]
            have : e = d := by
              rcases hcase with h | h
              · exact h
              · omega
            simp [sh, z, ht'.1, this]
          · rw [if_neg (by omega), if_neg (by omega)]
            rfl
      · intro t ht
        have ht' : b ≤ t ∧ t < b + e := by
          simp at ht
          omega
        have c1 : col b d t = b := by
          unfold col
          rw [if_neg (by omega), if_pos (by omega)]
        have c2 : col b d (t + 1) = b := by
          unfold col
          rw [if_neg (by omega), if_pos (by omega)]
        unfold tf
        rw [if_neg]
        rw [G1 t (by omega), G1 (t + 1) (by omega), c1, c2]
        omega
set_option Elab.async false
set_option linter.all false
set_option maxRecDepth 100000
set_option maxHeartbeats 4000000
set_option autoImplicit false
/-! The program's defs at data level: forms, moves. -/
def bN (rs : List Rn) : Nat := (deepOf (backs rs)).toNat
def fN (rs : List Rn) : Nat := (deepOf (fronts rs)).toNat
/-- how many sheep in the midst are left out -/
def dN (n : Nat) (rs : List Rn) : Nat := n - (bN rs + fN rs + 1)
theorem bN_eq {rs : List Rn} (ok : ∀ r ∈ rs, r.ok) : deepOf (backs rs) = bN rs ∧ bN rs ≤ 4 := by
  have := deep_back ok
  unfold bN
  omega
theorem fN_eq {rs : List Rn} (ok : ∀ r ∈ rs, r.ok) : deepOf (fronts rs) = fN rs ∧ fN rs ≤ 4 := by
  have := deep_front ok
  unfold fN
  omega
theorem col0 (b i : Nat) : col b 0 i = i := by
  unfold col
  split
  · rfl
  · split <;> omega
/-- a number of sheep, a sheep counted from behind or from in front -/
structure Shp (n own : Nat) (sheep : Int) : Prop where
  lt : own < n
  e : sheep = own ∨ sheep = (own : Int) - n
theorem Shp.own {n own : Nat} {sheep : Int} (h : Shp n own sheep) : (if sheep < 0 then sheep + n else sheep) = own := by
  have := h.lt
  rcases h.e with e | e <;> split <;> omega
/-- slots: 0 drill, 1 many, 2 sheep, 3 few, 4 back, 5 front -/
def B_small : DS :=
  (sSeq (sPar2 4 5 (dDat (dVal (dCall 2 S_deep (dCons (dDat (dVar 0)) (dCons (dDat (dC (.str "back"))) dNil))))) (dDat (dVal (dCall 2 S_deep (dCons (dDat (dVar 0)) (dCons (dDat (dC (.str "front"))) dNil))))))
  (sSeq (sSet 2 (dDat (dIf (dTest (dBin gLt (dVar 2) (dC (.int 0)))) (dBin gAdd (dVar 2) (dVar 1)) (dVar 2))))
  (sSeq (sSet 3 (dDat (dCB gMin2 (dCons (dDat (dVar 1)) (dCons (dDat (dBin gAdd (dBin gAdd (dVar 4) (dVar 5)) (dC (.int 1)))) dNil)))))
  (sSeq (sIf (dtOr (dTest (dBin gEq (dVar 1) (dVar 3))) (dTest (dBin gLt (dVar 2) (dVar 4)))) (sRet (dDat (dTup (dCons (dDat (dVar 3)) (dCons (dDat (dVar 2)) dNil))))) sNil)
  (sRet (dDat (dTup (dCons (dDat (dVar 3)) (dCons (dDat (dIf (dTest (dBin gLe (dBin gSub (dVar 1) (dVar 2)) (dVar 5))) (dBin gAdd (dBin gSub (dVar 3) (dVar 1)) (dVar 2)) (dVar 4))) dNil)))))))))
def S_small : DF := fun ss T Q _ => ∃ (g : Int) (rs : List Rn) (n own : Nat) (sheep : Int), ss = [.dat (drD g rs), .dat (.int n), .dat (.int sheep)] ∧ Shp n own sheep ∧ rs.length ≤ 1000 ∧ (∀ r ∈ rs, r.ok) ∧ Q (.dat (.tup [.int ((n - dN n rs : Nat) : Int), .int (col (bN rs) (dN n rs) own)])) T
theorem h_small : ∀ (ss : List Sl) (T : List Ob) (Q : Sl → List Ob → Prop) (QX : Xn → List Ob → Prop), ss.length = 3 → S_small ss T Q QX → B_small (endsOf T.length Q QX) (startD 6 3 ss T) := by
  intro ss T Q QX hl h
  obtain ⟨g, rs, n, own, sheep, rfl, hs, hr, ok, h⟩ := h
  obtain ⟨eb, b4⟩ := bN_eq ok
  obtain ⟨ef, f4⟩ := fN_eq ok
  have hlt := hs.lt
  unfold B_small
  walk_at "dl"
  refine ⟨g, rs, _, rfl, hr, .inl ⟨rfl, ?_⟩⟩
  walk_at "dl"
  refine ⟨g, rs, _, rfl, hr, .inr ⟨rfl, ?_⟩⟩
  rw [eb, ef]
  walk_at "dl"
  have ho := hs.own
  by_cases c0 : sheep < 0
  case' pos => rw [if_pos c0] at ho ⊢
  case' neg => rw [if_neg c0] at ho ⊢
  all_goals simp only [ho]
  all_goals
    by_cases c : (bN rs : Int) + fN rs + 1 < n
    · rw [if_pos c]
      have e1 : ((n : Int) == (bN rs : Int) + fN rs + 1) = false := by
        simp only [beq_eq_false_iff_ne, ne_eq]
        omega
      rw [e1]
      have ed : (n : Int) - dN n rs = bN rs + fN rs + 1 := by unfold dN; omega
      have en : ((n - dN n rs : Nat) : Int) = bN rs + fN rs + 1 := by unfold dN; omega
      rw [en] at h
      walk_at "dl"
      by_cases c2 : (own : Int) < bN rs
      · rw [if_pos c2]
        unfold col at h
        rw [if_pos (by omega)] at h
        exact h
      · rw [if_neg c2]
        unfold col at h
        rw [if_neg (by omega)] at h
        by_cases c3 : (n : Int) - own ≤ fN rs
        · rw [if_pos c3]
          rw [if_neg (by unfold dN; omega)] at h
          rw [show (bN rs : Int) + fN rs + 1 - n + own = ((own - dN n rs : Nat) : Int) by unfold dN; omega]
          exact h
        · rw [if_neg c3]
          rw [if_pos (by unfold dN; omega)] at h
          exact h
    · rw [if_neg c]
      have ed : dN n rs = 0 := by unfold dN; omega
      rw [ed, col0, Nat.sub_zero] at h
      walk_at "dl"
      exact h
/-- a form -/
def fmD (n : Nat) (rs : List Rn) (own : Nat) : D := .tup [.int (imax ((mpOf n rs).l own) ((mpOf n rs).m own 0)), .tup ((termsL 0 ((mpOf n rs).row own)).map tmD)]
theorem few_terms {n own : Nat} {rs : List Rn} (ok : ∀ r ∈ rs, r.ok) (h : own < n) :
    (termsL 0 ((mpOf (n - dN n rs) rs).row (col (bN rs) (dN n rs) own))).map (sh (bN rs) (dN n rs) (col (bN rs) (dN n rs) own) own) = termsL 0 ((mpOf n rs).row own) ∧
    (mpOf (n - dN n rs) rs).l (col (bN rs) (dN n rs) own) = (mpOf n rs).l own ∧ (mpOf (n - dN n rs) rs).m (col (bN rs) (dN n rs) own) 0 = (mpOf n rs).m own 0 := by
  by_cases c : dN n rs = 0
  · rw [c, col0, Nat.sub_zero]
    refine ⟨?_, rfl, rfl⟩
    conv => rhs; rw [← List.map_id (termsL 0 ((mpOf n rs).row own))]
    apply List.map_congr_left
    intro p _
    unfold sh
    by_cases z : p.1 = own
    · rw [if_pos z, ← z]
      rfl
    · rw [if_neg z]
      by_cases q : bN rs ≤ p.1
      · rw [if_pos q]
        rfl
      · rw [if_neg q]
        rfl
  · obtain ⟨eb, b4⟩ := bN_eq ok
    obtain ⟨ef, f4⟩ := fN_eq ok
    have en : n = bN rs + fN rs + 1 + dN n rs := by unfold dN at c ⊢; omega
    generalize dN n rs = d at *
    subst en
    rw [Nat.add_sub_cancel]
    have A := alike_mp (b := bN rs) (f := fN rs) (d := d) (within_of ok (by omega) (by omega))
    refine ⟨terms_shift A h, (A.l own h).symm, ?_⟩
    rw [A.m own 0 h (Nat.zero_le _)]
    congr 1
    unfold col
    split
    · rfl
    · rw [if_pos (by omega)]
      omega
/-- slots: 0 drill, 1 many, 2 sheep, 3 own, 4 few, 5 here, 6 least, 7 terms, 8 back, 9 found, 10 at, 11 more -/
def B_pair_of : DS :=
  (sSeq (sTo (dVal (dCall 3 S_small (dCons (dDat (dVar 0)) (dCons (dDat (dVar 1)) (dCons (dDat (dVar 2)) dNil))))) (gTp 2 (gCs (gNm 4) (gCs (gNm 5) gNl))))
  (sSeq (sTo (dVal (dCall 1 S_terms_of (dCons (dDat (dBin gIx (dVal (dCall 2 S_map_of (dCons (dDat (dVar 0)) (dCons (dDat (dVar 4)) dNil)))) (dVar 5))) dNil))) (gTp 2 (gCs (gNm 6) (gCs (gNm 7) gNl))))
  (sSeq (sSet 3 (dDat (dIf (dTest (dBin gLt (dVar 2) (dC (.int 0)))) (dBin gAdd (dVar 2) (dVar 1)) (dVar 2))))
  (sSeq (sPar2 8 9 (dDat (dVal (dCall 2 S_deep (dCons (dDat (dVar 0)) (dCons (dDat (dC (.str "back"))) dNil))))) (dNew dNil))
  (sSeq (sFor (dSeq (dVar 7)) (gTp 2 (gCs (gNm 10) (gCs (gNm 11) gNl))) (sSeq (sIf (dTest (dBin gEq (dVar 10) (dVar 5))) (sSet 10 (dDat (dVar 3))) (sIf (dTest (dBin gGe (dVar 10) (dVar 8))) (sSet 10 (dDat (dBin gSub (dBin gAdd (dVar 10) (dVar 1)) (dVar 4)))) sNil))
  (sApp 9 (dTup (dCons (dDat (dVar 10)) (dCons (dDat (dVar 11)) dNil))))))
  (sRet (dDat (dTup (dCons (dDat (dVar 6)) (dCons (dDat (dCB gTuple (dCons (dDat (dVar 9)) dNil))) dNil))))))))))
def S_pair_of : DF := fun ss T Q _ => ∃ (g : Int) (rs : List Rn) (n own : Nat) (sheep : Int), ss = [.dat (drD g rs), .dat (.int n), .dat (.int sheep)] ∧ Shp n own sheep ∧ rs.length ≤ 1000 ∧ (∀ r ∈ rs, r.ok) ∧ Q (.dat (fmD n rs own)) T
theorem h_pair_of : ∀ (ss : List Sl) (T : List Ob) (Q : Sl → List Ob → Prop) (QX : Xn → List Ob → Prop), ss.length = 3 → S_pair_of ss T Q QX → B_pair_of (endsOf T.length Q QX) (startD 12 3 ss T) := by
  intro ss T Q QX hl h
  obtain ⟨g, rs, n, own, sheep, rfl, hs, hr, ok, h⟩ := h
  obtain ⟨eb, b4⟩ := bN_eq ok
  obtain ⟨ef, f4⟩ := fN_eq ok
  have hlt := hs.lt
  obtain ⟨k1, k2, k3⟩ := few_terms ok hlt
  have few9 : n - dN n rs ≤ 9 := by unfold dN; omega
  have hc : col (bN rs) (dN n rs) own < n - dN n rs := by
    unfold col
    split
    · unfold dN; omega
    · split <;> unfold dN at * <;> omega
  have ed : ((n - dN n rs : Nat) : Int) = (n : Int) - dN n rs := by unfold dN; omega
  unfold fmD at h
  rw [← k1, ← k2, ← k3] at h
  generalize hF : mpOf (n - dN n rs) rs = F at h
  generalize hh : col (bN rs) (dN n rs) own = here at h hc
  unfold B_pair_of
  walk_at "dl"
  refine ⟨g, rs, n, own, sheep, rfl, hs, hr, ok, ?_⟩
  rw [hh]
  walk_at "dl"
  refine ⟨g, rs, n - dN n rs, rfl, by omega, ok, ?_⟩
  rw [hF]
  walk_at "dl"
  rw [atI_nat, F.D_at hc]
  walk_at "dl"
  refine ⟨F.l here, F.row here, rfl, by rw [Mp.row_len]; omega, by rw [Mp.row_len]; omega, ?_⟩
  walk_at "dl"
  rw [show (F.row here).headD 0 = F.m here 0 by
    unfold Mp.row
    rw [List.range_succ_eq_map]
    rfl]
  have ho := hs.own
  by_cases c0 : sheep < 0
  case' pos => rw [if_pos c0] at ho ⊢
  case' neg => rw [if_neg c0] at ho ⊢
  all_goals simp only [ho]
  all_goals
    walk_at "dl"
    refine ⟨g, rs, _, rfl, hr, .inl ⟨rfl, ?_⟩⟩
    rw [eb]
    walk_at "dl"
    have tl := termsL_len (F.row here) 0
    rw [Mp.row_len] at tl
    generalize termsL 0 (F.row here) = ts at h tl
    refine loop_inv (fun ds ρ => ∃ (done : List (Nat × Int)) (rest : List (Nat × Int)) (u v w2 : Option Sl), ρ = ⟨T ++ [.lst (done.map tmD)], [some (.dat (drD g rs)), some (.dat (.int n)), w2, some (.dat (.int own)), some (.dat (.int ((n - dN n rs : Nat) : Int))), some (.dat (.int here)), some (.dat (.int (imax (F.l here) (F.m here 0)))), some (.dat (.tup (ts.map tmD))), some (.dat (.int (bN rs))), some (.ob T.length), u, v]⟩ ∧
      ds = rest.map tmD ∧ done ++ rest.map (sh (bN rs) (dN n rs) here own) = ts.map (sh (bN rs) (dN n rs) here own)) ?_ ?_ _ _ ?_
    · rintro d ds ρ ⟨done, rest, u, v, w2, rfl, e, hc2⟩ N hN
      cases rest with
      | nil => cases e
      | cons p rest =>
        cases e
        obtain ⟨t, x⟩ := p
        have hlen := congrArg List.length hc2
        simp only [List.length_append, List.length_map, List.length_cons] at hlen
        simp only [tmD]
        walk_at "dl"
        by_cases c1 : t = here
        · subst c1
          rw [if_pos (by simp)]
          refine ⟨by rw [sizeLine_eq]; omega, hN _ ⟨done ++ [(own, x)], rest, some (.dat (.int own)), some (.dat (.int x)), w2, by simp [tmD], rfl, ?_⟩⟩
          rw [← hc2]
          simp [sh]
        · rw [if_neg (by simp; omega)]
          by_cases c2 : (bN rs : Int) ≤ t
          · rw [if_pos c2]
            refine ⟨by rw [sizeLine_eq]; omega, hN _ ⟨done ++ [(t + dN n rs, x)], rest, some (.dat (.int ((t + dN n rs : Nat) : Int))), some (.dat (.int x)), w2, ?_, rfl, ?_⟩⟩
            · rw [show (t : Int) + n - ((n - dN n rs : Nat) : Int) = ((t + dN n rs : Nat) : Int) by omega]
              simp [tmD]
            · rw [← hc2]
              simp [sh, c1, show bN rs ≤ t by omega]
          · rw [if_neg c2]
            refine ⟨by rw [sizeLine_eq]; omega, hN _ ⟨done ++ [(t, x)], rest, some (.dat (.int t)), some (.dat (.int x)), w2, by simp [tmD], rfl, ?_⟩⟩
            rw [← hc2]
            simp [sh, c1, show ¬ (bN rs ≤ t) by omega]
    · rintro ρ ⟨done, rest, u, v, w2, rfl, e, hc2⟩
      have hr : rest = [] := by
        cases rest with
        | nil => rfl
        | cons y rest => cases e
      subst hr
      simp only [List.map_nil, List.append_nil] at hc2
      rw [← hc2] at h
      walk_at "dl"
      exact h
    · exact ⟨[], ts, none, none, _, rfl, rfl, rfl⟩
set_option Elab.async false
set_option linter.all false
set_option maxRecDepth 100000
set_option maxHeartbeats 4000000
set_option autoImplicit false
/-! The program's defs at data level: form. -/
/-- slots: 0 value -/
def B_need_many : DS :=
  (sIf (dtNot (dTest (dVal (dCall 3 S_is_int (dCons (dDat (dVar 0)) (dCons (dDat (dC (.int 1))) (dCons (dDat (dC (.int 1000000000000000000000000000000))) dNil))))))) (sRaise "InvalidMany") sNil)
def S_need_many : DF := fun ss T Q QX => ∃ m : D, ss = [.dat m] ∧ okd 60 m = true ∧ ((isInt m 1 1000000000000000000000000000000 = true ∧ Q (.dat .non) T) ∨ (isInt m 1 1000000000000000000000000000000 = false ∧ QX ⟨"InvalidMany", none⟩ T))
theorem h_need_many : ∀ (ss : List Sl) (T : List Ob) (Q : Sl → List Ob → Prop) (QX : Xn → List Ob → Prop), ss.length = 1 → S_need_many ss T Q QX → B_need_many (endsOf T.length Q QX) (startD 1 1 ss T) := by
  intro ss T Q QX hl h
  obtain ⟨m, rfl, ok, h⟩ := h
  unfold B_need_many
  walk_at "dl"
  refine ⟨ok, ?_⟩
  rcases h with ⟨f, h⟩ | ⟨f, h⟩
  all_goals
    rw [f]
    walk_at "dl"
  · exact h
  · exact h
theorem many_ok {n : Int} (h1 : 1 ≤ n) (h2 : n ≤ 10 ^ 30) : isInt (.int n) 1 1000000000000000000000000000000 = true := isInt_int h1 (by simpa only [Int.reducePow] using h2)
/-- slots: 0 many, 1 value -/
def B_need_sheep : DS :=
  (sIf (dtNot (dTest (dVal (dCall 3 S_is_int (dCons (dDat (dVar 1)) (dCons (dDat (dUn gNeg (dVar 0))) (dCons (dDat (dBin gSub (dVar 0) (dC (.int 1)))) dNil))))))) (sRaise "InvalidSheep") sNil)
def S_need_sheep : DF := fun ss T Q QX => ∃ (n : Int) (s : D), ss = [.dat (.int n), .dat s] ∧ okd 60 s = true ∧ ((isInt s (-n) (n - 1) = true ∧ Q (.dat .non) T) ∨ (isInt s (-n) (n - 1) = false ∧ QX ⟨"InvalidSheep", none⟩ T))
theorem h_need_sheep : ∀ (ss : List Sl) (T : List Ob) (Q : Sl → List Ob → Prop) (QX : Xn → List Ob → Prop), ss.length = 2 → S_need_sheep ss T Q QX → B_need_sheep (endsOf T.length Q QX) (startD 2 2 ss T) := by
  intro ss T Q QX hl h
  obtain ⟨n, s, rfl, ok, h⟩ := h
  unfold B_need_sheep
  walk_at "dl"
  refine ⟨ok, ?_⟩
  rcases h with ⟨f, h⟩ | ⟨f, h⟩
  all_goals
    rw [f]
    walk_at "dl"
  · exact h
  · exact h
theorem sheep_ok {n own : Nat} {sheep : Int} (hs : Shp n own sheep) : isInt (.int sheep) (-(n : Int)) ((n : Int) - 1) = true := by
  have := hs.lt
  exact isInt_int (by rcases hs.e with e | e <;> omega) (by rcases hs.e with e | e <;> omega)
/-- which error is raised of a drill, a number of sheep and a sheep -/
def askErr (d m s : D) (QX : Xn → List Ob → Prop) (T : List Ob) : Prop := okd 60 d = true ∧ okd 60 m = true ∧ okd 60 s = true ∧
  ((fitsB d = false ∧ QX ⟨"InvalidDrill", none⟩ T) ∨ (fitsB d = true ∧ isInt m 1 1000000000000000000000000000000 = false ∧ QX ⟨"InvalidMany", none⟩ T) ∨
  (fitsB d = true ∧ ∃ n : Int, m = .int n ∧ 1 ≤ n ∧ n ≤ 10 ^ 30 ∧ isInt s (-n) (n - 1) = false ∧ QX ⟨"InvalidSheep", none⟩ T))
/-- what the defs that are asked about one sheep are given -/
structure Asked (g : Int) (rs : List Rn) (n own : Nat) (sheep : Int) : Prop where
  dr : DrOk g rs
  n30 : (n : Int) ≤ 10 ^ 30
  s : Shp n own sheep
theorem Asked.l1000 {g : Int} {rs : List Rn} {n own : Nat} {sheep : Int} (h : Asked g rs n own sheep) : rs.length ≤ 1000 := Nat.le_trans h.dr.l8 (by decide)
/-- slots: 0 drill, 1 many, 2 sheep -/
def B_form : DS :=
  (sSeq (sDrop (dCall 1 S_need_drill (dCons (dDat (dVar 0)) dNil)))
  (sSeq (sDrop (dCall 1 S_need_many (dCons (dDat (dVar 1)) dNil)))
  (sSeq (sDrop (dCall 2 S_need_sheep (dCons (dDat (dVar 1)) (dCons (dDat (dVar 2)) dNil))))
  (sRet (dDat (dVal (dCall 3 S_pair_of (dCons (dDat (dVar 0)) (dCons (dDat (dVar 1)) (dCons (dDat (dVar 2)) dNil))))))))))
def S_form : DF := fun ss T Q QX => (∃ (g : Int) (rs : List Rn) (n own : Nat) (sheep : Int), ss = [.dat (drD g rs), .dat (.int n), .dat (.int sheep)] ∧ Asked g rs n own sheep ∧ Q (.dat (fmD n rs own)) T) ∨ ∃ d m s : D, ss = [.dat d, .dat m, .dat s] ∧ askErr d m s QX T
theorem h_form : ∀ (ss : List Sl) (T : List Ob) (Q : Sl → List Ob → Prop) (QX : Xn → List Ob → Prop), ss.length = 3 → S_form ss T Q QX → B_form (endsOf T.length Q QX) (startD 3 3 ss T) := by
  intro ss T Q QX hl h
  rcases h with h | ⟨d, m, s, rfl, ok1, ok2, ok3, h⟩
  rotate_left
  · unfold B_form
    walk_at "dl"
    simp only [S_need_drill]
    rcases h with ⟨f, h⟩ | ⟨f, f2, h⟩ | ⟨f, n, rfl, n1, n2, f3, h⟩
    · exact ⟨ok1, .inr ⟨f, by walk_at "dl"; exact h⟩⟩
    · refine ⟨ok1, .inl ⟨f, ?_⟩⟩
      walk_at "dl"
      exact ⟨m, rfl, ok2, .inr ⟨f2, by walk_at "dl"; exact h⟩⟩
    · refine ⟨ok1, .inl ⟨f, ?_⟩⟩
      walk_at "dl"
      refine ⟨.int n, rfl, ok2, .inl ⟨many_ok n1 n2, ?_⟩⟩
      walk_at "dl"
      exact ⟨n, s, rfl, ok3, .inr ⟨f3, by walk_at "dl"; exact h⟩⟩
  obtain ⟨g, rs, n, own, sheep, rfl, ha, h⟩ := h
  have := ha.s.lt
  unfold B_form
  walk_at "dl"
  simp only [S_need_drill]
  refine ⟨okd_drD g rs 57, .inl ⟨ha.dr.fits, ?_⟩⟩
  walk_at "dl"
  refine ⟨.int n, rfl, by simp [okd], .inl ⟨many_ok (by omega) ha.n30, ?_⟩⟩
  walk_at "dl"
  refine ⟨n, .int sheep, rfl, by simp [okd], .inl ⟨sheep_ok ha.s, ?_⟩⟩
  walk_at "dl"
  refine ⟨g, rs, n, own, sheep, rfl, ha.s, ha.l1000, ha.dr.ok, ?_⟩
  walk_at "dl"
  exact h
set_option Elab.async false
set_option linter.all false
set_option maxRecDepth 100000
set_option maxHeartbeats 4000000
set_option autoImplicit false
/-! The program's defs at data level: moves, least_place. -/
theorem terms_last (f : Mp) (j : Nat) : ∃ l, termsL 0 (f.row j) = l ++ [(j, f.m j j)] := by
  rw [terms_row, ← List.range'_append_1 (s := 0) (m := j) (n := 1), Nat.zero_add]
  refine ⟨(List.range' 0 j).filterMap (tf (f.m j) j), ?_⟩
  rw [List.filterMap_append]
  simp [tf, List.range']
/-- slots: 0 drill, 1 many, 2 sheep, 3 least, 4 terms -/
def B_moves : DS :=
  (sSeq (sDrop (dCall 1 S_need_drill (dCons (dDat (dVar 0)) dNil)))
  (sSeq (sDrop (dCall 1 S_need_many (dCons (dDat (dVar 1)) dNil)))
  (sSeq (sDrop (dCall 2 S_need_sheep (dCons (dDat (dVar 1)) (dCons (dDat (dVar 2)) dNil))))
  (sSeq (sTo (dVal (dCall 3 S_pair_of (dCons (dDat (dVar 0)) (dCons (dDat (dVar 1)) (dCons (dDat (dVar 2)) dNil))))) (gTp 2 (gCs (gNm 3) (gCs (gNm 4) gNl))))
  (sRet (dDat (dTup (dCons (dDat (dBin gIx (dBin gIx (dVar 4) (dUn gNeg (dC (.int 1)))) (dC (.int 1)))) (dCons (dDat (dVar 3)) dNil)))))))))
def S_moves : DF := fun ss T Q QX => (∃ (g : Int) (rs : List Rn) (n own : Nat) (sheep : Int), ss = [.dat (drD g rs), .dat (.int n), .dat (.int sheep)] ∧ Asked g rs n own sheep ∧ Q (.dat (.tup [.int ((mpOf n rs).m own own), .int (imax ((mpOf n rs).l own) ((mpOf n rs).m own 0))])) T) ∨ ∃ d m s : D, ss = [.dat d, .dat m, .dat s] ∧ askErr d m s QX T
theorem h_moves : ∀ (ss : List Sl) (T : List Ob) (Q : Sl → List Ob → Prop) (QX : Xn → List Ob → Prop), ss.length = 3 → S_moves ss T Q QX → B_moves (endsOf T.length Q QX) (startD 5 3 ss T) := by
  intro ss T Q QX hl h
  rcases h with h | ⟨d, m, s, rfl, ok1, ok2, ok3, h⟩
  rotate_left
  · unfold B_moves
    walk_at "dl"
    simp only [S_need_drill]
    rcases h with ⟨f, h⟩ | ⟨f, f2, h⟩ | ⟨f, n, rfl, n1, n2, f3, h⟩
    · exact ⟨ok1, .inr ⟨f, by walk_at "dl"; exact h⟩⟩
    · refine ⟨ok1, .inl ⟨f, ?_⟩⟩
      walk_at "dl"
      exact ⟨m, rfl, ok2, .inr ⟨f2, by walk_at "dl"; exact h⟩⟩
    · refine ⟨ok1, .inl ⟨f, ?_⟩⟩
      walk_at "dl"
      refine ⟨.int n, rfl, ok2, .inl ⟨many_ok n1 n2, ?_⟩⟩
      walk_at "dl"
      exact ⟨n, s, rfl, ok3, .inr ⟨f3, by walk_at "dl"; exact h⟩⟩
  obtain ⟨g, rs, n, own, sheep, rfl, ha, h⟩ := h
  have := ha.s.lt
  unfold B_moves
  walk_at "dl"
  simp only [S_need_drill]
  refine ⟨okd_drD g rs 57, .inl ⟨ha.dr.fits, ?_⟩⟩
  walk_at "dl"
  refine ⟨.int n, rfl, by simp [okd], .inl ⟨many_ok (by omega) ha.n30, ?_⟩⟩
  walk_at "dl"
  refine ⟨n, .int sheep, rfl, by simp [okd], .inl ⟨sheep_ok ha.s, ?_⟩⟩
  walk_at "dl"
  refine ⟨g, rs, n, own, sheep, rfl, ha.s, ha.l1000, ha.dr.ok, ?_⟩
  obtain ⟨l, e⟩ := terms_last (mpOf n rs) own
  simp only [fmD, e, List.map_append, List.map_cons, List.map_nil]
  walk_at "dl"
  rw [atI_last]
  simp only [tmD]
  walk_at "dl"
  exact h
/-- slots: 0 drill, 1 many, 2 sheep, 3 own -/
def B_least_place : DS :=
  (sSeq (sDrop (dCall 1 S_need_drill (dCons (dDat (dVar 0)) dNil)))
  (sSeq (sDrop (dCall 1 S_need_many (dCons (dDat (dVar 1)) dNil)))
  (sSeq (sDrop (dCall 2 S_need_sheep (dCons (dDat (dVar 1)) (dCons (dDat (dVar 2)) dNil))))
  (sSeq (sSet 3 (dDat (dIf (dTest (dBin gLt (dVar 2) (dC (.int 0)))) (dBin gAdd (dVar 2) (dVar 1)) (dVar 2))))
  (sRet (dDat (dBin gAdd (dBin gIx (dVal (dCall 3 S_pair_of (dCons (dDat (dVar 0)) (dCons (dDat (dVar 1)) (dCons (dDat (dVar 2)) dNil))))) (dC (.int 0))) (dBin gMulB (dVar 3) (dBin gIx (dVar 0) (dC (.int 0)))))))))))
def S_least_place : DF := fun ss T Q QX => (∃ (g : Int) (rs : List Rn) (n own : Nat) (sheep : Int), ss = [.dat (drD g rs), .dat (.int n), .dat (.int sheep)] ∧ Asked g rs n own sheep ∧ Q (.dat (.int (imax ((mpOf n rs).l own) ((mpOf n rs).m own 0) + own * g))) T) ∨ ∃ d m s : D, ss = [.dat d, .dat m, .dat s] ∧ askErr d m s QX T
theorem h_least_place : ∀ (ss : List Sl) (T : List Ob) (Q : Sl → List Ob → Prop) (QX : Xn → List Ob → Prop), ss.length = 3 → S_least_place ss T Q QX → B_least_place (endsOf T.length Q QX) (startD 4 3 ss T) := by
  intro ss T Q QX hl h
  rcases h with h | ⟨d, m, s, rfl, ok1, ok2, ok3, h⟩
  rotate_left
  · unfold B_least_place
    walk_at "dl"
    simp only [S_need_drill]
    rcases h with ⟨f, h⟩ | ⟨f, f2, h⟩ | ⟨f, n, rfl, n1, n2, f3, h⟩
    · exact ⟨ok1, .inr ⟨f, by walk_at "dl"; exact h⟩⟩
    · refine ⟨ok1, .inl ⟨f, ?_⟩⟩
      walk_at "dl"
      exact ⟨m, rfl, ok2, .inr ⟨f2, by walk_at "dl"; exact h⟩⟩
    · refine ⟨ok1, .inl ⟨f, ?_⟩⟩
      walk_at "dl"
      refine ⟨.int n, rfl, ok2, .inl ⟨many_ok n1 n2, ?_⟩⟩
      walk_at "dl"
      exact ⟨n, s, rfl, ok3, .inr ⟨f3, by walk_at "dl"; exact h⟩⟩
  obtain ⟨g, rs, n, own, sheep, rfl, ha, h⟩ := h
  have hlt := ha.s.lt
  have n30 := ha.n30
  have g1 := ha.dr.g1
  have g9 := ha.dr.g9
  simp only [Int.reducePow] at n30
  unfold B_least_place
  simp only [drD]
  walk_at "dl"
  simp only [S_need_drill]
  refine ⟨okd_drD g rs 57, .inl ⟨ha.dr.fits, ?_⟩⟩
  walk_at "dl"
  refine ⟨.int n, rfl, by simp [okd], .inl ⟨many_ok (by omega) ha.n30, ?_⟩⟩
  walk_at "dl"
  refine ⟨n, .int sheep, rfl, by simp [okd], .inl ⟨sheep_ok ha.s, ?_⟩⟩
  walk_at "dl"
  have ho := ha.s.own
  by_cases c0 : sheep < 0
  case' pos => rw [if_pos c0] at ho ⊢
  case' neg => rw [if_neg c0] at ho ⊢
  all_goals
    refine ⟨g, rs, n, own, sheep, rfl, ha.s, ha.l1000, ha.dr.ok, ?_⟩
    simp only [fmD]
    walk_at "dl"
    try rw [ho]
    exact ⟨cmulW (by omega) (by omega), h⟩
set_option Elab.async false
set_option linter.all false
set_option maxRecDepth 100000
set_option maxHeartbeats 4000000
set_option autoImplicit false
/-! Law k16: what is wanted of two drills, of posts and of sheep that are parted; defs whose promise is never used. -/
namespace V
/-- what is given a value that is no drill -/
def S_odd : DF := fun ss T _ QX => ∃ d : D, ss = [.dat d] ∧ okd 60 d = true ∧ fitsB d = false ∧ QX ⟨"InvalidDrill", none⟩ T
theorem rangeD_map1 (n : Nat) : rangeD 1 ((n : Int) + 1) = (List.range' 1 n).map fun (k : Nat) => D.int k := by
  unfold rangeD
  rw [show ((n : Int) + 1 - 1).toNat = n by omega, List.range'_eq_map_range, List.map_map]
  apply List.map_congr_left
  intro k _
  simp
theorem cut_init {α : Type} (l : List α) (x : α) : cutL (l ++ [x]) none (some (-1)) = l := by
  unfold cutL
  rw [HT.sIx_none, show HT.sIx (l ++ [x]).length (l ++ [x]).length (some (-1)) = l.length by
    simp only [HT.sIx]
    rw [if_pos (by decide)]
    simp
    omega]
  simp
/-- slots: 0 drill, 1 other, 2 back -/
def B_enough : DS :=
  (sSeq (sSet 2 (dDat (dCB gMax2 (dCons (dDat (dVal (dCall 2 S_deep (dCons (dDat (dVar 0)) (dCons (dDat (dC (.str "back"))) dNil))))) (dCons (dDat (dVal (dCall 2 S_deep (dCons (dDat (dVar 1)) (dCons (dDat (dC (.str "back"))) dNil))))) dNil)))))
  (sRet (dDat (dBin gAdd (dBin gAdd (dVar 2) (dCB gMax2 (dCons (dDat (dVal (dCall 2 S_deep (dCons (dDat (dVar 0)) (dCons (dDat (dC (.str "front"))) dNil))))) (dCons (dDat (dVal (dCall 2 S_deep (dCons (dDat (dVar 1)) (dCons (dDat (dC (.str "front"))) dNil))))) dNil)))) (dC (.int 1))))))
def S_enough : DF := fun ss T Q _ => ∃ (g g' : Int) (rs rs' : List Rn), ss = [.dat (drD g rs), .dat (drD g' rs')] ∧ rs.length ≤ 1000 ∧ rs'.length ≤ 1000 ∧ (∀ r ∈ rs, r.ok) ∧ (∀ r ∈ rs', r.ok) ∧ Q (.dat (.int ((max (bN rs) (bN rs') + max (fN rs) (fN rs') + 1 : Nat) : Int))) T
theorem h_enough : ∀ (ss : List Sl) (T : List Ob) (Q : Sl → List Ob → Prop) (QX : Xn → List Ob → Prop), ss.length = 2 → S_enough ss T Q QX → B_enough (endsOf T.length Q QX) (startD 3 2 ss T) := by
  intro ss T Q QX hl h
  obtain ⟨g, g', rs, rs', rfl, h1, h2, o1, o2, h⟩ := h
  obtain ⟨eb, b4⟩ := bN_eq o1
  obtain ⟨ef, f4⟩ := fN_eq o1
  obtain ⟨eb', b4'⟩ := bN_eq o2
  obtain ⟨ef', f4'⟩ := fN_eq o2
  unfold B_enough
  walk_at "dl"
  refine ⟨g, rs, _, rfl, h1, .inl ⟨rfl, ?_⟩⟩
  walk_at "dl"
  refine ⟨g', rs', _, rfl, h2, .inl ⟨rfl, ?_⟩⟩
  rw [eb, eb']
  walk_at "dl"
  refine ⟨g, rs, _, rfl, h1, .inr ⟨rfl, ?_⟩⟩
  walk_at "dl"
  refine ⟨g', rs', _, rfl, h2, .inr ⟨rfl, ?_⟩⟩
  rw [ef, ef']
  walk_at "dl"
  have e : (if (bN rs' : Int) > bN rs then (bN rs' : Int) else bN rs) + (if (fN rs' : Int) > fN rs then (fN rs' : Int) else fN rs) + 1 = ((max (bN rs) (bN rs') + max (fN rs) (fN rs') + 1 : Nat) : Int) := by
    split <;> split <;> omega
  have e' := e
  simp only [gt_iff_lt] at e'
  first | rw [e] | rw [e']
  exact h
/-- which error is raised of two drills -/
def bothErr (d e : D) (QX : Xn → List Ob → Prop) (T : List Ob) : Prop := okd 60 d = true ∧ okd 60 e = true ∧
  ((fitsB d = false ∧ QX ⟨"InvalidDrill", none⟩ T) ∨ (fitsB d = true ∧ fitsB e = false ∧ QX ⟨"InvalidDrill", none⟩ T) ∨
  (∃ (g g' : Int) (rs rs' : List Rn), d = drD g rs ∧ e = drD g' rs' ∧ DrOk g rs ∧ DrOk g' rs' ∧ g ≠ g' ∧ QX ⟨"Unlike", none⟩ T))
/-- slots: 0 one, 1 other -/
def B_need_both : DS :=
  (sSeq (sDrop (dCall 1 S_need_drill (dCons (dDat (dVar 0)) dNil)))
  (sSeq (sDrop (dCall 1 S_need_drill (dCons (dDat (dVar 1)) dNil)))
  (sIf (dTest (dBin gNe (dBin gIx (dVar 0) (dC (.int 0))) (dBin gIx (dVar 1) (dC (.int 0))))) (sRaise "Unlike") sNil)))
def S_need_both : DF := fun ss T Q QX => (∃ (g : Int) (rs rs' : List Rn), ss = [.dat (drD g rs), .dat (drD g rs')] ∧ DrOk g rs ∧ DrOk g rs' ∧ Q (.dat .non) T) ∨ ∃ d e : D, ss = [.dat d, .dat e] ∧ bothErr d e QX T
theorem h_need_both : ∀ (ss : List Sl) (T : List Ob) (Q : Sl → List Ob → Prop) (QX : Xn → List Ob → Prop), ss.length = 2 → S_need_both ss T Q QX → B_need_both (endsOf T.length Q QX) (startD 2 2 ss T) := by
  intro ss T Q QX hl h
  rcases h with ⟨g, rs, rs', rfl, h1, h2, h⟩ | ⟨d, e, rfl, ok1, ok2, h⟩
  · unfold B_need_both
    walk_at "dl"
    simp only [S_need_drill]
    refine ⟨okd_drD g rs 57, .inl ⟨h1.fits, ?_⟩⟩
    walk_at "dl"
    refine ⟨okd_drD g rs' 57, .inl ⟨h2.fits, ?_⟩⟩
    simp only [drD]
    walk_at "dl"
    try simp only [beq_self_eq_true]
    walk_at "dl"
    exact h
  · unfold B_need_both
    walk_at "dl"
    simp only [S_need_drill]
    rcases h with ⟨f, h⟩ | ⟨f, f2, h⟩ | ⟨g, g', rs, rs', rfl, rfl, h1, h2, ne, h⟩
    · exact ⟨ok1, .inr ⟨f, by walk_at "dl"; exact h⟩⟩
    · refine ⟨ok1, .inl ⟨f, ?_⟩⟩
      walk_at "dl"
      exact ⟨ok2, .inr ⟨f2, by walk_at "dl"; exact h⟩⟩
    · refine ⟨ok1, .inl ⟨h1.fits, ?_⟩⟩
      walk_at "dl"
      refine ⟨ok2, .inl ⟨h2.fits, ?_⟩⟩
      simp only [drD]
      have e : (g == g') = false := by simpa using ne
      walk_at "dl"
      rw [e]
      walk_at "dl"
      exact h
theorem both_walk {d e : D} {QX : Xn → List Ob → Prop} {T : List Ob} (h : bothErr d e QX T) (Q : Sl → List Ob → Prop) (QX' : Xn → List Ob → Prop) (hx : ∀ x, QX x T → QX' x T) : S_need_both [.dat d, .dat e] T Q QX' := by
  obtain ⟨ok1, ok2, h⟩ := h
  refine .inr ⟨d, e, rfl, ok1, ok2, ?_⟩
  rcases h with ⟨f, h⟩ | ⟨f, f2, h⟩ | ⟨g, g', rs, rs', e1, e2, h1, h2, ne, h⟩
  · exact .inl ⟨f, hx _ h⟩
  · exact .inr (.inl ⟨f, f2, hx _ h⟩)
  · exact .inr (.inr ⟨g, g', rs, rs', e1, e2, h1, h2, ne, hx _ h⟩)
/-- slots: 0 one, 1 other -/
def B_never_behind : DS :=
  (sSeq (sDrop (dCall 2 S_need_both (dCons (dDat (dVar 0)) (dCons (dDat (dVar 1)) dNil))))
  sNever)
def S_never_behind : DF := fun ss T _ QX => ∃ d e : D, ss = [.dat d, .dat e] ∧ bothErr d e QX T
theorem h_never_behind : ∀ (ss : List Sl) (T : List Ob) (Q : Sl → List Ob → Prop) (QX : Xn → List Ob → Prop), ss.length = 2 → S_never_behind ss T Q QX → B_never_behind (endsOf T.length Q QX) (startD 2 2 ss T) := by
  intro ss T Q QX hl h
  obtain ⟨d, e, rfl, h⟩ := h
  unfold B_never_behind
  walk_at "dl"
  refine both_walk h _ _ fun x hx => ?_
  walk_at "dl"
  exact hx
/-- slots: 0 one, 1 other -/
def B_first_behind : DS :=
  (sSeq (sDrop (dCall 2 S_need_both (dCons (dDat (dVar 0)) (dCons (dDat (dVar 1)) dNil))))
  sNever)
def S_first_behind : DF := fun ss T _ QX => ∃ d e : D, ss = [.dat d, .dat e] ∧ bothErr d e QX T
theorem h_first_behind : ∀ (ss : List Sl) (T : List Ob) (Q : Sl → List Ob → Prop) (QX : Xn → List Ob → Prop), ss.length = 2 → S_first_behind ss T Q QX → B_first_behind (endsOf T.length Q QX) (startD 2 2 ss T) := by
  intro ss T Q QX hl h
  obtain ⟨d, e, rfl, h⟩ := h
  unfold B_first_behind
  walk_at "dl"
  refine both_walk h _ _ fun x hx => ?_
  walk_at "dl"
  exact hx
/-- what is left of early when its last ones like later are taken off -/
def cutSame (later : D) : List D → List D
  | [] => []
  | x :: r => match cutSame later r with
    | [] => if deq x later = true then [] else [x]
    | y :: s => x :: y :: s
theorem cutSame_snoc (later x : D) : ∀ l : List D, cutSame later (l ++ [x]) = if deq x later = true then cutSame later l else l ++ [x]
  | [] => by simp [cutSame]
  | y :: l => by
    have ih := cutSame_snoc later x l
    simp only [List.cons_append, cutSame, ih]
    by_cases q : deq x later = true
    · simp only [if_pos q]
    · simp only [if_neg q]
      cases l <;> rfl
/-- slots: 0 items, 1 early, 2 later -/
def B_shortened : DS :=
  (sSeq (sPar2 1 2 (dDat (dCB gTuple (dCons (dDat (dSl (dVar 0) dNo (dSo (dUn gNeg (dC (.int 1)))))) dNil))) (dDat (dBin gIx (dVar 0) (dUn gNeg (dC (.int 1))))))
  (sSeq (sWhile (dtAnd (dTest (dBin gNe (dVar 1) (dTup dNil))) (dTest (dBin gEq (dBin gIx (dVar 1) (dUn gNeg (dC (.int 1)))) (dVar 2)))) (sSet 1 (dDat (dSl (dVar 1) dNo (dSo (dUn gNeg (dC (.int 1))))))))
  (sRet (dDat (dTup (dCons (dDat (dVar 1)) (dCons (dDat (dVar 2)) dNil)))))))
def S_shortened : DF := fun ss T Q _ => ∃ (l : List D) (x : D), ss = [.dat (.lst (l ++ [x]))] ∧ okds 58 l = true ∧ okd 58 x = true ∧ l.length ≤ 1000 ∧ Q (.dat (.tup [.tup (cutSame x l), x])) T
theorem h_shortened : ∀ (ss : List Sl) (T : List Ob) (Q : Sl → List Ob → Prop) (QX : Xn → List Ob → Prop), ss.length = 1 → S_shortened ss T Q QX → B_shortened (endsOf T.length Q QX) (startD 3 1 ss T) := by
  intro ss T Q QX hl h
  obtain ⟨l, x, rfl, ol, ox, hz, h⟩ := h
  unfold B_shortened
  walk_at "dl"
  rw [cut_init, atI_last]
  walk_at "dl"
  refine ⟨fun m ρ => ∃ e : List D, ρ = ⟨T, [some (.dat (.lst (l ++ [x]))), some (.dat (.tup e)), some (.dat x)]⟩ ∧ okds 58 e = true ∧ cutSame x e = cutSame x l ∧ m = e.length, ⟨_, l, rfl, ol, rfl, rfl⟩, ?_⟩
  rintro m ρ ⟨e, rfl, oe, hc, rfl⟩
  walk_at "dl"
  refine ⟨okds_up 58 e oe, ?_⟩
  rw [deqs_nil_iff]
  rcases List.eq_nil_or_concat e with rfl | ⟨e, y, rfl⟩
  · walk_at "dl"
    rw [← hc] at h
    exact h
  · rw [List.concat_eq_append] at oe hc ⊢
    have oy : okd 58 y = true := (okds_iff 58 _).mp oe y (by simp)
    have oe' : okds 58 e = true := by
      rw [okds_iff] at oe ⊢
      exact fun d hd => oe d (by simp [hd])
    rw [show (e ++ [y]).isEmpty = false by cases e <;> rfl]
    walk_at "dl"
    rw [atI_last]
    walk_at "dl"
    refine ⟨okd_up _ _ (okd_up _ _ oy), okd_up _ _ (okd_up _ _ ox), ?_⟩
    rw [cutSame_snoc] at hc
    by_cases q : deq y x = true
    · rw [if_pos q] at hc ⊢
      rw [cut_init]
      exact ⟨e.length, by simp, e, rfl, oe', hc, rfl⟩
    · rw [if_neg q] at hc ⊢
      rw [← hc] at h
      exact h
def frontL (rs : List Rn) (n : Nat) : Int := imax ((mpOf n rs).l 0) ((mpOf n rs).m 0 0)
theorem row_head (f : Mp) (j : Nat) : (f.row j).headD 0 = f.m j 0 := by
  unfold Mp.row
  rw [List.range_succ_eq_map]
  rfl
def rowD (rs : List Rn) (post : Int) (n : Nat) : D := .bl (decide (post ≤ frontL rs n))
/-- slots: 0 drill, 1 post, 2 many -/
def B_past_rows : DS :=
  (sSeq (sDrop (dCall 1 S_need_drill (dCons (dDat (dVar 0)) dNil)))
  (sSeq (sIf (dtNot (dTest (dVal (dCall 3 S_is_int (dCons (dDat (dVar 1)) (dCons (dDat (dC (.int 0))) (dCons (dDat (dC (.int 1000000000000000000000000000000))) dNil))))))) (sRaise "InvalidPlace") sNil)
  (sRet (dDat (dVal (dCall 1 S_shortened (dCons (dDat (dComp (dRng2 (dCons (dDat (dC (.int 1))) (dCons (dDat (dBin gAdd (dVal (dCall 2 S_enough (dCons (dDat (dVar 0)) (dCons (dDat (dVar 0)) dNil)))) (dC (.int 1)))) dNil))) (gNm 2) dYes (dBin gGe (dBin gIx (dVal (dCall 1 S_terms_of (dCons (dDat (dBin gIx (dVal (dCall 2 S_map_of (dCons (dDat (dVar 0)) (dCons (dDat (dVar 2)) dNil)))) (dC (.int 0)))) dNil))) (dC (.int 0))) (dVar 1)) [2])) dNil)))))))
def S_past_rows : DF := fun ss T Q QX => (∃ (g : Int) (rs : List Rn) (post : Int), ss = [.dat (drD g rs), .dat (.int post)] ∧ DrOk g rs ∧ 0 ≤ post ∧ post ≤ 10 ^ 30 ∧
  Q (.dat (.tup [.tup (cutSame (rowD rs post (bN rs + fN rs + 1)) ((List.range' 1 (bN rs + fN rs)).map (rowD rs post))), rowD rs post (bN rs + fN rs + 1)])) T) ∨ ∃ d p : D, ss = [.dat d, .dat p] ∧ okd 60 d = true ∧ okd 60 p = true ∧
  ((fitsB d = false ∧ QX ⟨"InvalidDrill", none⟩ T) ∨ (fitsB d = true ∧ isInt p 0 1000000000000000000000000000000 = false ∧ QX ⟨"InvalidPlace", none⟩ T))
theorem h_past_rows : ∀ (ss : List Sl) (T : List Ob) (Q : Sl → List Ob → Prop) (QX : Xn → List Ob → Prop), ss.length = 2 → S_past_rows ss T Q QX → B_past_rows (endsOf T.length Q QX) (startD 3 2 ss T) := by
  intro ss T Q QX hl h
  rcases h with h | ⟨d, p, rfl, ok1, ok2, h⟩
  rotate_left
  · unfold B_past_rows
    walk_at "dl"
    simp only [S_need_drill]
    rcases h with ⟨f, h⟩ | ⟨f, f2, h⟩
    · exact ⟨ok1, .inr ⟨f, by walk_at "dl"; exact h⟩⟩
    · refine ⟨ok1, .inl ⟨f, ?_⟩⟩
      walk_at "dl"
      refine ⟨ok2, ?_⟩
      rw [f2]
      walk_at "dl"
      exact h
  obtain ⟨g, rs, post, rfl, hd, p0, p1, h⟩ := h
  simp only [Int.reducePow] at p1
  have l8 := hd.l8
  have b4 := (bN_eq hd.ok).2
  have f4 := (fN_eq hd.ok).2
  unfold B_past_rows
  walk_at "dl"
  simp only [S_need_drill]
  refine ⟨okd_drD g rs 57, .inl ⟨hd.fits, ?_⟩⟩
  walk_at "dl"
  refine ⟨rfl, ?_⟩
  rw [isInt_int p0 p1]
  walk_at "dl"
  rw [dComp_eq]
  walk_at "dl"
  refine ⟨g, g, rs, rs, rfl, by omega, by omega, hd.ok, hd.ok, ?_⟩
  rw [Nat.max_self, Nat.max_self]
  walk_at "dl"
  refine ⟨by omega, ?_⟩
  rw [rangeD_map1]
  refine compK_idx (List.range' 1 (bN rs + fN rs + 1)) (fun (k : Nat) => D.int k) (fun n => some (rowD rs post n)) rfl [some (.dat (drD g rs)), some (.dat (.int post)), none] rfl rfl rfl (by simp [sizeLine_eq]; omega) ?_ ?_
  · intro n hn acc R hR
    have hn' : 1 ≤ n ∧ n ≤ 9 := by
      simp at hn
      omega
    walk_at "dl"
    refine ⟨g, rs, n, rfl, by omega, hd.ok, ?_⟩
    have e0 : atI ((mpOf n rs).D n) 0 = some ((mpOf n rs).d 0) := by
      rw [show (0 : Int) = ((0 : Nat) : Int) by rfl, atI_nat, Mp.D_at _ (by omega)]
    walk_at "dl"
    rw [e0]
    walk_at "dl"
    refine ⟨(mpOf n rs).l 0, (mpOf n rs).row 0, rfl, by rw [Mp.row_len]; omega, by rw [Mp.row_len]; omega, ?_⟩
    rw [row_head]
    walk_at "dl"
    exact hR _ rfl
  · rw [filterMap_some]
    walk_at "dl"
    refine ⟨(List.range' 1 (bN rs + fN rs)).map (rowD rs post), rowD rs post (bN rs + fN rs + 1), ?_, ?_, rfl, by simp; omega, ?_⟩
    · rw [← List.range'_append_1 (s := 1) (m := bN rs + fN rs) (n := 1)]
      simp [List.range', Nat.add_comm]
    · rw [okds_iff]
      intro d hd
      obtain ⟨n, _, rfl⟩ := List.mem_map.mp hd
      rfl
    · walk_at "dl"
      exact h
def endl (f : Mp) (j : Nat) : Int := imax (f.l j) (f.m j 0)
/-- whether a sheep can be parted from the next one -/
def partB (f : Mp) (s : Nat) : Bool := decide (endl f s < endl f (s + 1)) || (List.range (s + 1)).any fun k => decide (f.m s k < f.m (s + 1) k)
def partL (rs : List Rn) (n : Nat) : List Nat := (List.range (n - 1)).filter (partB (mpOf n rs))
/-- the ones that count of the pairs of a row and its numbers -/
theorem enum_row (f : Mp) (s : Nat) : enumD 0 ((f.row s).map .int) = (List.range' 0 (s + 1)).map fun (k : Nat) => D.tup [.int k, .int (f.m s k)] := by
  rw [row_range']
  have key : ∀ (n i : Nat), enumD i (((List.range' i n).map (f.m s)).map .int) = (List.range' i n).map fun (k : Nat) => D.tup [.int k, .int (f.m s k)] := by
    intro n
    induction n with
    | zero => intro i; rfl
    | succ n ih =>
      intro i
      simp only [List.range'_succ, List.map_cons, enumD]
      rw [ih (i + 1)]
  exact key (s + 1) 0
theorem row_hd (f : Mp) (j : Nat) : (f.row j).headD 0 = f.m j 0 := row_head f j
/-- slots: 0 drill, 1 many, 2 sheep, 3 found, 4 one, 5 other, 6 at, 7 more -/
def B_parts_here : DS :=
  (sSeq (sSet 3 (dDat (dVal (dCall 2 S_map_of (dCons (dDat (dVar 0)) (dCons (dDat (dVar 1)) dNil))))))
  (sSeq (sTo (dTup (dCons (dDat (dBin gIx (dVar 3) (dVar 2))) (dCons (dDat (dBin gIx (dVar 3) (dBin gAdd (dVar 2) (dC (.int 1))))) dNil))) (gTp 2 (gCs (gNm 4) (gCs (gNm 5) gNl))))
  (sSeq (sIf (dTest (dBin gGt (dBin gIx (dVal (dCall 1 S_terms_of (dCons (dDat (dVar 5)) dNil))) (dC (.int 0))) (dBin gIx (dVal (dCall 1 S_terms_of (dCons (dDat (dVar 4)) dNil))) (dC (.int 0))))) (sRet (dDat (dC (.bl true)))) sNil)
  (sRet (dDat (dBin gNe (dComp (dEnum (dCons (dDat (dBin gIx (dVar 4) (dC (.int 1)))) dNil)) (gTp 2 (gCs (gNm 6) (gCs (gNm 7) gNl))) (dTest (dBin gGt (dBin gIx (dBin gIx (dVar 5) (dC (.int 1))) (dVar 6)) (dVar 7))) (dC (.int 1)) [6, 7]) (dLst dNil)))))))
def S_parts_here : DF := fun ss T Q _ => ∃ (g : Int) (rs : List Rn) (n s : Nat), ss = [.dat (drD g rs), .dat (.int n), .dat (.int s)] ∧ s + 1 < n ∧ n ≤ 900 ∧ (∀ r ∈ rs, r.ok) ∧ Q (.dat (.bl (partB (mpOf n rs) s))) T
theorem h_parts_here : ∀ (ss : List Sl) (T : List Ob) (Q : Sl → List Ob → Prop) (QX : Xn → List Ob → Prop), ss.length = 3 → S_parts_here ss T Q QX → B_parts_here (endsOf T.length Q QX) (startD 8 3 ss T) := by
  intro ss T Q QX hl h
  obtain ⟨g, rs, n, s, rfl, hs, hn, ok, h⟩ := h
  have e1 : atI ((mpOf n rs).D n) (s : Int) = some ((mpOf n rs).d s) := by rw [atI_nat, Mp.D_at _ (by omega)]
  have e2 : atI ((mpOf n rs).D n) ((s : Int) + 1) = some ((mpOf n rs).d (s + 1)) := by
    rw [show (s : Int) + 1 = ((s + 1 : Nat) : Int) by omega, atI_nat, Mp.D_at _ (by omega)]
  unfold B_parts_here
  walk_at "dl"
  refine ⟨g, rs, n, rfl, by omega, ok, ?_⟩
  generalize mpOf n rs = f at *
  walk_at "dl"
  rw [e1, e2]
  walk_at "dl"
  refine ⟨f.l (s + 1), f.row (s + 1), rfl, by rw [Mp.row_len]; omega, by rw [Mp.row_len]; omega, ?_⟩
  rw [row_hd]
  walk_at "dl"
  refine ⟨f.l s, f.row s, rfl, by rw [Mp.row_len]; omega, by rw [Mp.row_len]; omega, ?_⟩
  rw [row_hd]
  walk_at "dl"
  by_cases c : endl f s < endl f (s + 1)
  · rw [if_pos (show imax (f.l s) (f.m s 0) < imax (f.l (s + 1)) (f.m (s + 1) 0) from c)]
    have : partB f s = true := by simp [partB, c]
    rw [this] at h
    exact h
  rw [if_neg (show ¬ imax (f.l s) (f.m s 0) < imax (f.l (s + 1)) (f.m (s + 1) 0) from c), dComp_eq]
  simp only [Mp.d, pairD, tupI]
  walk_at "dl"
  rw [enum_row]
  refine compK_idx (List.range' 0 (s + 1)) (fun (k : Nat) => D.tup [.int k, .int (f.m s k)]) (fun k => if f.m s k < f.m (s + 1) k then some (.int 1) else none) rfl [some (.dat (drD g rs)), some (.dat (.int n)), some (.dat (.int s)), some (.dat (.lst (f.D n))), some (.dat (f.d s)), some (.dat (f.d (s + 1))), none, none] rfl rfl rfl (by simp [sizeLine_eq]; omega) ?_ ?_
  · intro k hk acc R hR
    have hk' : k < s + 1 := by simp at hk; omega
    have er : atI (f.row (s + 1)) (k : Int) = some (f.m (s + 1) k) := by
      rw [atI_nat]
      simp [Mp.row, show k < s + 1 + 1 by omega]
    simp only [Mp.d, pairD, tupI]
    walk_at "dl"
    rw [er]
    walk_at "dl"
    by_cases q : f.m s k < f.m (s + 1) k
    · rw [if_pos q] at hR
      simp only [q]
      walk_at "dl"
      exact hR _ rfl
    · rw [if_neg q] at hR
      simp only [q]
      walk_at "dl"
      exact hR _ rfl
  · walk_at "dl"
    refine ⟨?_, ?_⟩
    · rw [okds_iff]
      intro d hd
      obtain ⟨k, _, e⟩ := List.mem_filterMap.mp hd
      split at e
      · cases e; simp [okd]
      · cases e
    · rw [deqs_nil_iff]
      have e : (!((List.range' 0 (s + 1)).filterMap fun k => if f.m s k < f.m (s + 1) k then some (D.int 1) else none).isEmpty) = partB f s := by
        unfold partB
        rw [decide_eq_false c, Bool.false_or, List.range_eq_range']
        generalize List.range' 0 (s + 1) = l
        induction l with
        | nil => rfl
        | cons k l ih =>
          simp only [List.filterMap_cons, List.any_cons]
          by_cases q : f.m s k < f.m (s + 1) k
          · simp [q]
          · simp only [q]
            simpa using ih
      rw [e]
      exact h
/-- slots: 0 drill, 1 many, 2 sheep -/
def B_parted_of : DS :=
  (sRet (dDat (dComp (dRng1 (dCons (dDat (dBin gSub (dVar 1) (dC (.int 1)))) dNil)) (gNm 2) (dTest (dVal (dCall 3 S_parts_here (dCons (dDat (dVar 0)) (dCons (dDat (dVar 1)) (dCons (dDat (dVar 2)) dNil)))))) (dVar 2) [2])))
def S_parted_of : DF := fun ss T Q _ => ∃ (g : Int) (rs : List Rn) (n : Nat), ss = [.dat (drD g rs), .dat (.int n)] ∧ 1 ≤ n ∧ n ≤ 900 ∧ (∀ r ∈ rs, r.ok) ∧ Q (.dat (.lst ((partL rs n).map fun (s : Nat) => .int s))) T
theorem h_parted_of : ∀ (ss : List Sl) (T : List Ob) (Q : Sl → List Ob → Prop) (QX : Xn → List Ob → Prop), ss.length = 2 → S_parted_of ss T Q QX → B_parted_of (endsOf T.length Q QX) (startD 3 2 ss T) := by
  intro ss T Q QX hl h
  obtain ⟨g, rs, n, rfl, n1, hn, ok, h⟩ := h
  unfold B_parted_of
  walk_at "dl"
  rw [dComp_eq]
  walk_at "dl"
  refine ⟨by omega, ?_⟩
  rw [show (n : Int) - 1 = ((n - 1 : Nat) : Int) by omega, rangeD_map]
  refine compK_idx (List.range (n - 1)) (fun (s : Nat) => D.int s) (fun s => if partB (mpOf n rs) s = true then some (.int s) else none) rfl [some (.dat (drD g rs)), some (.dat (.int n)), none] rfl rfl rfl (by simp [sizeLine_eq]; omega) ?_ ?_
  · intro s hs acc R hR
    have hs' : s < n - 1 := by simpa using hs
    walk_at "dl"
    refine ⟨g, rs, n, s, rfl, by omega, hn, ok, ?_⟩
    cases q : partB (mpOf n rs) s with
    | true =>
      rw [q] at hR
      walk_at "dl"
      exact hR _ rfl
    | false =>
      rw [q] at hR
      walk_at "dl"
      exact hR _ rfl
  · rw [show (List.range (n - 1)).filterMap (fun (s : Nat) => if partB (mpOf n rs) s = true then some (D.int s) else none) = (partL rs n).map fun (s : Nat) => .int s by
      unfold partL
      generalize List.range (n - 1) = l
      induction l with
      | nil => rfl
      | cons k l ih =>
        simp only [List.filterMap_cons, List.filter_cons]
        cases partB (mpOf n rs) k <;> simp [ih]]
    walk_at "dl"
    exact h
/-- slots: 0 drill, 1 many -/
def B_parted : DS :=
  (sSeq (sDrop (dCall 1 S_need_drill (dCons (dDat (dVar 0)) dNil)))
  (sSeq (sIf (dtNot (dTest (dVal (dCall 3 S_is_int (dCons (dDat (dVar 1)) (dCons (dDat (dC (.int 1))) (dCons (dDat (dC (.int 40))) dNil))))))) (sRaise "InvalidMany") sNil)
  (sRet (dDat (dVal (dCall 2 S_parted_of (dCons (dDat (dVar 0)) (dCons (dDat (dVar 1)) dNil))))))))
def S_parted : DF := fun ss T Q QX => (∃ (g : Int) (rs : List Rn) (n : Nat), ss = [.dat (drD g rs), .dat (.int n)] ∧ DrOk g rs ∧ 1 ≤ n ∧ n ≤ 40 ∧ Q (.dat (.lst ((partL rs n).map fun (s : Nat) => .int s))) T) ∨
  ∃ d m : D, ss = [.dat d, .dat m] ∧ okd 60 d = true ∧ okd 60 m = true ∧ ((fitsB d = false ∧ QX ⟨"InvalidDrill", none⟩ T) ∨ (fitsB d = true ∧ isInt m 1 40 = false ∧ QX ⟨"InvalidMany", none⟩ T))
theorem h_parted : ∀ (ss : List Sl) (T : List Ob) (Q : Sl → List Ob → Prop) (QX : Xn → List Ob → Prop), ss.length = 2 → S_parted ss T Q QX → B_parted (endsOf T.length Q QX) (startD 2 2 ss T) := by
  intro ss T Q QX hl h
  rcases h with ⟨g, rs, n, rfl, hd, n1, n40, h⟩ | ⟨d, m, rfl, ok1, ok2, h⟩
  · unfold B_parted
    walk_at "dl"
    simp only [S_need_drill]
    refine ⟨okd_drD g rs 57, .inl ⟨hd.fits, ?_⟩⟩
    walk_at "dl"
    refine ⟨rfl, ?_⟩
    rw [isInt_int (by omega) (by omega)]
    walk_at "dl"
    refine ⟨g, rs, n, rfl, n1, by omega, hd.ok, ?_⟩
    walk_at "dl"
    exact h
  · unfold B_parted
    walk_at "dl"
    simp only [S_need_drill]
    rcases h with ⟨f, h⟩ | ⟨f, f2, h⟩
    · exact ⟨ok1, .inr ⟨f, by walk_at "dl"; exact h⟩⟩
    · refine ⟨ok1, .inl ⟨f, ?_⟩⟩
      walk_at "dl"
      refine ⟨ok2, ?_⟩
      rw [f2]
      walk_at "dl"
      exact h
/-- slots: 0 drill, 1 many -/
def B_never_parted : DS :=
  (sSeq (sDrop (dCall 1 S_need_drill (dCons (dDat (dVar 0)) dNil)))
  sNever)
def S_never_parted : DF := S_odd
theorem h_never_parted : ∀ (ss : List Sl) (T : List Ob) (Q : Sl → List Ob → Prop) (QX : Xn → List Ob → Prop), ss.length = 1 → S_never_parted ss T Q QX → B_never_parted (endsOf T.length Q QX) (startD 2 1 ss T) := by
  intro ss T Q QX hl h
  obtain ⟨d, rfl, ok, f, h⟩ := h
  unfold B_never_parted
  walk_at "dl"
  simp only [S_need_drill]
  exact ⟨ok, .inr ⟨f, by walk_at "dl"; exact h⟩⟩
set_option Elab.async false
set_option linter.all false
set_option maxRecDepth 100000
set_option maxHeartbeats 4000000
set_option autoImplicit false
/-! Law k16: defs that are given what is no drill, and what is no beginning. -/
/-- slots: 0 drill, 1 value -/
def B_is_beginning : DS :=
  (sSeq (sDrop (dCall 1 S_need_drill (dCons (dDat (dVar 0)) dNil)))
  sNever)
def S_is_beginning : DF := fun ss T _ QX => ∃ d e : D, ss = [.dat d, .dat e] ∧ okd 60 d = true ∧ fitsB d = false ∧ QX ⟨"InvalidDrill", none⟩ T
theorem h_is_beginning : ∀ (ss : List Sl) (T : List Ob) (Q : Sl → List Ob → Prop) (QX : Xn → List Ob → Prop), ss.length = 2 → S_is_beginning ss T Q QX → B_is_beginning (endsOf T.length Q QX) (startD 2 2 ss T) := by
  intro ss T Q QX hl h
  obtain ⟨d, e, rfl, ok, f, h⟩ := h
  unfold B_is_beginning
  walk_at "dl"
  simp only [S_need_drill]
  exact ⟨ok, .inr ⟨f, by walk_at "dl"; exact h⟩⟩
/-- which error is raised of a drill and of places -/
def begErr (d e : D) (QX : Xn → List Ob → Prop) (T : List Ob) : Prop := okd 60 d = true ∧ okd 60 e = true ∧
  ((fitsB d = false ∧ QX ⟨"InvalidDrill", none⟩ T) ∨ ∃ (g : Int) (rs : List Rn), d = drD g rs ∧ DrOk g rs ∧ beginsB g e = false ∧ QX ⟨"InvalidBeginning", none⟩ T)
/-- slots: 0 drill, 1 beginning -/
def B_course : DS :=
  (sSeq (sDrop (dCall 1 S_need_drill (dCons (dDat (dVar 0)) dNil)))
  (sSeq (sDrop (dCall 2 S_need_beginning (dCons (dDat (dBin gIx (dVar 0) (dC (.int 0)))) (dCons (dDat (dVar 1)) dNil))))
  (sRet (dDat (dVal (dCall 2 S_course_of (dCons (dDat (dVar 0)) (dCons (dDat (dVar 1)) dNil))))))))
def S_course : DF := fun ss T Q QX => (∃ (g : Int) (xs : List Int) (rs : List Rn), ss = [.dat (drD g rs), .dat (tupI xs)] ∧ DrOk g rs ∧ BgOk g xs ∧ Q (.dat (.lst ((courseL g xs rs).map tupI))) T) ∨ ∃ d e : D, ss = [.dat d, .dat e] ∧ begErr d e QX T
theorem h_course : ∀ (ss : List Sl) (T : List Ob) (Q : Sl → List Ob → Prop) (QX : Xn → List Ob → Prop), ss.length = 2 → S_course ss T Q QX → B_course (endsOf T.length Q QX) (startD 2 2 ss T) := by
  intro ss T Q QX hl h
  unfold B_course
  rcases h with ⟨g, xs, rs, rfl, hd, hb, h⟩ | ⟨d, e, rfl, ok1, ok2, h⟩
  · simp only [drD]
    walk_at "dl"
    simp only [S_need_drill]
    refine ⟨okd_drD g rs 57, .inl ⟨hd.fits, ?_⟩⟩
    walk_at "dl"
    simp only [S_need_beginning]
    refine ⟨okd_tupI 59 xs, .inl ⟨hb.begins, ?_⟩⟩
    walk_at "dl"
    refine ⟨g, xs, rs, rfl, hb.l1, Nat.le_trans hb.l40 (by decide), Nat.le_trans hd.l8 (by decide), hd.ok, ?_⟩
    walk_at "dl"
    exact h
  · walk_at "dl"
    simp only [S_need_drill]
    rcases h with ⟨f, h⟩ | ⟨g, rs, rfl, hd, f, h⟩
    · exact ⟨ok1, .inr ⟨f, by walk_at "dl"; exact h⟩⟩
    · refine ⟨ok1, .inl ⟨hd.fits, ?_⟩⟩
      simp only [drD]
      walk_at "dl"
      simp only [S_need_beginning]
      exact ⟨ok2, .inr ⟨f, by walk_at "dl"; exact h⟩⟩
/-- slots: 0 drill, 1 beginning -/
def B_ends : DS :=
  (sSeq (sDrop (dCall 1 S_need_drill (dCons (dDat (dVar 0)) dNil)))
  (sSeq (sDrop (dCall 2 S_need_beginning (dCons (dDat (dBin gIx (dVar 0) (dC (.int 0)))) (dCons (dDat (dVar 1)) dNil))))
  (sRet (dDat (dBin gIx (dBin gAdd (dLst (dCons (dDat (dVar 1)) dNil)) (dVal (dCall 2 S_course_of (dCons (dDat (dVar 0)) (dCons (dDat (dVar 1)) dNil))))) (dUn gNeg (dC (.int 1))))))))
def S_ends : DF := fun ss T Q QX => (∃ (g : Int) (xs : List Int) (rs : List Rn), ss = [.dat (drD g rs), .dat (tupI xs)] ∧ DrOk g rs ∧ BgOk g xs ∧ Q (.dat (tupI (rs.foldl (ranL g) xs))) T) ∨ ∃ d e : D, ss = [.dat d, .dat e] ∧ begErr d e QX T
theorem h_ends : ∀ (ss : List Sl) (T : List Ob) (Q : Sl → List Ob → Prop) (QX : Xn → List Ob → Prop), ss.length = 2 → S_ends ss T Q QX → B_ends (endsOf T.length Q QX) (startD 2 2 ss T) := by
  intro ss T Q QX hl h
  unfold B_ends
  rcases h with ⟨g, xs, rs, rfl, hd, hb, h⟩ | ⟨d, e, rfl, ok1, ok2, h⟩
  · simp only [drD]
    walk_at "dl"
    simp only [S_need_drill]
    refine ⟨okd_drD g rs 57, .inl ⟨hd.fits, ?_⟩⟩
    walk_at "dl"
    simp only [S_need_beginning]
    refine ⟨okd_tupI 59 xs, .inl ⟨hb.begins, ?_⟩⟩
    walk_at "dl"
    refine ⟨g, xs, rs, rfl, hb.l1, Nat.le_trans hb.l40 (by decide), Nat.le_trans hd.l8 (by decide), hd.ok, ?_⟩
    walk_at "dl"
    have hl8 := hd.l8
    refine ⟨by rw [courseL_len, sizeLine_eq]; omega, ?_⟩
    obtain ⟨l, e⟩ := course_last g rs xs
    rw [show D.tup (xs.map .int) :: (courseL g xs rs).map tupI = l.map tupI ++ [tupI (rs.foldl (ranL g) xs)] by rw [dat_tI, ← List.map_cons, e]; simp, atI_last]
    exact h
  · walk_at "dl"
    simp only [S_need_drill]
    rcases h with ⟨f, h⟩ | ⟨g, rs, rfl, hd, f, h⟩
    · exact ⟨ok1, .inr ⟨f, by walk_at "dl"; exact h⟩⟩
    · refine ⟨ok1, .inl ⟨hd.fits, ?_⟩⟩
      simp only [drD]
      walk_at "dl"
      simp only [S_need_beginning]
      exact ⟨ok2, .inr ⟨f, by walk_at "dl"; exact h⟩⟩
/-! ### defs that are only given what is no drill -/
/-- slots: 0 drill, 1 runs, 2 at -/
def B_idle : DS :=
  (sSeq (sDrop (dCall 1 S_need_drill (dCons (dDat (dVar 0)) dNil)))
  sNever)
def S_idle : DF := S_odd
theorem h_idle : ∀ (ss : List Sl) (T : List Ob) (Q : Sl → List Ob → Prop) (QX : Xn → List Ob → Prop), ss.length = 1 → S_idle ss T Q QX → B_idle (endsOf T.length Q QX) (startD 3 1 ss T) := by
  intro ss T Q QX hl h
  obtain ⟨d, rfl, ok, f, h⟩ := h
  unfold B_idle
  walk_at "dl"
  simp only [S_need_drill]
  exact ⟨ok, .inr ⟨f, by walk_at "dl"; exact h⟩⟩
/-- slots: 0 drill, 1 at, 2 runs, 3 found -/
def B_swaps : DS :=
  (sSeq (sDrop (dCall 1 S_need_drill (dCons (dDat (dVar 0)) dNil)))
  sNever)
def S_swaps : DF := S_odd
theorem h_swaps : ∀ (ss : List Sl) (T : List Ob) (Q : Sl → List Ob → Prop) (QX : Xn → List Ob → Prop), ss.length = 1 → S_swaps ss T Q QX → B_swaps (endsOf T.length Q QX) (startD 4 1 ss T) := by
  intro ss T Q QX hl h
  obtain ⟨d, rfl, ok, f, h⟩ := h
  unfold B_swaps
  walk_at "dl"
  simp only [S_need_drill]
  exact ⟨ok, .inr ⟨f, by walk_at "dl"; exact h⟩⟩
/-- slots: 0 drill, 1 part, 2 at -/
def B_shortest : DS :=
  (sSeq (sDrop (dCall 1 S_need_drill (dCons (dDat (dVar 0)) dNil)))
  sNever)
def S_shortest : DF := S_odd
theorem h_shortest : ∀ (ss : List Sl) (T : List Ob) (Q : Sl → List Ob → Prop) (QX : Xn → List Ob → Prop), ss.length = 1 → S_shortest ss T Q QX → B_shortest (endsOf T.length Q QX) (startD 3 1 ss T) := by
  intro ss T Q QX hl h
  obtain ⟨d, rfl, ok, f, h⟩ := h
  unfold B_shortest
  walk_at "dl"
  simp only [S_need_drill]
  exact ⟨ok, .inr ⟨f, by walk_at "dl"; exact h⟩⟩
/-- slots: 0 drill -/
def B_drill_text : DS :=
  (sSeq (sDrop (dCall 1 S_need_drill (dCons (dDat (dVar 0)) dNil)))
  sNever)
def S_drill_text : DF := S_odd
theorem h_drill_text : ∀ (ss : List Sl) (T : List Ob) (Q : Sl → List Ob → Prop) (QX : Xn → List Ob → Prop), ss.length = 1 → S_drill_text ss T Q QX → B_drill_text (endsOf T.length Q QX) (startD 1 1 ss T) := by
  intro ss T Q QX hl h
  obtain ⟨d, rfl, ok, f, h⟩ := h
  unfold B_drill_text
  walk_at "dl"
  simp only [S_need_drill]
  exact ⟨ok, .inr ⟨f, by walk_at "dl"; exact h⟩⟩
/-- slots: 0 one, 1 other -/
def B_alike : DS :=
  (sSeq (sDrop (dCall 2 S_need_both (dCons (dDat (dVar 0)) (dCons (dDat (dVar 1)) dNil))))
  sNever)
def S_alike : DF := fun ss T _ QX => ∃ d e : D, ss = [.dat d, .dat e] ∧ bothErr d e QX T
theorem h_alike : ∀ (ss : List Sl) (T : List Ob) (Q : Sl → List Ob → Prop) (QX : Xn → List Ob → Prop), ss.length = 2 → S_alike ss T Q QX → B_alike (endsOf T.length Q QX) (startD 2 2 ss T) := by
  intro ss T Q QX hl h
  obtain ⟨d, e, rfl, h⟩ := h
  unfold B_alike
  walk_at "dl"
  refine both_walk h _ _ fun x hx => ?_
  walk_at "dl"
  exact hx
/-- slots: 0 one, 1 other -/
def B_parting : DS :=
  (sSeq (sDrop (dCall 2 S_need_both (dCons (dDat (dVar 0)) (dCons (dDat (dVar 1)) dNil))))
  sNever)
def S_parting : DF := fun ss T _ QX => ∃ d e : D, ss = [.dat d, .dat e] ∧ bothErr d e QX T
theorem h_parting : ∀ (ss : List Sl) (T : List Ob) (Q : Sl → List Ob → Prop) (QX : Xn → List Ob → Prop), ss.length = 2 → S_parting ss T Q QX → B_parting (endsOf T.length Q QX) (startD 2 2 ss T) := by
  intro ss T Q QX hl h
  obtain ⟨d, e, rfl, h⟩ := h
  unfold B_parting
  walk_at "dl"
  refine both_walk h _ _ fun x hx => ?_
  walk_at "dl"
  exact hx
set_option Elab.async false
set_option linter.all false
set_option maxRecDepth 100000
set_option maxHeartbeats 4000000
set_option autoImplicit false
/-! Law k16: bounds, greatest_beginning: they raise nothing for a beginning. -/
/-- a comprehension of which just the kind of the things is known -/
theorem compK_p (P : D → Prop) (tot : Bool) {g : DG} {t : DT} {e : DE} {own : List Nat} {Q : D → Env → Prop} {ds : List D} {T : List Ob} {s : List (Option Sl)} (s0 : List (Option Sl))
    (hs : wipeS s own = s0) (hs2 : wipeS s0 own = s0) (hlow : lowS T.length s0 = true) (hz : ds.length ≤ sizeLine)
    (step : ∀ d ∈ ds, ∀ acc, ∀ R : Option D → Env → Prop, (∀ o s', (∀ y, o = some y → P y) → (tot = true → o.isSome = true) → wipeS s' own = s0 → R o ⟨T ++ [.lst acc], s'⟩) → g d ⟨T ++ [.lst acc], s0⟩ fun ρ1 => t X0 ρ1 fun b ρ2 => if b = true then e X0 ρ2 fun y ρ3 => R (some y) ρ3 else R none ρ2)
    (q : ∀ ys : List D, (∀ y ∈ ys, P y) → ys.length ≤ ds.length → (tot = true → ys.length = ds.length) → Q (.lst ys) ⟨T, s0⟩) : compK g t e own Q ds ⟨T, s⟩ := by
  refine compK_any (fun r acc T' => T' = T ∧ (∀ y ∈ acc, P y) ∧ acc.length + r.length ≤ ds.length ∧ (tot = true → acc.length + r.length = ds.length) ∧ ∀ d ∈ r, d ∈ ds) s0 hs hs2 hlow hz ⟨rfl, by simp, by simp, by simp, fun _ h => h⟩ ?_ ?_
  · rintro d r acc T' hl hz ⟨rfl, h1, h2, h3, h4⟩ R hR
    simp only [List.length_cons] at h2 h3
    refine step d (h4 d (by simp)) acc R fun o s' ho ht hs' => hR o _ _ rfl ⟨rfl, fun y hy => ?_, ?_, fun tt => ?_, fun x hx => h4 x (by simp [hx])⟩ hs'
    · rcases List.mem_append.mp hy with hy | hy
      · exact h1 y hy
      · exact ho y (by simpa using hy)
    · cases o <;> simp <;> omega
    · have := ht tt
      have := h3 tt
      cases o with
      | none => simp at *
      | some y => simp; omega
  · rintro acc T' hl ⟨rfl, h1, h2, h3, h4⟩
    exact q acc h1 (by simpa using h2) (by simpa using h3)
def isI (d : D) : Prop := ∃ z : Int, d = .int z
theorem ints_of : ∀ {ys : List D}, (∀ y ∈ ys, isI y) → ∃ zs : List Int, ys = zs.map .int
  | [], _ => ⟨[], rfl⟩
  | y :: r, h => by
    obtain ⟨z, rfl⟩ := h y (by simp)
    obtain ⟨zs, rfl⟩ := ints_of (ys := r) fun x hx => h x (by simp [hx])
    exact ⟨z :: zs, rfl⟩
theorem at_some {xs : List Int} {i : Nat} (h : i < xs.length) : ∃ x, atI xs (i : Int) = some x := ⟨xs[i], by rw [atI_nat, List.getElem?_eq_getElem h]⟩
theorem intsOf_cons (l : Int) (zs : List Int) : intsOf (D.int l :: zs.map .int) = some (l :: zs) := intsOf_map (l :: zs)
/-- slots: 0 pair, 1 rooms, 2 at, 3 more -/
def B_room_of : DS :=
  (sRet (dDat (dCB gMax (dCons (dDat (dBin gAdd (dLst (dCons (dDat (dBin gIx (dVar 0) (dC (.int 0)))) dNil)) (dComp (dEnum (dCons (dDat (dBin gIx (dVar 0) (dC (.int 1)))) dNil)) (gTp 2 (gCs (gNm 2) (gCs (gNm 3) gNl))) dYes (dBin gAdd (dBin gIx (dVar 1) (dVar 2)) (dVar 3)) [2, 3]))) dNil))))
def S_room_of : DF := fun ss T Q _ => ∃ (l : Int) (ms xs : List Int), ss = [.dat (pairD l ms), .dat (.lst (xs.map .int))] ∧ ms.length ≤ xs.length ∧ ms.length ≤ 1000 ∧ ∀ z : Int, Q (.dat (.int z)) T
theorem h_room_of : ∀ (ss : List Sl) (T : List Ob) (Q : Sl → List Ob → Prop) (QX : Xn → List Ob → Prop), ss.length = 2 → S_room_of ss T Q QX → B_room_of (endsOf T.length Q QX) (startD 4 2 ss T) := by
  intro ss T Q QX hl h
  obtain ⟨l, ms, xs, rfl, h1, h2, h⟩ := h
  unfold B_room_of
  simp only [pairD]
  walk_at "dl"
  rw [dComp_eq]
  walk_at "dl"
  refine compK_p isI true [some (.dat (pairD l ms)), some (.dat (.lst (xs.map .int))), none, none] rfl rfl rfl (by rw [enumD_len, List.length_map, sizeLine_eq]; omega) ?_ ?_
  · intro d hd acc R hR
    obtain ⟨i, x, rfl, hi⟩ := enum_mem _ _ _ hd
    obtain ⟨y, hy⟩ := at_some (xs := xs) (i := i) (by omega)
    walk_at "dl"
    rw [hy]
    walk_at "dl"
    exact hR _ _ (fun z hz => ⟨_, (Option.some.inj hz).symm⟩) (fun _ => rfl) rfl
  · intro ys h3 h4 _
    obtain ⟨zs, rfl⟩ := ints_of h3
    rw [enumD_len, List.length_map, List.length_map] at h4
    walk_at "dl"
    refine ⟨by rw [sizeLine_eq]; omega, ?_⟩
    simp only [gMax, intsOf_cons]
    walk_at "dl"
    exact h _
/-- slots: 0 gap, 1 places, 2 at, 3 place -/
def B_rooms_of : DS :=
  (sRet (dDat (dComp (dEnum (dCons (dDat (dVar 1)) dNil)) (gTp 2 (gCs (gNm 2) (gCs (gNm 3) gNl))) dYes (dBin gSub (dVar 3) (dBin gMulB (dVar 2) (dVar 0))) [2, 3])))
def S_rooms_of : DF := fun ss T Q _ => ∃ (g : Int) (xs : List Int), ss = [.dat (.int g), .dat (tupI xs)] ∧ g.natAbs < 2 ^ 200 ∧ xs.length ≤ 900 ∧ ∀ ys : List Int, ys.length = xs.length → Q (.dat (.lst (ys.map .int))) T
theorem h_rooms_of : ∀ (ss : List Sl) (T : List Ob) (Q : Sl → List Ob → Prop) (QX : Xn → List Ob → Prop), ss.length = 2 → S_rooms_of ss T Q QX → B_rooms_of (endsOf T.length Q QX) (startD 4 2 ss T) := by
  intro ss T Q QX hl h
  obtain ⟨g, xs, rfl, hg, hx, h⟩ := h
  unfold B_rooms_of
  walk_at "dl"
  rw [dComp_eq]
  walk_at "dl"
  refine compK_p isI true [some (.dat (.int g)), some (.dat (tupI xs)), none, none] rfl rfl rfl (by rw [enumD_len, List.length_map, sizeLine_eq]; omega) ?_ ?_
  · intro d hd acc R hR
    obtain ⟨i, x, rfl, hi⟩ := enum_mem _ _ _ hd
    walk_at "dl"
    exact ⟨cmulW (by omega) (by omega), hR _ _ (fun z hz => ⟨_, (Option.some.inj hz).symm⟩) (fun _ => rfl) rfl⟩
  · intro ys h3 _ h4
    obtain ⟨zs, rfl⟩ := ints_of h3
    walk_at "dl"
    exact h zs (by simpa [enumD_len] using h4 rfl)
theorem enum_memD (f : Mp) : ∀ (js : List Nat) (n : Nat) (d : D), d ∈ enumD n (js.map f.d) → ∃ (i j : Nat), d = .tup [.int i, f.d j] ∧ j ∈ js ∧ i < n + js.length
  | [], _, d, h => by simp [enumD] at h
  | x :: xs, n, d, h => by
    rcases List.mem_cons.mp h with rfl | h
    · exact ⟨n, x, rfl, by simp, by simp⟩
    · obtain ⟨i, y, e, m, l⟩ := enum_memD f xs (n + 1) d h
      exact ⟨i, y, e, by simp [m], by simp at l ⊢; omega⟩
theorem ones_okd {ys : List D} (h : ∀ y ∈ ys, isI y) (k : Nat) : okds k ys = true := (okds_iff _ _).mpr fun d hd => by
  obtain ⟨z, rfl⟩ := h d hd
  simp [okd]
/-- slots: 0 found, 1 rooms, 2 due, 3 at, 4 pair -/
def B_leads : DS :=
  (sRet (dDat (dBin gEq (dComp (dEnum (dCons (dDat (dVar 0)) dNil)) (gTp 2 (gCs (gNm 3) (gCs (gNm 4) gNl))) (dTest (dBin gNe (dVal (dCall 2 S_room_of (dCons (dDat (dVar 4)) (dCons (dDat (dVar 1)) dNil)))) (dBin gIx (dVar 2) (dVar 3)))) (dC (.int 1)) [3, 4]) (dLst dNil))))
def S_leads : DF := fun ss T Q _ => ∃ (f : Mp) (n : Nat) (xs ys : List Int), ss = [.dat (.lst (f.D n)), .dat (.lst (xs.map .int)), .dat (.lst (ys.map .int))] ∧ xs.length = n ∧ ys.length = n ∧ n ≤ 900 ∧ ∀ b : Bool, Q (.dat (.bl b)) T
theorem h_leads : ∀ (ss : List Sl) (T : List Ob) (Q : Sl → List Ob → Prop) (QX : Xn → List Ob → Prop), ss.length = 3 → S_leads ss T Q QX → B_leads (endsOf T.length Q QX) (startD 5 3 ss T) := by
  intro ss T Q QX hl h
  obtain ⟨f, n, xs, ys, rfl, h1, h2, h3, h⟩ := h
  unfold B_leads
  walk_at "dl"
  rw [dComp_eq]
  walk_at "dl"
  refine compK_p isI false [some (.dat (.lst (f.D n))), some (.dat (.lst (xs.map .int))), some (.dat (.lst (ys.map .int))), none, none] rfl rfl rfl (by rw [enumD_len, Mp.D, List.length_map, List.length_range, sizeLine_eq]; omega) ?_ ?_
  · intro d hd acc R hR
    obtain ⟨i, j, rfl, hj, hi⟩ := enum_memD f _ _ _ hd
    have hj : j < n := List.mem_range.mp hj
    have hi : i < n := by simpa using hi
    obtain ⟨y, hy⟩ := at_some (xs := ys) (i := i) (by omega)
    walk_at "dl"
    refine ⟨f.l j, f.row j, xs, rfl, by rw [Mp.row_len]; omega, by rw [Mp.row_len]; omega, fun z => ?_⟩
    walk_at "dl"
    rw [hy]
    walk_at "dl"
    cases q : z == y
    all_goals
      walk_at "dl"
    · exact hR _ _ (fun z hz => ⟨_, (Option.some.inj hz).symm⟩) (by simp) rfl
    · exact hR _ _ (by simp) (by simp) rfl
  · intro zs h4 h5 _
    walk_at "dl"
    refine ⟨ones_okd h4 _, ?_⟩
    exact h _
/-- slots: 0 found, 1 due, 2 rooms, 3 sheep, 4 at -/
def B_greatest : DS :=
  (sSeq (sSet 2 (dNew dNil))
  (sSeq (sFor (dRng1 (dCons (dDat (dCB gLen (dCons (dDat (dVar 1)) dNil))) dNil)) (gNm 3) (sApp 2 (dCB gMin (dCons (dDat (dComp (dRng2 (dCons (dDat (dVar 3)) (dCons (dDat (dCB gLen (dCons (dDat (dVar 1)) dNil))) dNil))) (gNm 4) dYes (dBin gSub (dBin gIx (dVar 1) (dVar 4)) (dBin gIx (dBin gIx (dBin gIx (dVar 0) (dVar 4)) (dC (.int 1))) (dVar 3))) [4])) dNil))))
  (sRet (dDat (dVar 2)))))
def S_greatest : DF := fun ss T Q _ => ∃ (f : Mp) (n : Nat) (ys : List Int), ss = [.dat (.lst (f.D n)), .dat (.lst (ys.map .int))] ∧ ys.length = n ∧ n ≤ 900 ∧ ∀ zs : List Int, zs.length = n → Q (.dat (.lst (zs.map .int))) T
theorem h_greatest : ∀ (ss : List Sl) (T : List Ob) (Q : Sl → List Ob → Prop) (QX : Xn → List Ob → Prop), ss.length = 2 → S_greatest ss T Q QX → B_greatest (endsOf T.length Q QX) (startD 5 2 ss T) := by
  intro ss T Q QX hl h
  obtain ⟨f, n, ys, rfl, h2, h3, h⟩ := h
  unfold B_greatest
  walk_at "dl"
  refine ⟨by omega, ?_⟩
  rw [rangeD_map]
  refine loop_inv (fun ds ρ => ∃ (zs : List Int) (js : List Nat) (u v : Option Sl), ρ = ⟨T ++ [.lst (zs.map .int)], [some (.dat (.lst (f.D n))), some (.dat (.lst (ys.map .int))), some (.ob T.length), u, none]⟩ ∧ ds = js.map (fun (j : Nat) => .int j) ∧ (∀ j ∈ js, j < n) ∧ zs.length + js.length = n) ?_ ?_ _ _ ?_
  · rintro d ds ρ ⟨zs, js, u, v, rfl, e, hj, hn⟩ N hN
    cases js with
    | nil => cases e
    | cons j js =>
      cases e
      simp only [List.length_cons] at hn
      have jn := hj j (by simp)
      walk_at "dl"
      rw [dComp_eq]
      walk_at "dl"
      refine ⟨by omega, ?_⟩
      refine compK_p isI true [some (.dat (.lst (f.D n))), some (.dat (.lst (ys.map .int))), some (.ob T.length), some (.dat (.int j)), none] rfl rfl (by simp [lowS]) (by rw [rangeD_len, sizeLine_eq]; omega) ?_ ?_
      · intro d hd acc R hR
        obtain ⟨i, rfl, i1, i2⟩ := range_mem hd
        obtain ⟨k, rfl⟩ : ∃ k : Nat, i = k := ⟨i.toNat, by omega⟩
        obtain ⟨y, hy⟩ := at_some (xs := ys) (i := k) (by omega)
        have e1 : atI (f.D n) (k : Int) = some (f.d k) := by rw [atI_nat, Mp.D_at _ (by omega)]
        have e2 : atI (f.row k) (j : Int) = some (f.m k j) := by
          rw [atI_nat]
          simp [Mp.row, show j < k + 1 by omega]
        walk_at "dl"
        rw [hy, e1]
        simp only [Mp.d, pairD, tupI]
        walk_at "dl"
        rw [e2]
        walk_at "dl"
        exact hR _ _ (fun z hz => ⟨_, (Option.some.inj hz).symm⟩) (fun _ => rfl) rfl
      · intro zz h4 _ h5
        obtain ⟨ws, rfl⟩ := ints_of h4
        have h5 := h5 rfl
        rw [rangeD_len, List.length_map] at h5
        obtain ⟨w, ws, rfl⟩ : ∃ w r, ws = w :: r := by
          cases ws with
          | nil => simp at h5; omega
          | cons w r => exact ⟨w, r, rfl⟩
        walk_at "dl"
        simp only [gMin, intsOf_cons]
        walk_at "dl"
        refine ⟨by simp [sizeLine_eq]; omega, ?_⟩
        exact hN _ ⟨zs ++ [minOf w ws], js, some (.dat (.int j)), none, by simp, rfl, fun x hx => hj x (by simp [hx]), by simp; omega⟩
  · rintro ρ ⟨zs, js, u, v, rfl, e, hj, hn⟩
    cases js with
    | cons j js => cases e
    | nil =>
      walk_at "dl"
      exact h zs (by simpa using hn)
  · exact ⟨[], List.range n, none, none, by simp, by rw [h2], fun j hj => List.mem_range.mp hj, by simp⟩
/-- slots: 0 found, 1 rooms, 2 due, 3 sheep, 4 low, 5 high, 6 middle, 7 at, 8 room -/
def B_least_room : DS :=
  (sSeq (sPar2 4 5 (dDat (dC (.int 0))) (dDat (dBin gIx (dVar 1) (dVar 3))))
  (sSeq (sWhile (dTest (dBin gLt (dVar 4) (dVar 5))) (sSeq (sSet 6 (dDat (dBin gDiv (dBin gAdd (dVar 4) (dVar 5)) (dC (.int 2)))))
  (sIf (dTest (dVal (dCall 3 S_leads (dCons (dDat (dVar 0)) (dCons (dDat (dComp (dEnum (dCons (dDat (dVar 1)) dNil)) (gTp 2 (gCs (gNm 7) (gCs (gNm 8) gNl))) dYes (dIf (dTest (dBin gLe (dVar 7) (dVar 3))) (dCB gMin2 (dCons (dDat (dVar 8)) (dCons (dDat (dVar 6)) dNil))) (dVar 8)) [7, 8])) (dCons (dDat (dVar 2)) dNil)))))) (sSet 5 (dDat (dVar 6))) (sSet 4 (dDat (dBin gAdd (dVar 6) (dC (.int 1))))))))
  (sRet (dDat (dVar 4)))))
def S_least_room : DF := fun ss T Q _ => ∃ (f : Mp) (n s : Nat) (xs ys : List Int), ss = [.dat (.lst (f.D n)), .dat (.lst (xs.map .int)), .dat (.lst (ys.map .int)), .dat (.int s)] ∧ xs.length = n ∧ ys.length = n ∧ n ≤ 900 ∧ s < n ∧ ∀ z : Int, Q (.dat (.int z)) T
theorem h_least_room : ∀ (ss : List Sl) (T : List Ob) (Q : Sl → List Ob → Prop) (QX : Xn → List Ob → Prop), ss.length = 4 → S_least_room ss T Q QX → B_least_room (endsOf T.length Q QX) (startD 9 4 ss T) := by
  intro ss T Q QX hl h
  obtain ⟨f, n, s, xs, ys, rfl, h1, h2, h3, h4, h⟩ := h
  obtain ⟨x, hx⟩ := at_some (xs := xs) (i := s) (by omega)
  unfold B_least_room
  walk_at "dl"
  rw [hx]
  walk_at "dl"
  refine ⟨fun m ρ => ∃ (lo hi : Int) (u : Option Sl), ρ = ⟨T, [some (.dat (.lst (f.D n))), some (.dat (.lst (xs.map .int))), some (.dat (.lst (ys.map .int))), some (.dat (.int s)), some (.dat (.int lo)), some (.dat (.int hi)), u, none, none]⟩ ∧ m = (hi - lo).toNat, ⟨_, 0, x, none, rfl, rfl⟩, ?_⟩
  rintro m ρ ⟨lo, hi, u, rfl, rfl⟩
  walk_at "dl"
  by_cases q : lo < hi
  · simp only [q]
    walk_at "dl"
    refine ⟨⟨by decide, by decide⟩, ?_⟩
    rw [dComp_eq]
    walk_at "dl"
    refine compK_p isI true [some (.dat (.lst (f.D n))), some (.dat (.lst (xs.map .int))), some (.dat (.lst (ys.map .int))), some (.dat (.int s)), some (.dat (.int lo)), some (.dat (.int hi)), some (.dat (.int ((lo + hi) / 2))), none, none] rfl rfl rfl (by rw [enumD_len, List.length_map, sizeLine_eq]; omega) ?_ ?_
    · intro d hd acc R hR
      obtain ⟨i, y, rfl, hi⟩ := enum_mem _ _ _ hd
      walk_at "dl"
      by_cases q2 : (i : Int) ≤ (s : Int)
      · simp only [q2]
        walk_at "dl"
        exact hR _ _ (fun z hz => ⟨_, (Option.some.inj hz).symm⟩) (fun _ => rfl) rfl
      · simp only [q2]
        walk_at "dl"
        exact hR _ _ (fun z hz => ⟨_, (Option.some.inj hz).symm⟩) (fun _ => rfl) rfl
    · intro zz h5 _ h6
      obtain ⟨ws, rfl⟩ := ints_of h5
      have h6 := h6 rfl
      rw [enumD_len, List.length_map, List.length_map] at h6
      walk_at "dl"
      refine ⟨f, n, ws, ys, rfl, by omega, h2, h3, fun b => ?_⟩
      walk_at "dl"
      cases b
      all_goals walk_at "dl"
      · exact ⟨_, by omega, _, _, _, rfl, rfl⟩
      · exact ⟨_, by omega, _, _, _, rfl, rfl⟩
  · simp only [q]
    walk_at "dl"
    exact h _
/-- pairs -/
def pr2 (p : Int × Int) : D := .tup [.int p.1, .int p.2]
def isP (d : D) : Prop := ∃ p : Int × Int, d = pr2 p
theorem prs_of : ∀ {ys : List D}, (∀ y ∈ ys, isP y) → ∃ ps : List (Int × Int), ys = ps.map pr2
  | [], _ => ⟨[], rfl⟩
  | y :: r, h => by
    obtain ⟨z, rfl⟩ := h y (by simp)
    obtain ⟨zs, rfl⟩ := prs_of (ys := r) fun x hx => h x (by simp [hx])
    exact ⟨z :: zs, rfl⟩
/-- slots: 0 drill, 1 ends, 2 rooms, 3 found, 4 due, 5 sheep -/
def B_bounds_of : DS :=
  (sSeq (sTo (dTup (dCons (dDat (dVal (dCall 2 S_map_of (dCons (dDat (dVar 0)) (dCons (dDat (dCB gLen (dCons (dDat (dVar 1)) dNil))) dNil))))) (dCons (dDat (dVal (dCall 2 S_rooms_of (dCons (dDat (dBin gIx (dVar 0) (dC (.int 0)))) (dCons (dDat (dVar 1)) dNil))))) dNil))) (gTp 2 (gCs (gNm 3) (gCs (gNm 4) gNl))))
  (sSeq (sSet 2 (dDat (dVal (dCall 2 S_greatest (dCons (dDat (dVar 3)) (dCons (dDat (dVar 4)) dNil))))))
  (sSeq (sIf (dtOr (dTest (dBin gLt (dCB gMin (dCons (dDat (dVar 2)) dNil)) (dC (.int 0)))) (dtNot (dTest (dVal (dCall 3 S_leads (dCons (dDat (dVar 3)) (dCons (dDat (dVar 2)) (dCons (dDat (dVar 4)) dNil)))))))) (sRet (dDat (dC .non))) sNil)
  (sRet (dDat (dComp (dRng1 (dCons (dDat (dCB gLen (dCons (dDat (dVar 2)) dNil))) dNil)) (gNm 5) dYes (dTup (dCons (dDat (dVal (dCall 4 S_least_room (dCons (dDat (dVar 3)) (dCons (dDat (dVar 2)) (dCons (dDat (dVar 4)) (dCons (dDat (dVar 5)) dNil))))))) (dCons (dDat (dBin gIx (dVar 2) (dVar 5))) dNil))) [5]))))))
def S_bounds_of : DF := fun ss T Q _ => ∃ (g : Int) (rs : List Rn) (xs : List Int), ss = [.dat (drD g rs), .dat (tupI xs)] ∧ g.natAbs < 2 ^ 200 ∧ 1 ≤ xs.length ∧ xs.length ≤ 900 ∧ (∀ r ∈ rs, r.ok) ∧ Q (.dat .non) T ∧ ∀ ps : List (Int × Int), ps.length ≤ 1000 → Q (.dat (.lst (ps.map pr2))) T
theorem h_bounds_of : ∀ (ss : List Sl) (T : List Ob) (Q : Sl → List Ob → Prop) (QX : Xn → List Ob → Prop), ss.length = 2 → S_bounds_of ss T Q QX → B_bounds_of (endsOf T.length Q QX) (startD 6 2 ss T) := by
  intro ss T Q QX hl h
  obtain ⟨g, rs, xs, rfl, hg, h1, h2, ok, hn, hp⟩ := h
  unfold B_bounds_of
  walk_at "dl"
  refine ⟨g, rs, xs.length, rfl, by omega, ok, ?_⟩
  simp only [drD]
  walk_at "dl"
  refine ⟨g, xs, rfl, hg, h2, fun ys hy => ?_⟩
  generalize mpOf xs.length rs = f
  generalize hxn : xs.length = n at *
  walk_at "dl"
  refine ⟨f, n, ys, rfl, hy, h2, fun zs hz => ?_⟩
  obtain ⟨w, ws, rfl⟩ : ∃ w r, zs = w :: r := by
    cases zs with
    | nil => simp at hz; omega
    | cons w r => exact ⟨w, r, rfl⟩
  walk_at "dl"
  simp only [gMin, intsOf_cons]
  walk_at "dl"
  by_cases q : minOf w ws < 0
  · simp only [q]
    walk_at "dl"
    exact hn
  simp only [q]
  walk_at "dl"
  refine ⟨f, n, w :: ws, ys, rfl, hz, hy, h2, fun b => ?_⟩
  cases b
  · walk_at "dl"
    exact hn
  walk_at "dl"
  rw [dComp_eq]
  walk_at "dl"
  simp only [List.length_cons] at hz
  refine ⟨by omega, ?_⟩
  refine compK_p isP true [some (.dat (drD g rs)), some (.dat (tupI xs)), some (.dat (.lst ((w :: ws).map .int))), some (.dat (.lst (f.D n))), some (.dat (.lst (ys.map .int))), none] rfl rfl rfl (by rw [rangeD_len, sizeLine_eq]; omega) ?_ ?_
  · intro d hd acc R hR
    obtain ⟨i, rfl, i1, i2⟩ := range_mem hd
    obtain ⟨k, rfl⟩ : ∃ k : Nat, i = k := ⟨i.toNat, by omega⟩
    obtain ⟨y, hy2⟩ := at_some (xs := w :: ws) (i := k) (by simp only [List.length_cons]; omega)
    walk_at "dl"
    refine ⟨f, n, k, w :: ws, ys, rfl, by simpa using hz, hy, h2, by omega, fun z => ?_⟩
    walk_at "dl"
    rw [show D.int w :: ws.map .int = (w :: ws).map .int from rfl, atI_map', hy2]
    walk_at "dl"
    exact hR _ _ (fun z hz => ⟨(_, _), (Option.some.inj hz).symm⟩) (fun _ => rfl) rfl
  · intro zz h5 h6 _
    obtain ⟨ps, rfl⟩ := prs_of h5
    rw [rangeD_len, List.length_map] at h6
    walk_at "dl"
    exact hp ps (by omega)
theorem enum_memP : ∀ (ps : List (Int × Int)) (n : Nat) (d : D), d ∈ enumD n (ps.map pr2) → ∃ (i : Nat) (p : Int × Int), d = .tup [.int i, pr2 p] ∧ i < n + ps.length
  | [], _, d, h => by simp [enumD] at h
  | x :: xs, n, d, h => by
    rcases List.mem_cons.mp h with rfl | h
    · exact ⟨n, x, rfl, by simp⟩
    · obtain ⟨i, y, e, l⟩ := enum_memP xs (n + 1) d h
      exact ⟨i, y, e, by simp at l ⊢; omega⟩
/-- slots: 0 drill, 1 ends, 2 found, 3 gap, 4 at, 5 low, 6 high -/
def B_bounds : DS :=
  (sSeq (sDrop (dCall 1 S_need_drill (dCons (dDat (dVar 0)) dNil)))
  (sSeq (sDrop (dCall 2 S_need_beginning (dCons (dDat (dBin gIx (dVar 0) (dC (.int 0)))) (dCons (dDat (dVar 1)) dNil))))
  (sSeq (sTo (dTup (dCons (dDat (dVal (dCall 2 S_bounds_of (dCons (dDat (dVar 0)) (dCons (dDat (dVar 1)) dNil))))) (dCons (dDat (dBin gIx (dVar 0) (dC (.int 0)))) dNil))) (gTp 2 (gCs (gNm 2) (gCs (gNm 3) gNl))))
  (sSeq (sIf (dTest (dBin (gIsN false) (dVar 2) (dC .non))) (sRet (dDat (dC .non))) sNil)
  (sRet (dDat (dCB gTuple (dCons (dDat (dComp (dEnum (dCons (dDat (dVar 2)) dNil)) (gTp 2 (gCs (gNm 4) (gCs (gTp 2 (gCs (gNm 5) (gCs (gNm 6) gNl))) gNl))) dYes (dTup (dCons (dDat (dBin gAdd (dVar 5) (dBin gMulB (dVar 4) (dVar 3)))) (dCons (dDat (dBin gAdd (dVar 6) (dBin gMulB (dVar 4) (dVar 3)))) dNil))) [4, 5, 6])) dNil))))))))
def S_bounds : DF := fun ss T Q QX => (∃ (g : Int) (xs : List Int) (rs : List Rn), ss = [.dat (drD g rs), .dat (tupI xs)] ∧ DrOk g rs ∧ BgOk g xs ∧ ∀ d : D, Q (.dat d) T) ∨ ∃ d e : D, ss = [.dat d, .dat e] ∧ begErr d e QX T
theorem h_bounds : ∀ (ss : List Sl) (T : List Ob) (Q : Sl → List Ob → Prop) (QX : Xn → List Ob → Prop), ss.length = 2 → S_bounds ss T Q QX → B_bounds (endsOf T.length Q QX) (startD 7 2 ss T) := by
  intro ss T Q QX hl h
  unfold B_bounds
  rcases h with ⟨g, xs, rs, rfl, hd, hb, h⟩ | ⟨d, e, rfl, ok1, ok2, h⟩
  · have g1 := hd.g1
    have g9 := hd.g9
    have h40 := hb.l40
    simp only [drD]
    walk_at "dl"
    simp only [S_need_drill]
    refine ⟨okd_drD g rs 57, .inl ⟨hd.fits, ?_⟩⟩
    walk_at "dl"
    simp only [S_need_beginning]
    refine ⟨okd_tupI 59 xs, .inl ⟨hb.begins, ?_⟩⟩
    walk_at "dl"
    refine ⟨g, rs, xs, rfl, by omega, hb.l1, by omega, hd.ok, ?_, fun ps hp => ?_⟩
    · walk_at "dl"
      exact h _
    · walk_at "dl"
      rw [dComp_eq]
      walk_at "dl"
      refine compK_p isP true [some (.dat (drD g rs)), some (.dat (tupI xs)), some (.dat (.lst (ps.map pr2))), some (.dat (.int g)), none, none, none] rfl rfl rfl (by rw [enumD_len, List.length_map, sizeLine_eq]; omega) ?_ ?_
      · intro d hd acc R hR
        obtain ⟨i, p, rfl, hi⟩ := enum_memP _ _ _ hd
        simp only [pr2]
        walk_at "dl"
        refine ⟨cmulW (by omega) (by omega), ?_⟩
        try refine ⟨cmulW (by omega) (by omega), ?_⟩
        exact hR _ _ (fun z hz => ⟨(_, _), (Option.some.inj hz).symm⟩) (fun _ => rfl) rfl
      · intro zz h5 _ _
        walk_at "dl"
        exact h _
  · walk_at "dl"
    simp only [S_need_drill]
    rcases h with ⟨f, h⟩ | ⟨g, rs, rfl, hd, f, h⟩
    · exact ⟨ok1, .inr ⟨f, by walk_at "dl"; exact h⟩⟩
    · refine ⟨ok1, .inl ⟨hd.fits, ?_⟩⟩
      simp only [drD]
      walk_at "dl"
      simp only [S_need_beginning]
      exact ⟨ok2, .inr ⟨f, by walk_at "dl"; exact h⟩⟩
/-- slots: 0 drill, 1 ends, 2 found, 3 gap, 4 at, 5 pair -/
def B_greatest_beginning : DS :=
  (sSeq (sDrop (dCall 1 S_need_drill (dCons (dDat (dVar 0)) dNil)))
  (sSeq (sDrop (dCall 2 S_need_beginning (dCons (dDat (dBin gIx (dVar 0) (dC (.int 0)))) (dCons (dDat (dVar 1)) dNil))))
  (sSeq (sTo (dTup (dCons (dDat (dVal (dCall 2 S_bounds_of (dCons (dDat (dVar 0)) (dCons (dDat (dVar 1)) dNil))))) (dCons (dDat (dBin gIx (dVar 0) (dC (.int 0)))) dNil))) (gTp 2 (gCs (gNm 2) (gCs (gNm 3) gNl))))
  (sRet (dDat (dIf (dTest (dBin (gIsN false) (dVar 2) (dC .non))) (dC .non) (dCB gTuple (dCons (dDat (dComp (dEnum (dCons (dDat (dVar 2)) dNil)) (gTp 2 (gCs (gNm 4) (gCs (gNm 5) gNl))) dYes (dBin gAdd (dBin gIx (dVar 5) (dC (.int 1))) (dBin gMulB (dVar 4) (dVar 3))) [4, 5])) dNil))))))))
def S_greatest_beginning : DF := fun ss T Q QX => (∃ (g : Int) (xs : List Int) (rs : List Rn), ss = [.dat (drD g rs), .dat (tupI xs)] ∧ DrOk g rs ∧ BgOk g xs ∧ ∀ d : D, Q (.dat d) T) ∨ ∃ d e : D, ss = [.dat d, .dat e] ∧ begErr d e QX T
theorem h_greatest_beginning : ∀ (ss : List Sl) (T : List Ob) (Q : Sl → List Ob → Prop) (QX : Xn → List Ob → Prop), ss.length = 2 → S_greatest_beginning ss T Q QX → B_greatest_beginning (endsOf T.length Q QX) (startD 6 2 ss T) := by
  intro ss T Q QX hl h
  unfold B_greatest_beginning
  rcases h with ⟨g, xs, rs, rfl, hd, hb, h⟩ | ⟨d, e, rfl, ok1, ok2, h⟩
  · have g1 := hd.g1
    have g9 := hd.g9
    have h40 := hb.l40
    simp only [drD]
    walk_at "dl"
    simp only [S_need_drill]
    refine ⟨okd_drD g rs 57, .inl ⟨hd.fits, ?_⟩⟩
    walk_at "dl"
    simp only [S_need_beginning]
    refine ⟨okd_tupI 59 xs, .inl ⟨hb.begins, ?_⟩⟩
    walk_at "dl"
    refine ⟨g, rs, xs, rfl, by omega, hb.l1, by omega, hd.ok, ?_, fun ps hp => ?_⟩
    · walk_at "dl"
      exact h _
    · walk_at "dl"
      rw [dComp_eq]
      walk_at "dl"
      refine compK_p isI true [some (.dat (drD g rs)), some (.dat (tupI xs)), some (.dat (.lst (ps.map pr2))), some (.dat (.int g)), none, none] rfl rfl rfl (by rw [enumD_len, List.length_map, sizeLine_eq]; omega) ?_ ?_
      · intro d hd acc R hR
        obtain ⟨i, p, rfl, hi⟩ := enum_memP _ _ _ hd
        simp only [pr2]
        walk_at "dl"
        refine ⟨cmulW (by omega) (by omega), ?_⟩
        exact hR _ _ (fun z hz => ⟨_, (Option.some.inj hz).symm⟩) (fun _ => rfl) rfl
      · intro zz h5 _ _
        walk_at "dl"
        exact h _
  · walk_at "dl"
    simp only [S_need_drill]
    rcases h with ⟨f, h⟩ | ⟨g, rs, rfl, hd, f, h⟩
    · exact ⟨ok1, .inr ⟨f, by walk_at "dl"; exact h⟩⟩
    · refine ⟨ok1, .inl ⟨hd.fits, ?_⟩⟩
      simp only [drD]
      walk_at "dl"
      simp only [S_need_beginning]
      exact ⟨ok2, .inr ⟨f, by walk_at "dl"; exact h⟩⟩
set_option Elab.async false
set_option linter.all false
set_option maxRecDepth 100000
set_option maxHeartbeats 4000000
set_option autoImplicit false
/-! Law k16: a lane is made. -/
section
variable (a b c d : D)
theorem lk_space : List.lookup (Str.ofString "space") [((Str.ofString "space", a) : Str × D), (Str.ofString "now", b), (Str.ofString "past", c)] = some a := by rw [List.lookup_cons_self]
theorem lk_now : List.lookup (Str.ofString "now") [((Str.ofString "space", a) : Str × D), (Str.ofString "now", b), (Str.ofString "past", c)] = some b := by
  rw [List.lookup_cons, show (Str.ofString "now" == Str.ofString "space") = false from by decide]
  exact List.lookup_cons_self
theorem lk_past : List.lookup (Str.ofString "past") [((Str.ofString "space", a) : Str × D), (Str.ofString "now", b), (Str.ofString "past", c)] = some c := by
  rw [List.lookup_cons, show (Str.ofString "past" == Str.ofString "space") = false from by decide]
  show List.lookup (Str.ofString "past") [((Str.ofString "now", b) : Str × D), (Str.ofString "past", c)] = some c
  rw [List.lookup_cons, show (Str.ofString "past" == Str.ofString "now") = false from by decide]
  exact List.lookup_cons_self
theorem lk_other {m : Str} (h1 : (m == Str.ofString "space") = false) (h2 : (m == Str.ofString "now") = false) (h3 : (m == Str.ofString "past") = false) : List.lookup m [((Str.ofString "space", a) : Str × D), (Str.ofString "now", b), (Str.ofString "past", c)] = none := by
  rw [List.lookup_cons, h1]
  show List.lookup m [((Str.ofString "now", b) : Str × D), (Str.ofString "past", c)] = none
  rw [List.lookup_cons, h2]
  show List.lookup m [((Str.ofString "past", c) : Str × D)] = none
  rw [List.lookup_cons, h3]
  rfl
theorem lk_noted : List.lookup (Str.ofString "noted") [((Str.ofString "space", a) : Str × D), (Str.ofString "now", b), (Str.ofString "past", c)] = none := lk_other a b c (by decide) (by decide) (by decide)
theorem lk_enter : List.lookup (Str.ofString "enter") [((Str.ofString "space", a) : Str × D), (Str.ofString "now", b), (Str.ofString "past", c)] = none := lk_other a b c (by decide) (by decide) (by decide)
theorem lk_undo : List.lookup (Str.ofString "undo") [((Str.ofString "space", a) : Str × D), (Str.ofString "now", b), (Str.ofString "past", c)] = none := lk_other a b c (by decide) (by decide) (by decide)
theorem lk_run : List.lookup (Str.ofString "run") [((Str.ofString "space", a) : Str × D), (Str.ofString "now", b), (Str.ofString "past", c)] = none := lk_other a b c (by decide) (by decide) (by decide)
theorem lk_lots : List.lookup (Str.ofString "lots") [((Str.ofString "space", a) : Str × D), (Str.ofString "now", b), (Str.ofString "past", c)] = none := lk_other a b c (by decide) (by decide) (by decide)
theorem lk_MOST : List.lookup (Str.ofString "MOST") [((Str.ofString "space", a) : Str × D), (Str.ofString "now", b), (Str.ofString "past", c)] = none := lk_other a b c (by decide) (by decide) (by decide)
theorem pt_ne {f g : Str} (h : f ≠ g) (d a : D) (r : List (Str × D)) : putD f d ((g, a) :: r) = (g, a) :: putD f d r := by rw [putD, if_neg (fun z => h z.symm)]
theorem pt_1 : putD (Str.ofString "space") d [] = [(Str.ofString "space", d)] := rfl
theorem pt_2 : putD (Str.ofString "now") d [(Str.ofString "space", a)] = [(Str.ofString "space", a), (Str.ofString "now", d)] := by rw [pt_ne (by decide)]; rfl
theorem pt_3 : putD (Str.ofString "past") d [(Str.ofString "space", a), (Str.ofString "now", b)] = [(Str.ofString "space", a), (Str.ofString "now", b), (Str.ofString "past", d)] := by rw [pt_ne (by decide), pt_ne (by decide)]; rfl
theorem pt_now : putD (Str.ofString "now") d [(Str.ofString "space", a), (Str.ofString "now", b), (Str.ofString "past", c)] = [(Str.ofString "space", a), (Str.ofString "now", d), (Str.ofString "past", c)] := by rw [pt_ne (by decide), putD, if_pos rfl]
theorem pt_past : putD (Str.ofString "past") d [(Str.ofString "space", a), (Str.ofString "now", b), (Str.ofString "past", c)] = [(Str.ofString "space", a), (Str.ofString "now", b), (Str.ofString "past", d)] := by rw [pt_ne (by decide), pt_ne (by decide), putD, if_pos rfl]
end
theorem dats_map (ds : List D) : dats (ds.map Sl.dat ++ []) = some ds := by
  rw [List.append_nil]
  induction ds with
  | nil => rfl
  | cons d r ih => rw [List.map_cons, dats, ih]; rfl
local macro_rules | `(tactic| walk_at "di") => `(tactic| (try simp only [dFldO, sFldO, OwnP, dOwn, dOwnT, okTy, dLenI, dStrI, dBoolI, dInI, sAugI, dMeth, dMake, dStar, dProp, dCallO, dMakeV, dIsI, intSl, strSl, blSl, starF, gBool, dConO, dAppE, dTupF, dVarT, dTIdx, dListG, fixF, starF1, lk_space, lk_now, lk_past, lk_noted, lk_enter, lk_undo, lk_run, lk_lots, lk_MOST, pt_1, pt_2, pt_3, pt_now, pt_past, gSortedI, dats_map, sSeq, sSet, sRet, sRetN, sIf, sNil, sDrop, sFor, sTo, sPar2, sPar3, sNever, sRaise, sSetIx, dVar, dC, dVarL, dDat, dVal, valK_dat, valK_ob, dBin, dUn, dNil, dCons, dats, dTup, dLst, dNew, dNewOf, dTest, dtAnd, dtOr, dtNot, dAnd, dOr, dNot, dIf, dChain, dCB, dSl, dNo, dSo, sApp, dIxO, dLenO, dMaxD, dGetP, dCall, dSeq, dRng1, dRng2, dZip, dEnum, gNm, gTp, gCs, gNl, dYes,
  startD, endsOf, retD, wipeS, gAdd, gSub, gMul, gMulA, gMulB, gDiv, gMod, gPow, gNeg, gLt, gLe, gGt, gGe, gEq, gNe, gIn, gIx, gSl, gIsi, tyD, isiD, gLen, gAbs, gInt, gMax2, gMin2, gTuple, gList, gIsN, isNon, gIsB, gNotB,
  List.getElem?_cons_zero, List.getElem?_cons_succ, List.getElem?_nil, List.set_cons_zero, List.set_cons_succ, List.map_cons, List.map_nil, List.cons_append, List.nil_append, List.length_cons, List.length_nil, List.replicate_succ, List.replicate_zero, Option.map_some, Nat.reduceSub, Nat.reduceAdd, Nat.reduceLeDiff,
  List.take_length, beq_self_eq_true, String.reduceBEq, Bool.or_true, Bool.true_or, Bool.or_false, Bool.false_or, Bool.and_true, Bool.and_false, Bool.true_and, Bool.false_and, Bool.or_self, Bool.and_self, decide_true, decide_false, dmem, List.any_cons, List.any_nil, okd_non, okd_bl, okd_int, okd_str, okds_nil, okds_cons, okd_60t, okd_59t, okd_58t, okd_60l, okd_59l, okd_58l, st_tk, st_tb, st_tf, st_kt, st_kb, st_kf, st_bt, st_bk, st_bf, st_ft, st_fk, st_fb, nat_num, Int.reduceBEq, Int.reduceBNe, Int.reduceEq, Int.reduceLT, Int.reduceLE, Int.reduceAdd, Int.reduceSub, Int.reduceMul, Int.reduceNeg, Int.reduceToNat, Int.reducePow, atI_0, atI_1, atI_2, set_last, get_last, take_last, deq_str, deq_int, deq_non, deq_bl, deq_tt, deq_ll, deqs_nn, deqs_cc, deqs_nc, deqs_cn, Nat.lt_irrefl, List.set_set, ixN_20, ixN_21, tupI, okds_ints, atI_map', List.length_map, cutL_map, eq_self, if_true, if_false, ite_true, ite_false, Bool.false_eq_true, decide_eq_true_eq, true_and, and_true, and_self, Bool.not_true, Bool.not_false, true_or, or_true, false_or, or_false, Option.some.injEq, reduceCtorEq]))
/-- places and runs -/
abbrev St14 := List Int × List Rn
def stD (p : St14) : D := .tup [tupI p.1, .tup (p.2.map Rn.d)]
/-- a lane -/
def laneO (g : Int) (now : St14) (past : List St14) : Ob := .ins "Lane" [("space", .int g), ("now", stD now), ("past", .tup (past.map stD))]
theorem set_app (T : List Ob) (o o' : Ob) : (T ++ [o]).set T.length o' = T ++ [o'] := by simp
theorem idx_app (T : List Ob) (o : Ob) : (T ++ [o])[T.length]? = some o := by simp
theorem idx_set {T : List Ob} {k : Nat} (h : k < T.length) (o : Ob) : (T.set k o)[k]? = some o := by rw [List.getElem?_set_self h]
/-- slots: 0 self, 1 gap, 2 beginning -/
def B_Lane_init_u : DS :=
  (sSeq (sIf (dtNot (dTest (dVal (dCall 3 S_is_int (dCons (dDat (dVar 1)) (dCons (dDat (dC (.int 1))) (dCons (dDat (dC (.int 9))) dNil))))))) (sRaise "InvalidDrill") sNil)
  (sSeq (sDrop (dCall 2 S_need_beginning (dCons (dDat (dVar 1)) (dCons (dDat (dVar 2)) dNil))))
  (sSeq (sFldO "Lane" "space" (dVarL 0) (dVar 1))
  (sSeq (sFldO "Lane" "now" (dVarL 0) (dTup (dCons (dDat (dVar 2)) (dCons (dDat (dTup dNil)) dNil))))
  (sFldO "Lane" "past" (dVarL 0) (dTup dNil))))))
def S_Lane_init_u : DF := fun ss T Q QX => ∃ (k : Nat) (a b : D), ss = [.ob k, .dat a, .dat b] ∧ T[k]? = some (.ins "Lane" []) ∧ okd 60 a = true ∧ okd 60 b = true ∧
  ((isInt a 1 9 = false ∧ QX ⟨"InvalidDrill", none⟩ T) ∨ ∃ g : Int, a = .int g ∧ 1 ≤ g ∧ g ≤ 9 ∧ ((beginsB g b = false ∧ QX ⟨"InvalidBeginning", none⟩ T) ∨ ∃ xs, b = tupI xs ∧ BgOk g xs ∧ Q (.dat .non) (T.set k (laneO g (xs, []) []))))
theorem h_Lane_init_u : ∀ (ss : List Sl) (T : List Ob) (Q : Sl → List Ob → Prop) (QX : Xn → List Ob → Prop), ss.length = 3 → S_Lane_init_u ss T Q QX → B_Lane_init_u (endsOf T.length Q QX) (startD 3 3 ss T) := by
  intro ss T Q QX hl h
  obtain ⟨k, a, b, rfl, hk, ok1, ok2, h⟩ := h
  have hT : k < T.length := (List.getElem?_eq_some_iff.mp hk).1
  unfold B_Lane_init_u
  rcases h with ⟨f, h⟩ | ⟨g, rfl, g1, g9, ⟨f, h⟩ | ⟨xs, rfl, hb, h⟩⟩
  · walk_at "di"
    simp only [S_is_int]
    refine ⟨ok1, ?_⟩
    rw [f]
    walk_at "di"
    exact h
  · walk_at "di"
    simp only [S_is_int]
    refine ⟨okd_int _ _, ?_⟩
    rw [isInt_int g1 g9]
    walk_at "di"
    simp only [S_need_beginning]
    exact ⟨ok2, .inr ⟨f, by walk_at "di"; exact h⟩⟩
  · walk_at "di"
    simp only [S_is_int]
    refine ⟨okd_int _ _, ?_⟩
    rw [isInt_int g1 g9]
    walk_at "di"
    simp only [S_need_beginning]
    refine ⟨okd_tupI 59 xs, .inl ⟨hb.begins, ?_⟩⟩
    have hk1 : ∀ o, (T.set k o)[k]? = some o := idx_set hT
    (walk_at "di"; repeat (simp only [hk, hk1]; walk_at "di"))
    rw [List.take_of_length_le (by simp)]
    exact h
set_option Elab.async false
set_option linter.all false
set_option maxRecDepth 100000
set_option maxHeartbeats 4000000
set_option autoImplicit false
/-! Law k16: words of errors; lists of calls. -/
def R15 : List Str := ["InvalidDrill", "InvalidBeginning", "InvalidMany", "InvalidSheep", "Unlike"]
def wordsX : List (Xn × Str) := [(⟨"InvalidDrill", none⟩, "drill"), (⟨"InvalidBeginning", none⟩, "beginning"), (⟨"InvalidMany", none⟩, "many"), (⟨"InvalidSheep", none⟩, "sheep"), (⟨"Unlike", none⟩, "unlike")]
/-- slots: 0 _law_call, 1 _law_found, 2 e -/
def B_l_word (c : Clo) : DS :=
  (sSeq (sSet 1 (dDat (dC (.str ""))))
  (sSeq (sTryF R15 (sDrop (dAct1 0 c dNil)) [("InvalidDrill", fun _ => (sSet 1 (dDat (dC (.str "drill"))))), ("InvalidBeginning", fun _ => (sSet 1 (dDat (dC (.str "beginning"))))), ("InvalidMany", fun _ => (sSet 1 (dDat (dC (.str "many"))))), ("InvalidSheep", fun _ => (sSet 1 (dDat (dC (.str "sheep"))))), ("InvalidPlace", fun _ => (sSet 1 (dDat (dC (.str "place"))))), ("InvalidRun", fun _ => (sSet 1 (dDat (dC (.str "run"))))), ("InvalidIndex", fun _ => (sSet 1 (dDat (dC (.str "index"))))), ("Unlike", fun _ => (sSet 1 (dDat (dC (.str "unlike"))))), ("NothingToUndo", fun _ => (sSet 1 (dDat (dC (.str "undo"))))), ("TooMany", sFld 2 1 "full" "limit"), ("InvalidText", sFld 2 1 "text" "line"), ("DogError", fun _ => (sSet 1 (dDat (dC (.str "base")))))])
  (sRet (dDat (dVar 1)))))
def S_l_word (c : Clo) : DF := fun ss T Q _ => ss = [c.sl] ∧ c.n = 0 ∧ c.S [] T (fun _ T' => Q (.dat (.str "")) (T'.take T.length)) (fun x T' => ∃ w, (x, w) ∈ wordsX ∧ Q (.dat (.str w)) (T'.take T.length))
theorem h_l_word (c : Clo) : ∀ (ss : List Sl) (T : List Ob) (Q : Sl → List Ob → Prop) (QX : Xn → List Ob → Prop), ss.length = 1 → S_l_word c ss T Q QX → B_l_word c (endsOf T.length Q QX) (startD 3 1 ss T) := by
  intro ss T Q QX hl h
  obtain ⟨rfl, hn, h⟩ := h
  unfold B_l_word
  walk_at "di"
  simp only [sTryF, sDrop, dAct1]
  walk_at "di"
  refine ⟨hn.symm, _, _, h, ?_, ?_⟩
  · intro r T' q
    exact q
  · rintro x T' ⟨w, hw, q⟩
    simp only [wordsX, List.mem_cons, Prod.mk.injEq, List.not_mem_nil, or_false] at hw
    have hR : ∀ x ∈ R15, R15.contains x = true := fun x h => by simpa using h
    rcases hw with ⟨rfl, rfl⟩ | ⟨rfl, rfl⟩ | ⟨rfl, rfl⟩ | ⟨rfl, rfl⟩ | ⟨rfl, rfl⟩
    · simp only [hndlF, hR _ (show ("InvalidDrill" : Str) ∈ R15 from by decide), true_and]
      repeat rw [if_neg (by decide)]
      rw [if_pos (by decide)]
      walk_at "di"
      exact q
    · simp only [hndlF, hR _ (show ("InvalidBeginning" : Str) ∈ R15 from by decide), true_and]
      repeat rw [if_neg (by decide)]
      rw [if_pos (by decide)]
      walk_at "di"
      exact q
    · simp only [hndlF, hR _ (show ("InvalidMany" : Str) ∈ R15 from by decide), true_and]
      repeat rw [if_neg (by decide)]
      rw [if_pos (by decide)]
      walk_at "di"
      exact q
    · simp only [hndlF, hR _ (show ("InvalidSheep" : Str) ∈ R15 from by decide), true_and]
      repeat rw [if_neg (by decide)]
      rw [if_pos (by decide)]
      walk_at "di"
      exact q
    · simp only [hndlF, hR _ (show ("Unlike" : Str) ∈ R15 from by decide), true_and]
      repeat rw [if_neg (by decide)]
      rw [if_pos (by decide)]
      walk_at "di"
      exact q
/-- a lambda's call has this word -/
def wdS (S : DF) (raw : List D) (w : Str) : Prop := ∀ (T : List Ob) (Q : Sl → List Ob → Prop), Q (.dat (.str w)) T → S (raw.map Sl.dat) T (fun _ T' => Q (.dat (.str "")) (T'.take T.length)) (fun x T' => ∃ w', (x, w') ∈ wordsX ∧ Q (.dat (.str w')) (T'.take T.length))
/-- slots: 0 _law_calls, 1 _law_word_here, 2 _law_call -/
def B_l_all_words (es : List EntZ) : DS :=
  (sRet (dDat (dBin gEq (dCompZ es (dSeq (dVar 0)) (fun c => (dTest (dBin gNe (dVal (dCall 1 (S_l_word c) (dCons (dVarL 2) dNil))) (dVar 1)))) [2] 2) (dLst dNil))))
def S_l_all_words (es : List EntZ) : DF := fun ss T Q _ => ∃ w : Str, ss = [.dat (.lst (es.map fun e => .cl e.f e.G)), .dat (.str w)] ∧ (∀ e ∈ es, e.m = 0 ∧ wdS e.S e.raw w) ∧ Q (.dat (.bl true)) T
theorem wd_word {e : EntZ} {G : Hp} {la : List Addr} {w : Str} {T : List Ob} (h1 : e.m = 0) (h2 : wdS e.S e.raw w) (Q : Sl → List Ob → Prop) (QX : Xn → List Ob → Prop) (q : Q (.dat (.str w)) T) : S_l_word (e.clo G la) [.clo e.f G la] T Q QX := ⟨rfl, h1, h2 T Q q⟩
theorem allw {w : Str} {T : List Ob} {a : Option Sl} {F : Env → Prop} (hF : ∀ y, F ⟨T, [a, some (.dat (.str w)), y]⟩) : ∀ (es : List EntZ), (∀ e ∈ es, e.m = 0 ∧ wdS e.S e.raw w) → ∀ y,
    compZ (fun c => (dTest (dBin gNe (dVal (dCall 1 (S_l_word c) (dCons (dVarL 2) dNil))) (dVar 1)))) [2] 2 es ⟨T, [a, some (.dat (.str w)), y]⟩ F
  | [], _, y => hF y
  | e :: es, he, y => fun G la => by
    obtain ⟨h1, h2⟩ := he e (by simp)
    have ih := allw hF es fun x hx => he x (by simp [hx])
    walk_at "di"
    refine wd_word h1 h2 _ _ ?_
    walk_at "di"
    exact ih _
theorem h_l_all_words (es : List EntZ) : ∀ (ss : List Sl) (T : List Ob) (Q : Sl → List Ob → Prop) (QX : Xn → List Ob → Prop), ss.length = 2 → S_l_all_words es ss T Q QX → B_l_all_words es (endsOf T.length Q QX) (startD 3 2 ss T) := by
  intro ss T Q QX hl h
  obtain ⟨w, rfl, he, h⟩ := h
  unfold B_l_all_words
  walk_at "di"
  simp only [dCompZ]
  walk_at "di"
  refine allw (fun y => ?_) es he none
  walk_at "di"
  exact ⟨rfl, h⟩
/-! ### defs that hand out lambdas -/
/-- what such a def hands out: n lambdas, from the o-th on -/
def MkS (Fz : Nat → List D → Addr → Hp → Prop) (o n : Nat) (raw : List D) (T : List Ob) (Q : Sl → List Ob → Prop) : Prop := ∀ (fs : List Addr) (G : Hp), fs.length = n → (∀ (i : Nat) (f : Addr), fs[i]? = some f → Fz (o + i) raw f G) → Q (.dat (.lst (fs.map fun f => .cl f G))) T
def LmAll (Lm : Nat → Addr → Hp → Prop) : Nat → List (Addr × Hp) → Prop
  | _, [] => True
  | i, p :: r => Lm i p.1 p.2 ∧ LmAll Lm (i + 1) r
theorem LmAll.at {Lm : Nat → Addr → Hp → Prop} : ∀ {ms : List (Addr × Hp)} {k i : Nat} {p : Addr × Hp}, LmAll Lm k ms → ms[i]? = some p → Lm (k + i) p.1 p.2
  | [], _, _, _, _, h => by simp at h
  | q :: r, k, 0, p, a, h => by
    have e := Option.some.inj h
    subst e
    exact a.1
  | q :: r, k, i + 1, p, a, h => by
    have := LmAll.at (i := i) a.2 h
    rwa [show k + 1 + i = k + (i + 1) by omega] at this
theorem zend {Lm : Nat → Addr → Hp → Prop} {Fz : Nat → List D → Addr → Hp → Prop} {o : Nat} {ixs : List Nat} {raw : List D} {s : List (Option Sl)} {T' T : List Ob} {Q : Sl → List Ob → Prop} {tab : List LamZ} {x : Sl} (ms : List (Addr × Hp)) (hm : LmAll Lm 0 ms) (h : MkS Fz o ms.length raw T Q)
    (hx : x = .dat (.lst (ms.map fun p => .cl p.1 p.2))) (htab : tab = (List.range ms.length).map fun i => ⟨Lm i, ixs, Fz (o + i)⟩) (hraw : ixs.map (fun i => s[i]?) = (raw.map Sl.dat).map fun x => some (some x)) (hT : T'.take T.length = T) : retZ T.length tab Q x ⟨T', s⟩ := by
  have hmem : ∀ c ∈ (ms.zipIdx.map fun p => (p.2, p.1.1, p.1.2, raw) : CsZ), ∃ (i : Nat) (p : Addr × Hp), ms[i]? = some p ∧ c = (i, p.1, p.2, raw) := fun c hc => by
    obtain ⟨⟨p, i⟩, hp, rfl⟩ := List.mem_map.mp hc
    exact ⟨i, p, by simpa using List.mem_zipIdx_iff_getElem?.mp hp, rfl⟩
  have hat : ∀ (i : Nat) (p : Addr × Hp), ms[i]? = some p → tab[i]? = some ⟨Lm i, ixs, Fz (o + i)⟩ := fun i p hp => by
    rw [htab, List.getElem?_map, List.getElem?_range (List.getElem?_eq_some_iff.mp hp).1]
    rfl
  have hmap : ∀ g : Addr × Hp → D, (ms.zipIdx.map fun p => (p.2, p.1.1, p.1.2, raw) : CsZ).map (fun c => g (c.2.1, c.2.2.1)) = ms.map g := fun g => by
    rw [List.map_map]
    have : ms.map g = (ms.zipIdx.map Prod.fst).map g := by rw [List.zipIdx_map_fst]
    rw [this, List.map_map]
    rfl
  refine ⟨ms.zipIdx.map fun p => (p.2, p.1.1, p.1.2, raw), ?_, fun c hc => ?_, fun G2 hz => ?_⟩
  · rw [hx, CsZ.old, hmap fun p => .cl p.1 p.2]
  · obtain ⟨i, p, hp, rfl⟩ := hmem c hc
    refine ⟨_, hat i p hp, ?_, hraw⟩
    have := hm.at hp
    rwa [Nat.zero_add] at this
  · rw [hT, CsZ.new, hmap fun p => .cl p.1 G2]
    have := h (ms.map (·.1)) G2 (by simp) fun i f hf => by
      rw [List.getElem?_map] at hf
      obtain ⟨p, hp, rfl⟩ := Option.map_eq_some_iff.mp hf
      exact hz (i, p.1, p.2, raw) (List.mem_map.mpr ⟨(p, i), List.mem_zipIdx_iff_getElem?.mpr hp, rfl⟩) _ (hat i p hp)
    rwa [List.map_map] at this
/-- 0 _law_work_here -/
def LB_l_first_calls_0 : DL' :=
  (dDat (dVal (dCall 2 S_is_beginning (dCons (dDat (dVar 0)) (dCons (dDat (dC .non)) dNil)))))
/-- 0 _law_work_here -/
def LB_l_first_calls_1 : DL' :=
  (dDat (dVal (dCall 2 S_course (dCons (dDat (dVar 0)) (dCons (dDat (dC .non)) dNil)))))
/-- 0 _law_work_here -/
def LB_l_first_calls_2 : DL' :=
  (dDat (dVal (dCall 2 S_ends (dCons (dDat (dVar 0)) (dCons (dDat (dC .non)) dNil)))))
/-- 0 _law_work_here -/
def LB_l_first_calls_3 : DL' :=
  (dDat (dVal (dCall 3 S_form (dCons (dDat (dVar 0)) (dCons (dDat (dC .non)) (dCons (dDat (dC .non)) dNil))))))
/-- 0 _law_work_here -/
def LB_l_first_calls_4 : DL' :=
  (dDat (dVal (dCall 3 S_moves (dCons (dDat (dVar 0)) (dCons (dDat (dC .non)) (dCons (dDat (dC .non)) dNil))))))
/-- 0 _law_work_here -/
def LB_l_first_calls_5 : DL' :=
  (dDat (dVal (dCall 3 S_least_place (dCons (dDat (dVar 0)) (dCons (dDat (dC .non)) (dCons (dDat (dC .non)) dNil))))))
/-- 0 _law_work_here -/
def LB_l_first_calls_6 : DL' :=
  (dDat (dVal (dCall 2 S_past_rows (dCons (dDat (dVar 0)) (dCons (dDat (dC .non)) dNil)))))
/-- 0 _law_work_here -/
def LB_l_first_calls_7 : DL' :=
  (dDat (dVal (dCall 1 S_never_parted (dCons (dDat (dVar 0)) dNil))))
/-- 0 _law_work_here -/
def LB_l_first_calls_8 : DL' :=
  (dDat (dVal (dCall 2 S_parted (dCons (dDat (dVar 0)) (dCons (dDat (dC .non)) dNil)))))
/-- 0 _law_work_here -/
def LB_l_first_calls_9 : DL' :=
  (dDat (dVal (dCall 1 S_idle (dCons (dDat (dVar 0)) dNil))))
/-- 0 _law_work_here -/
def LB_l_first_calls_10 : DL' :=
  (dDat (dVal (dCall 1 S_swaps (dCons (dDat (dVar 0)) dNil))))
/-- 0 _law_work_here -/
def LB_l_first_calls_11 : DL' :=
  (dDat (dVal (dCall 1 S_shortest (dCons (dDat (dVar 0)) dNil))))
/-- 0 _law_work_here -/
def LB_l_first_calls_12 : DL' :=
  (dDat (dVal (dCall 2 S_bounds (dCons (dDat (dVar 0)) (dCons (dDat (dC .non)) dNil)))))
/-- 0 _law_work_here -/
def LB_l_first_calls_13 : DL' :=
  (dDat (dVal (dCall 2 S_greatest_beginning (dCons (dDat (dVar 0)) (dCons (dDat (dC .non)) dNil)))))
/-- 0 _law_work_here -/
def LB_l_first_calls_14 : DL' :=
  (dDat (dVal (dCall 1 S_drill_text (dCons (dDat (dVar 0)) dNil))))
/-- slots: 0 _law_work_here, 1 _law_rows -/
def B_l_first_calls (Lm : Nat → Addr → Hp → Prop) : DS :=
  (sSeq (sSet 1 (dNew (dCons (dMk (Lm 0)) dNil)))
  (sSeq (sApp 1 (dVal (dMk (Lm 1))))
  (sSeq (sApp 1 (dVal (dMk (Lm 2))))
  (sSeq (sApp 1 (dVal (dMk (Lm 3))))
  (sSeq (sApp 1 (dVal (dMk (Lm 4))))
  (sSeq (sApp 1 (dVal (dMk (Lm 5))))
  (sSeq (sApp 1 (dVal (dMk (Lm 6))))
  (sSeq (sApp 1 (dVal (dMk (Lm 7))))
  (sSeq (sApp 1 (dVal (dMk (Lm 8))))
  (sSeq (sApp 1 (dVal (dMk (Lm 9))))
  (sSeq (sApp 1 (dVal (dMk (Lm 10))))
  (sSeq (sApp 1 (dVal (dMk (Lm 11))))
  (sSeq (sApp 1 (dVal (dMk (Lm 12))))
  (sSeq (sApp 1 (dVal (dMk (Lm 13))))
  (sSeq (sApp 1 (dVal (dMk (Lm 14))))
  (sRet (dDat (dVar 1))))))))))))))))))
def S_l_first_calls (Fz : Nat → List D → Addr → Hp → Prop) : DF := fun ss T Q _ => ∃ d : D, ss = [.dat d] ∧ MkS Fz 0 15 [d] T Q
theorem h_l_first_calls (Lm : Nat → Addr → Hp → Prop) (Fz : Nat → List D → Addr → Hp → Prop) : ∀ (ss : List Sl) (T : List Ob) (Q : Sl → List Ob → Prop) (QX : Xn → List Ob → Prop), ss.length = 1 → S_l_first_calls Fz ss T Q QX → B_l_first_calls Lm (endsZ T.length [⟨Lm 0, [0], Fz 0⟩, ⟨Lm 1, [0], Fz 1⟩, ⟨Lm 2, [0], Fz 2⟩, ⟨Lm 3, [0], Fz 3⟩, ⟨Lm 4, [0], Fz 4⟩, ⟨Lm 5, [0], Fz 5⟩, ⟨Lm 6, [0], Fz 6⟩, ⟨Lm 7, [0], Fz 7⟩, ⟨Lm 8, [0], Fz 8⟩, ⟨Lm 9, [0], Fz 9⟩, ⟨Lm 10, [0], Fz 10⟩, ⟨Lm 11, [0], Fz 11⟩, ⟨Lm 12, [0], Fz 12⟩, ⟨Lm 13, [0], Fz 13⟩, ⟨Lm 14, [0], Fz 14⟩] Q QX) (startD 2 1 ss T) := by
  intro ss T Q QX hl h
  obtain ⟨d, rfl, h⟩ := h
  unfold B_l_first_calls
  simp only [endsZ]
  walk_at "di"
  intro f0 G0 m0
  walk_at "di"
  intro f1 G1 m1
  walk_at "di"
  refine ⟨by simp [sizeLine_eq], ?_⟩
  intro f2 G2 m2
  walk_at "di"
  refine ⟨by simp [sizeLine_eq], ?_⟩
  intro f3 G3 m3
  walk_at "di"
  refine ⟨by simp [sizeLine_eq], ?_⟩
  intro f4 G4 m4
  walk_at "di"
  refine ⟨by simp [sizeLine_eq], ?_⟩
  intro f5 G5 m5
  walk_at "di"
  refine ⟨by simp [sizeLine_eq], ?_⟩
  intro f6 G6 m6
  walk_at "di"
  refine ⟨by simp [sizeLine_eq], ?_⟩
  intro f7 G7 m7
  walk_at "di"
  refine ⟨by simp [sizeLine_eq], ?_⟩
  intro f8 G8 m8
  walk_at "di"
  refine ⟨by simp [sizeLine_eq], ?_⟩
  intro f9 G9 m9
  walk_at "di"
  refine ⟨by simp [sizeLine_eq], ?_⟩
  intro f10 G10 m10
  walk_at "di"
  refine ⟨by simp [sizeLine_eq], ?_⟩
  intro f11 G11 m11
  walk_at "di"
  refine ⟨by simp [sizeLine_eq], ?_⟩
  intro f12 G12 m12
  walk_at "di"
  refine ⟨by simp [sizeLine_eq], ?_⟩
  intro f13 G13 m13
  walk_at "di"
  refine ⟨by simp [sizeLine_eq], ?_⟩
  intro f14 G14 m14
  walk_at "di"
  refine ⟨by simp [sizeLine_eq], ?_⟩
  exact zend (ixs := [0]) [(f0, G0), (f1, G1), (f2, G2), (f3, G3), (f4, G4), (f5, G5), (f6, G6), (f7, G7), (f8, G8), (f9, G9), (f10, G10), (f11, G11), (f12, G12), (f13, G13), (f14, G14)] ⟨m0, m1, m2, m3, m4, m5, m6, m7, m8, m9, m10, m11, m12, m13, m14, trivial⟩ h rfl rfl rfl (by simp)
/-- 0 _law_one, 1 _law_other -/
def LB_l_pair_calls_0 : DL' :=
  (dDat (dVal (dCall 2 S_alike (dCons (dVarL 0) (dCons (dVarL 1) dNil)))))
/-- 0 _law_one, 1 _law_other -/
def LB_l_pair_calls_1 : DL' :=
  (dDat (dVal (dCall 2 S_parting (dCons (dVarL 0) (dCons (dVarL 1) dNil)))))
/-- 0 _law_one, 1 _law_other -/
def LB_l_pair_calls_2 : DL' :=
  (dDat (dVal (dCall 2 S_never_behind (dCons (dVarL 0) (dCons (dVarL 1) dNil)))))
/-- 0 _law_one, 1 _law_other -/
def LB_l_pair_calls_3 : DL' :=
  (dDat (dVal (dCall 2 S_first_behind (dCons (dVarL 0) (dCons (dVarL 1) dNil)))))
/-- slots: 0 _law_one, 1 _law_other, 2 _law_rows -/
def B_l_pair_calls (Lm : Nat → Addr → Hp → Prop) : DS :=
  (sSeq (sSet 2 (dNew (dCons (dMk (Lm 0)) dNil)))
  (sSeq (sApp 2 (dVal (dMk (Lm 1))))
  (sSeq (sApp 2 (dVal (dMk (Lm 2))))
  (sSeq (sApp 2 (dVal (dMk (Lm 3))))
  (sRet (dDat (dVar 2)))))))
def S_l_pair_calls (Fz : Nat → List D → Addr → Hp → Prop) : DF := fun ss T Q _ => ∃ d e : D, ss = [.dat d, .dat e] ∧ MkS Fz 15 4 [d, e] T Q
theorem h_l_pair_calls (Lm : Nat → Addr → Hp → Prop) (Fz : Nat → List D → Addr → Hp → Prop) : ∀ (ss : List Sl) (T : List Ob) (Q : Sl → List Ob → Prop) (QX : Xn → List Ob → Prop), ss.length = 2 → S_l_pair_calls Fz ss T Q QX → B_l_pair_calls Lm (endsZ T.length [⟨Lm 0, [0, 1], Fz 15⟩, ⟨Lm 1, [0, 1], Fz 16⟩, ⟨Lm 2, [0, 1], Fz 17⟩, ⟨Lm 3, [0, 1], Fz 18⟩] Q QX) (startD 3 2 ss T) := by
  intro ss T Q QX hl h
  obtain ⟨d, e, rfl, h⟩ := h
  unfold B_l_pair_calls
  simp only [endsZ]
  walk_at "di"
  intro f0 G0 m0
  walk_at "di"
  intro f1 G1 m1
  walk_at "di"
  refine ⟨by simp [sizeLine_eq], ?_⟩
  intro f2 G2 m2
  walk_at "di"
  refine ⟨by simp [sizeLine_eq], ?_⟩
  intro f3 G3 m3
  walk_at "di"
  refine ⟨by simp [sizeLine_eq], ?_⟩
  exact zend (ixs := [0, 1]) [(f0, G0), (f1, G1), (f2, G2), (f3, G3)] ⟨m0, m1, m2, m3, trivial⟩ h rfl rfl rfl (by simp)
/-- 0 _law_work_here, 1 _law_places -/
def LB_l_place_calls_0 : DL' :=
  (dDat (dVal (dCall 2 S_course (dCons (dDat (dVar 0)) (dCons (dDat (dVar 1)) dNil)))))
/-- 0 _law_work_here, 1 _law_places -/
def LB_l_place_calls_1 : DL' :=
  (dDat (dVal (dCall 2 S_ends (dCons (dDat (dVar 0)) (dCons (dDat (dVar 1)) dNil)))))
/-- 0 _law_work_here, 1 _law_places -/
def LB_l_place_calls_2 : DL' :=
  (dDat (dVal (dCall 2 S_bounds (dCons (dDat (dVar 0)) (dCons (dDat (dVar 1)) dNil)))))
/-- 0 _law_work_here, 1 _law_places -/
def LB_l_place_calls_3 : DL' :=
  (dDat (dVal (dCall 2 S_greatest_beginning (dCons (dDat (dVar 0)) (dCons (dDat (dVar 1)) dNil)))))
/-- 0 _law_work_here, 1 _law_places -/
def LB_l_place_calls_4 : DL' :=
  (dMake "Lane" (fixF 3 S_Lane_init_u) (dCons (dDat (dBin gIx (dVar 0) (dC (.int 0)))) (dCons (dDat (dVar 1)) dNil)))
/-- slots: 0 _law_work_here, 1 _law_places, 2 _law_rows -/
def B_l_place_calls (Lm : Nat → Addr → Hp → Prop) : DS :=
  (sSeq (sSet 2 (dNew (dCons (dMk (Lm 0)) dNil)))
  (sSeq (sApp 2 (dVal (dMk (Lm 1))))
  (sSeq (sApp 2 (dVal (dMk (Lm 2))))
  (sSeq (sApp 2 (dVal (dMk (Lm 3))))
  (sSeq (sApp 2 (dVal (dMk (Lm 4))))
  (sRet (dDat (dVar 2))))))))
def S_l_place_calls (Fz : Nat → List D → Addr → Hp → Prop) : DF := fun ss T Q _ => ∃ d e : D, ss = [.dat d, .dat e] ∧ MkS Fz 19 5 [d, e] T Q
theorem h_l_place_calls (Lm : Nat → Addr → Hp → Prop) (Fz : Nat → List D → Addr → Hp → Prop) : ∀ (ss : List Sl) (T : List Ob) (Q : Sl → List Ob → Prop) (QX : Xn → List Ob → Prop), ss.length = 2 → S_l_place_calls Fz ss T Q QX → B_l_place_calls Lm (endsZ T.length [⟨Lm 0, [0, 1], Fz 19⟩, ⟨Lm 1, [0, 1], Fz 20⟩, ⟨Lm 2, [0, 1], Fz 21⟩, ⟨Lm 3, [0, 1], Fz 22⟩, ⟨Lm 4, [0, 1], Fz 23⟩] Q QX) (startD 3 2 ss T) := by
  intro ss T Q QX hl h
  obtain ⟨d, e, rfl, h⟩ := h
  unfold B_l_place_calls
  simp only [endsZ]
  walk_at "di"
  intro f0 G0 m0
  walk_at "di"
  intro f1 G1 m1
  walk_at "di"
  refine ⟨by simp [sizeLine_eq], ?_⟩
  intro f2 G2 m2
  walk_at "di"
  refine ⟨by simp [sizeLine_eq], ?_⟩
  intro f3 G3 m3
  walk_at "di"
  refine ⟨by simp [sizeLine_eq], ?_⟩
  intro f4 G4 m4
  walk_at "di"
  refine ⟨by simp [sizeLine_eq], ?_⟩
  exact zend (ixs := [0, 1]) [(f0, G0), (f1, G1), (f2, G2), (f3, G3), (f4, G4)] ⟨m0, m1, m2, m3, m4, trivial⟩ h rfl rfl rfl (by simp)
/-- 0 _law_work_here, 1 _law_many, 2 _law_sheep -/
def LB_l_many_calls_0 : DL' :=
  (dDat (dVal (dCall 3 S_form (dCons (dDat (dVar 0)) (dCons (dDat (dVar 1)) (dCons (dDat (dVar 2)) dNil))))))
/-- 0 _law_work_here, 1 _law_many, 2 _law_sheep -/
def LB_l_many_calls_1 : DL' :=
  (dDat (dVal (dCall 3 S_moves (dCons (dDat (dVar 0)) (dCons (dDat (dVar 1)) (dCons (dDat (dVar 2)) dNil))))))
/-- 0 _law_work_here, 1 _law_many, 2 _law_sheep -/
def LB_l_many_calls_2 : DL' :=
  (dDat (dVal (dCall 3 S_least_place (dCons (dDat (dVar 0)) (dCons (dDat (dVar 1)) (dCons (dDat (dVar 2)) dNil))))))
/-- slots: 0 _law_work_here, 1 _law_many, 2 _law_sheep, 3 _law_rows -/
def B_l_many_calls (Lm : Nat → Addr → Hp → Prop) : DS :=
  (sSeq (sSet 3 (dNew (dCons (dMk (Lm 0)) dNil)))
  (sSeq (sApp 3 (dVal (dMk (Lm 1))))
  (sSeq (sApp 3 (dVal (dMk (Lm 2))))
  (sRet (dDat (dVar 3))))))
def S_l_many_calls (Fz : Nat → List D → Addr → Hp → Prop) : DF := fun ss T Q _ => ∃ d e u : D, ss = [.dat d, .dat e, .dat u] ∧ MkS Fz 24 3 [d, e, u] T Q
theorem h_l_many_calls (Lm : Nat → Addr → Hp → Prop) (Fz : Nat → List D → Addr → Hp → Prop) : ∀ (ss : List Sl) (T : List Ob) (Q : Sl → List Ob → Prop) (QX : Xn → List Ob → Prop), ss.length = 3 → S_l_many_calls Fz ss T Q QX → B_l_many_calls Lm (endsZ T.length [⟨Lm 0, [0, 1, 2], Fz 24⟩, ⟨Lm 1, [0, 1, 2], Fz 25⟩, ⟨Lm 2, [0, 1, 2], Fz 26⟩] Q QX) (startD 4 3 ss T) := by
  intro ss T Q QX hl h
  obtain ⟨d, e, u, rfl, h⟩ := h
  unfold B_l_many_calls
  simp only [endsZ]
  walk_at "di"
  intro f0 G0 m0
  walk_at "di"
  intro f1 G1 m1
  walk_at "di"
  refine ⟨by simp [sizeLine_eq], ?_⟩
  intro f2 G2 m2
  walk_at "di"
  refine ⟨by simp [sizeLine_eq], ?_⟩
  exact zend (ixs := [0, 1, 2]) [(f0, G0), (f1, G1), (f2, G2)] ⟨m0, m1, m2, trivial⟩ h rfl rfl rfl (by simp)
def tfs (Fz : Nat → List D → Addr → Hp → Prop) : List FzE := [⟨Fz 0, 0, lamS LB_l_first_calls_0⟩, ⟨Fz 1, 0, lamS LB_l_first_calls_1⟩, ⟨Fz 2, 0, lamS LB_l_first_calls_2⟩, ⟨Fz 3, 0, lamS LB_l_first_calls_3⟩, ⟨Fz 4, 0, lamS LB_l_first_calls_4⟩, ⟨Fz 5, 0, lamS LB_l_first_calls_5⟩, ⟨Fz 6, 0, lamS LB_l_first_calls_6⟩, ⟨Fz 7, 0, lamS LB_l_first_calls_7⟩, ⟨Fz 8, 0, lamS LB_l_first_calls_8⟩, ⟨Fz 9, 0, lamS LB_l_first_calls_9⟩, ⟨Fz 10, 0, lamS LB_l_first_calls_10⟩, ⟨Fz 11, 0, lamS LB_l_first_calls_11⟩, ⟨Fz 12, 0, lamS LB_l_first_calls_12⟩, ⟨Fz 13, 0, lamS LB_l_first_calls_13⟩, ⟨Fz 14, 0, lamS LB_l_first_calls_14⟩, ⟨Fz 15, 0, lamS LB_l_pair_calls_0⟩, ⟨Fz 16, 0, lamS LB_l_pair_calls_1⟩, ⟨Fz 17, 0, lamS LB_l_pair_calls_2⟩, ⟨Fz 18, 0, lamS LB_l_pair_calls_3⟩, ⟨Fz 19, 0, lamS LB_l_place_calls_0⟩, ⟨Fz 20, 0, lamS LB_l_place_calls_1⟩, ⟨Fz 21, 0, lamS LB_l_place_calls_2⟩, ⟨Fz 22, 0, lamS LB_l_place_calls_3⟩, ⟨Fz 23, 0, lamS LB_l_place_calls_4⟩, ⟨Fz 24, 0, lamS LB_l_many_calls_0⟩, ⟨Fz 25, 0, lamS LB_l_many_calls_1⟩, ⟨Fz 26, 0, lamS LB_l_many_calls_2⟩]
set_option Elab.async false
set_option linter.all false
set_option maxRecDepth 100000
set_option maxHeartbeats 4000000
set_option autoImplicit false
/-! Law k16: the words of all calls. -/
theorem w_drill : ((⟨"InvalidDrill", none⟩ : Xn), ("drill" : Str)) ∈ wordsX := by simp [wordsX]
theorem w_beg : ((⟨"InvalidBeginning", none⟩ : Xn), ("beginning" : Str)) ∈ wordsX := by simp [wordsX]
theorem w_many : ((⟨"InvalidMany", none⟩ : Xn), ("many" : Str)) ∈ wordsX := by simp [wordsX]
theorem w_sheep : ((⟨"InvalidSheep", none⟩ : Xn), ("sheep" : Str)) ∈ wordsX := by simp [wordsX]
theorem w_unlike : ((⟨"Unlike", none⟩ : Xn), ("unlike" : Str)) ∈ wordsX := by simp [wordsX]
theorem wd_first {d : D} (ok : okd 60 d = true) (f : fitsB d = false) : ∀ S ∈ [lamS LB_l_first_calls_0, lamS LB_l_first_calls_1, lamS LB_l_first_calls_2, lamS LB_l_first_calls_3, lamS LB_l_first_calls_4, lamS LB_l_first_calls_5, lamS LB_l_first_calls_6, lamS LB_l_first_calls_7, lamS LB_l_first_calls_8, lamS LB_l_first_calls_9, lamS LB_l_first_calls_10, lamS LB_l_first_calls_11, lamS LB_l_first_calls_12, lamS LB_l_first_calls_13, lamS LB_l_first_calls_14], wdS S [d] "drill" := by
  intro S hS
  simp only [List.mem_cons, List.not_mem_nil, or_false] at hS
  rcases hS with rfl | rfl | rfl | rfl | rfl | rfl | rfl | rfl | rfl | rfl | rfl | rfl | rfl | rfl | rfl
  · intro T Q q
    simp only [lamS, LB_l_first_calls_0]
    walk_at "di"
    exact ⟨d, .non, rfl, ok, f, ⟨_, w_drill, by rw [List.take_length]; exact q⟩⟩
  · intro T Q q
    simp only [lamS, LB_l_first_calls_1]
    walk_at "di"
    exact .inr ⟨d, .non, rfl, ok, rfl, .inl ⟨f, ⟨_, w_drill, by rw [List.take_length]; exact q⟩⟩⟩
  · intro T Q q
    simp only [lamS, LB_l_first_calls_2]
    walk_at "di"
    exact .inr ⟨d, .non, rfl, ok, rfl, .inl ⟨f, ⟨_, w_drill, by rw [List.take_length]; exact q⟩⟩⟩
  · intro T Q q
    simp only [lamS, LB_l_first_calls_3]
    walk_at "di"
    exact .inr ⟨d, .non, .non, rfl, ok, rfl, rfl, .inl ⟨f, ⟨_, w_drill, by rw [List.take_length]; exact q⟩⟩⟩
  · intro T Q q
    simp only [lamS, LB_l_first_calls_4]
    walk_at "di"
    exact .inr ⟨d, .non, .non, rfl, ok, rfl, rfl, .inl ⟨f, ⟨_, w_drill, by rw [List.take_length]; exact q⟩⟩⟩
  · intro T Q q
    simp only [lamS, LB_l_first_calls_5]
    walk_at "di"
    exact .inr ⟨d, .non, .non, rfl, ok, rfl, rfl, .inl ⟨f, ⟨_, w_drill, by rw [List.take_length]; exact q⟩⟩⟩
  · intro T Q q
    simp only [lamS, LB_l_first_calls_6]
    walk_at "di"
    exact .inr ⟨d, .non, rfl, ok, rfl, .inl ⟨f, ⟨_, w_drill, by rw [List.take_length]; exact q⟩⟩⟩
  · intro T Q q
    simp only [lamS, LB_l_first_calls_7]
    walk_at "di"
    exact ⟨d, rfl, ok, f, ⟨_, w_drill, by rw [List.take_length]; exact q⟩⟩
  · intro T Q q
    simp only [lamS, LB_l_first_calls_8]
    walk_at "di"
    exact .inr ⟨d, .non, rfl, ok, rfl, .inl ⟨f, ⟨_, w_drill, by rw [List.take_length]; exact q⟩⟩⟩
  · intro T Q q
    simp only [lamS, LB_l_first_calls_9]
    walk_at "di"
    exact ⟨d, rfl, ok, f, ⟨_, w_drill, by rw [List.take_length]; exact q⟩⟩
  · intro T Q q
    simp only [lamS, LB_l_first_calls_10]
    walk_at "di"
    exact ⟨d, rfl, ok, f, ⟨_, w_drill, by rw [List.take_length]; exact q⟩⟩
  · intro T Q q
    simp only [lamS, LB_l_first_calls_11]
    walk_at "di"
    exact ⟨d, rfl, ok, f, ⟨_, w_drill, by rw [List.take_length]; exact q⟩⟩
  · intro T Q q
    simp only [lamS, LB_l_first_calls_12]
    walk_at "di"
    exact .inr ⟨d, .non, rfl, ok, rfl, .inl ⟨f, ⟨_, w_drill, by rw [List.take_length]; exact q⟩⟩⟩
  · intro T Q q
    simp only [lamS, LB_l_first_calls_13]
    walk_at "di"
    exact .inr ⟨d, .non, rfl, ok, rfl, .inl ⟨f, ⟨_, w_drill, by rw [List.take_length]; exact q⟩⟩⟩
  · intro T Q q
    simp only [lamS, LB_l_first_calls_14]
    walk_at "di"
    exact ⟨d, rfl, ok, f, ⟨_, w_drill, by rw [List.take_length]; exact q⟩⟩
/-- the first of two that is no drill -/
def badPair (d e : D) : Prop := okd 60 d = true ∧ okd 60 e = true ∧ (fitsB d = false ∨ (fitsB d = true ∧ fitsB e = false))
theorem badPair.err {d e : D} (h : badPair d e) {QX : Xn → List Ob → Prop} {T : List Ob} (q : QX ⟨"InvalidDrill", none⟩ T) : bothErr d e QX T := by
  obtain ⟨a, b, c | c⟩ := h
  · exact ⟨a, b, .inl ⟨c, q⟩⟩
  · exact ⟨a, b, .inr (.inl ⟨c.1, c.2, q⟩)⟩
theorem wd_pair {d e : D} (h : badPair d e) : ∀ S ∈ [lamS LB_l_pair_calls_0, lamS LB_l_pair_calls_1, lamS LB_l_pair_calls_2, lamS LB_l_pair_calls_3], wdS S [d, e] "drill" := by
  intro S hS
  simp only [List.mem_cons, List.not_mem_nil, or_false] at hS
  rcases hS with rfl | rfl | rfl | rfl
  · intro T Q q
    simp only [lamS, LB_l_pair_calls_0]
    walk_at "di"
    exact ⟨d, e, rfl, h.err ⟨_, w_drill, by rw [List.take_length]; exact q⟩⟩
  · intro T Q q
    simp only [lamS, LB_l_pair_calls_1]
    walk_at "di"
    exact ⟨d, e, rfl, h.err ⟨_, w_drill, by rw [List.take_length]; exact q⟩⟩
  · intro T Q q
    simp only [lamS, LB_l_pair_calls_2]
    walk_at "di"
    exact ⟨d, e, rfl, h.err ⟨_, w_drill, by rw [List.take_length]; exact q⟩⟩
  · intro T Q q
    simp only [lamS, LB_l_pair_calls_3]
    walk_at "di"
    exact ⟨d, e, rfl, h.err ⟨_, w_drill, by rw [List.take_length]; exact q⟩⟩
theorem wd_placeB {g : Int} {rs : List Rn} {e : D} (hd : DrOk g rs) (ok : okd 60 e = true) (f : beginsB g e = false) : ∀ S ∈ [lamS LB_l_place_calls_0, lamS LB_l_place_calls_1, lamS LB_l_place_calls_2, lamS LB_l_place_calls_3, lamS LB_l_place_calls_4], wdS S [drD g rs, e] "beginning" := by
  intro S hS
  simp only [List.mem_cons, List.not_mem_nil, or_false] at hS
  rcases hS with rfl | rfl | rfl | rfl | rfl
  · intro T Q q
    simp only [lamS, LB_l_place_calls_0]
    walk_at "di"
    exact .inr ⟨drD g rs, e, rfl, okd_drD g rs 57, ok, .inr ⟨g, rs, rfl, hd, f, ⟨_, w_beg, by rw [List.take_length]; exact q⟩⟩⟩
  · intro T Q q
    simp only [lamS, LB_l_place_calls_1]
    walk_at "di"
    exact .inr ⟨drD g rs, e, rfl, okd_drD g rs 57, ok, .inr ⟨g, rs, rfl, hd, f, ⟨_, w_beg, by rw [List.take_length]; exact q⟩⟩⟩
  · intro T Q q
    simp only [lamS, LB_l_place_calls_2]
    walk_at "di"
    exact .inr ⟨drD g rs, e, rfl, okd_drD g rs 57, ok, .inr ⟨g, rs, rfl, hd, f, ⟨_, w_beg, by rw [List.take_length]; exact q⟩⟩⟩
  · intro T Q q
    simp only [lamS, LB_l_place_calls_3]
    walk_at "di"
    exact .inr ⟨drD g rs, e, rfl, okd_drD g rs 57, ok, .inr ⟨g, rs, rfl, hd, f, ⟨_, w_beg, by rw [List.take_length]; exact q⟩⟩⟩
  · intro T Q q
    simp only [lamS, LB_l_place_calls_4]
    walk_at "di"
    simp only [drD]
    walk_at "di"
    exact ⟨_, _, _, rfl, idx_app _ _, rfl, ok, .inr ⟨g, rfl, hd.g1, hd.g9, .inl ⟨f, _, w_beg, by rw [List.take_left]; exact q⟩⟩⟩
theorem wd_place0 {g : Int} {rs : List Rn} {xs : List Int} (hd : DrOk g rs) (hb : BgOk g xs) : ∀ S ∈ [lamS LB_l_place_calls_0, lamS LB_l_place_calls_1, lamS LB_l_place_calls_2, lamS LB_l_place_calls_3, lamS LB_l_place_calls_4], wdS S [drD g rs, tupI xs] "" := by
  intro S hS
  simp only [List.mem_cons, List.not_mem_nil, or_false] at hS
  rcases hS with rfl | rfl | rfl | rfl | rfl
  · intro T Q q
    simp only [lamS, LB_l_place_calls_0]
    walk_at "di"
    exact .inl ⟨g, xs, rs, rfl, hd, hb, by walk_at "di"; exact q⟩
  · intro T Q q
    simp only [lamS, LB_l_place_calls_1]
    walk_at "di"
    exact .inl ⟨g, xs, rs, rfl, hd, hb, by walk_at "di"; exact q⟩
  · intro T Q q
    simp only [lamS, LB_l_place_calls_2]
    walk_at "di"
    exact .inl ⟨g, xs, rs, rfl, hd, hb, fun _ => by walk_at "di"; exact q⟩
  · intro T Q q
    simp only [lamS, LB_l_place_calls_3]
    walk_at "di"
    exact .inl ⟨g, xs, rs, rfl, hd, hb, fun _ => by walk_at "di"; exact q⟩
  · intro T Q q
    simp only [lamS, LB_l_place_calls_4]
    walk_at "di"
    simp only [drD]
    walk_at "di"
    exact ⟨_, _, _, rfl, idx_app _ _, rfl, okd_tupI 59 xs, .inr ⟨g, rfl, hd.g1, hd.g9, .inr ⟨xs, rfl, hb, by rw [set_app]; walk_at "di"; exact q⟩⟩⟩
theorem wd_manyB {g : Int} {rs : List Rn} {m u : D} (hd : DrOk g rs) (ok : okd 60 m = true) (ok2 : okd 60 u = true) (f : isInt m 1 1000000000000000000000000000000 = false) : ∀ S ∈ [lamS LB_l_many_calls_0, lamS LB_l_many_calls_1, lamS LB_l_many_calls_2], wdS S [drD g rs, m, u] "many" := by
  intro S hS
  simp only [List.mem_cons, List.not_mem_nil, or_false] at hS
  rcases hS with rfl | rfl | rfl
  · intro T Q q
    simp only [lamS, LB_l_many_calls_0]
    walk_at "di"
    exact .inr ⟨drD g rs, m, u, rfl, okd_drD g rs 57, ok, ok2, .inr (.inl ⟨hd.fits, f, ⟨_, w_many, by rw [List.take_length]; exact q⟩⟩)⟩
  · intro T Q q
    simp only [lamS, LB_l_many_calls_1]
    walk_at "di"
    exact .inr ⟨drD g rs, m, u, rfl, okd_drD g rs 57, ok, ok2, .inr (.inl ⟨hd.fits, f, ⟨_, w_many, by rw [List.take_length]; exact q⟩⟩)⟩
  · intro T Q q
    simp only [lamS, LB_l_many_calls_2]
    walk_at "di"
    exact .inr ⟨drD g rs, m, u, rfl, okd_drD g rs 57, ok, ok2, .inr (.inl ⟨hd.fits, f, ⟨_, w_many, by rw [List.take_length]; exact q⟩⟩)⟩
theorem wd_manyS {g : Int} {rs : List Rn} {n : Int} {u : D} (hd : DrOk g rs) (n1 : 1 ≤ n) (n2 : n ≤ 10 ^ 30) (ok2 : okd 60 u = true) (f : isInt u (-n) (n - 1) = false) : ∀ S ∈ [lamS LB_l_many_calls_0, lamS LB_l_many_calls_1, lamS LB_l_many_calls_2], wdS S [drD g rs, .int n, u] "sheep" := by
  intro S hS
  simp only [List.mem_cons, List.not_mem_nil, or_false] at hS
  rcases hS with rfl | rfl | rfl
  · intro T Q q
    simp only [lamS, LB_l_many_calls_0]
    walk_at "di"
    exact .inr ⟨drD g rs, .int n, u, rfl, okd_drD g rs 57, rfl, ok2, .inr (.inr ⟨hd.fits, n, rfl, n1, n2, f, ⟨_, w_sheep, by rw [List.take_length]; exact q⟩⟩)⟩
  · intro T Q q
    simp only [lamS, LB_l_many_calls_1]
    walk_at "di"
    exact .inr ⟨drD g rs, .int n, u, rfl, okd_drD g rs 57, rfl, ok2, .inr (.inr ⟨hd.fits, n, rfl, n1, n2, f, ⟨_, w_sheep, by rw [List.take_length]; exact q⟩⟩)⟩
  · intro T Q q
    simp only [lamS, LB_l_many_calls_2]
    walk_at "di"
    exact .inr ⟨drD g rs, .int n, u, rfl, okd_drD g rs 57, rfl, ok2, .inr (.inr ⟨hd.fits, n, rfl, n1, n2, f, ⟨_, w_sheep, by rw [List.take_length]; exact q⟩⟩)⟩
theorem wd_many0 {g : Int} {rs : List Rn} {n own : Nat} {sheep : Int} (ha : Asked g rs n own sheep) : ∀ S ∈ [lamS LB_l_many_calls_0, lamS LB_l_many_calls_1, lamS LB_l_many_calls_2], wdS S [drD g rs, .int n, .int sheep] "" := by
  intro S hS
  simp only [List.mem_cons, List.not_mem_nil, or_false] at hS
  rcases hS with rfl | rfl | rfl
  · intro T Q q
    simp only [lamS, LB_l_many_calls_0]
    walk_at "di"
    exact .inl ⟨g, rs, n, own, sheep, rfl, ha, by walk_at "di"; exact q⟩
  · intro T Q q
    simp only [lamS, LB_l_many_calls_1]
    walk_at "di"
    exact .inl ⟨g, rs, n, own, sheep, rfl, ha, by walk_at "di"; exact q⟩
  · intro T Q q
    simp only [lamS, LB_l_many_calls_2]
    walk_at "di"
    exact .inl ⟨g, rs, n, own, sheep, rfl, ha, by walk_at "di"; exact q⟩
/-! ### lists of calls -/
def ents (raw : List D) (G : Hp) : List Addr → List DF → List EntZ
  | f :: fs, S :: Ss => ⟨f, G, raw, 0, S⟩ :: ents raw G fs Ss
  | _, _ => []
theorem ents_map {raw : List D} {G : Hp} : ∀ {fs : List Addr} {Ss : List DF}, fs.length = Ss.length → (ents raw G fs Ss).map (fun e => D.cl e.f e.G) = fs.map fun f => .cl f G
  | [], [], _ => rfl
  | f :: fs, S :: Ss, h => by
    simp only [ents, List.map_cons]
    rw [ents_map (by simpa using h)]
  | [], _ :: _, h => by simp at h
  | _ :: _, [], h => by simp at h
theorem ents_wd {raw : List D} {G : Hp} {w : Str} : ∀ {fs : List Addr} {Ss : List DF}, (∀ S ∈ Ss, wdS S raw w) → ∀ e ∈ ents raw G fs Ss, e.m = 0 ∧ wdS e.S e.raw w
  | [], _, _, e, he => by simp [ents] at he
  | _ :: _, [], _, e, he => by simp [ents] at he
  | f :: fs, S :: Ss, h, e, he => by
    simp only [ents, List.mem_cons] at he
    rcases he with rfl | he
    · exact ⟨rfl, h S (by simp)⟩
    · exact ents_wd (fun x hx => h x (by simp [hx])) e he
theorem ents_ok {Fz : Nat → List D → Addr → Hp → Prop} {tl : List LamE} {ρ : Env} {raw : List D} {G : Hp} (okr : okds 60 raw = true) : ∀ {fs : List Addr} {Ss : List DF} {o : Nat}, (∀ (i : Nat) (S : DF), Ss[i]? = some S → (tfs Fz)[o + i]? = some ⟨Fz (o + i), 0, S⟩) →
    (∀ (i : Nat) (f : Addr), fs[i]? = some f → Fz (o + i) raw f G) → ∀ e ∈ ents raw G fs Ss, entOk (tfs Fz) tl ρ e
  | [], _, _, _, _, e, he => by simp [ents] at he
  | _ :: _, [], _, _, _, e, he => by simp [ents] at he
  | f :: fs, S :: Ss, o, h1, h2, e, he => by
    simp only [ents, List.mem_cons] at he
    rcases he with rfl | he
    · exact ⟨okr, .inl ⟨_, List.mem_of_getElem? (h1 0 S rfl), h2 0 f rfl, rfl, rfl⟩⟩
    · refine ents_ok okr (o := o + 1) (fun i S hS => ?_) (fun i f hf => ?_) e he
      · rw [show o + 1 + i = o + (i + 1) by omega]
        exact h1 (i + 1) S hS
      · rw [show o + 1 + i = o + (i + 1) by omega]
        exact h2 (i + 1) f hf
def Ss (o n : Nat) : List DF := (((tfs fun _ _ _ _ => True).drop o).take n).map (·.S)
theorem tfs_eq (Fz : Nat → List D → Addr → Hp → Prop) : tfs Fz = (((tfs fun _ _ _ _ => True).map (·.S)).zipIdx.map fun p => ⟨Fz p.2, 0, p.1⟩) := rfl
theorem Ss_at (Fz : Nat → List D → Addr → Hp → Prop) {o n i : Nat} {S : DF} (h : (Ss o n)[i]? = some S) : (tfs Fz)[o + i]? = some ⟨Fz (o + i), 0, S⟩ := by
  rw [tfs_eq, List.getElem?_map, List.getElem?_zipIdx]
  unfold Ss at h
  rw [List.getElem?_map, List.getElem?_take] at h
  split at h
  · rw [List.getElem?_drop] at h
    rw [List.getElem?_map]
    obtain ⟨t, ht, e⟩ := Option.map_eq_some_iff.mp h
    rw [ht]
    simp only [Option.map_some] at e ⊢
    rw [← e]
    simp
  · simp at h
/-- behind the things that `_law_all_words` is given -/
def zK [h : Kept (Sl → Env → Prop)] (tf : List FzE) (tl : List LamE) : List Sl → Env → Prop := fun ss ρ2 => okT ρ2.T = true ∧ ∃ (es : List EntZ) (d : D), ss = [.dat (.lst (es.map fun e => .cl e.f e.G)), .dat d] ∧ okd 60 d = true ∧ (∀ e ∈ es, entOk tf tl ρ2 e) ∧
  ∀ (G : Hp), S_l_all_words (es.map fun e => { e with G := G }) [.dat (.lst (es.map fun e => .cl e.f G)), .dat d] ρ2.T (fun r T' => h.q r ⟨T', ρ2.s⟩) (fun _ _ => False)
theorem dCallZ_eq {tf : List FzE} {tl : List LamE} {fA : DA} {X : XP} {ρ : Env} {Q : Sl → Env → Prop} : dCallZ S_l_all_words tf tl fA X ρ Q = fA X ρ (@zK ⟨Q⟩ tf tl) := rfl
theorem zK_ok {tf : List FzE} {tl : List LamE} {es : List EntZ} {w : Str} {T : List Ob} {s : List (Option Sl)} {Q : Sl → Env → Prop} {x : D} (hx : x = .lst (es.map fun e => .cl e.f e.G)) (hT : okT T = true) (hes : ∀ e ∈ es, entOk tf tl ⟨T, s⟩ e) (hw : ∀ e ∈ es, e.m = 0 ∧ wdS e.S e.raw w)
    (q : Q (.dat (.bl true)) ⟨T, s⟩) : @zK ⟨Q⟩ tf tl [.dat x, .dat (.str w)] ⟨T, s⟩ := by
  subst hx
  exact ⟨hT, es, .str w, rfl, rfl, hes, fun G => ⟨w, by rw [List.map_map]; rfl, fun e he => by
    obtain ⟨e', he', rfl⟩ := List.mem_map.mp he
    exact hw e' he', q⟩⟩
theorem all_app {α : Type} {P : α → Prop} {a b : List α} (h1 : ∀ e ∈ a, P e) (h2 : ∀ e ∈ b, P e) : ∀ e ∈ a ++ b, P e := fun e he => (List.mem_append.mp he).elim (h1 e) (h2 e)
/-! ### things without lambdas -/
theorem okT_app {T S : List Ob} (h : okT T = true) (h2 : okT S = true) : okT (T ++ S) = true := by
  unfold okT at *
  rw [List.all_append, h, h2]
  rfl
theorem okT_set {T : List Ob} {k : Nat} {o : Ob} (h : okT T = true) (h2 : okO o = true) : okT (T.set k o) = true := by
  unfold okT at *
  rw [List.all_eq_true] at h ⊢
  intro x hx
  rcases List.mem_or_eq_of_mem_set hx with hx | rfl
  · exact h x hx
  · exact h2
theorem okO_cart (a b : Int) : okO (CartV a b) = true := by simp [okO, CartV, okds, okd]
theorem CartTo.okT {T T' : List Ob} {k : Nat} (c : CartTo T T' k) (h : okT T = true) : okT T' = true := by
  obtain ⟨a, b, rfl, _⟩ := c
  exact okT_set h (okO_cart a b)
set_option Elab.async false
set_option linter.all false
set_option maxRecDepth 100000
set_option maxHeartbeats 4000000
set_option autoImplicit false
/-! Law k16 at data level. -/
theorem Cart.ext {T T' : List Ob} {k : Nat} (c : Cart T k) (e : T'.take T.length = T) : Cart T' k := by
  have hl := c.lt
  obtain ⟨a, b, h, ok⟩ := c
  refine ⟨a, b, ?_, ok⟩
  rw [← e, List.getElem?_take, if_pos hl] at h
  exact h
theorem cart_app {T S : List Ob} {k : Nat} (c : Cart T k) : Cart (T ++ S) k := Cart.ext c (List.take_left ..)
theorem cap_ob (G : Hp) (la : List Addr) (k : Nat) : capS G la (.ob k) = .ob k := rfl
def oddOk (d : D) : Prop := okd 60 d = true ∧ fitsB d = false
/-- 0 _law_work_here -/
def LB_law_0 : DL' :=
  (dDat (dVal (dCall 2 S_past_rows (dCons (dDat (dVar 0)) (dCons (dDat (dBin gPow (dC (.int 10)) (dC (.int 30)))) dNil)))))
/-- 0 _law_work_here -/
def LB_law_1 : DL' :=
  (dDat (dVal (dCall 2 S_parted (dCons (dDat (dVar 0)) (dCons (dDat (dC (.int 40))) dNil)))))
/-- 0 _law_cart -/
def LB_law_2 : DL' :=
  (dMake "Lane" (fixF 3 S_Lane_init_u) (dCons (dDat (dVal (dCall 2 S_l_any (dCons (dVarL 0) (dCons (dDat (dLst (dCons (dDat (dC (.int 0))) (dCons (dDat (dC (.int 10))) (dCons (dDat (dC .non)) (dCons (dDat (dC (.bl true))) dNil)))))) dNil))))) (dCons (dDat (dC .non)) dNil)))
/--  -/
def LB_law_3 : DL' :=
  (dDat (dVal (dCall 2 S_parted (dCons (dDat (dTup (dCons (dDat (dC (.int 1))) (dCons (dDat (dTup dNil)) dNil)))) (dCons (dDat (dC (.int 41))) dNil)))))
/--  -/
def LB_law_4 : DL' :=
  (dDat (dVal (dCall 2 S_alike (dCons (dDat (dTup (dCons (dDat (dC (.int 1))) (dCons (dDat (dTup dNil)) dNil)))) (dCons (dDat (dTup (dCons (dDat (dC (.int 2))) (dCons (dDat (dTup dNil)) dNil)))) dNil)))))
/-- slots: 0 _law_script, 1 _law_k, 2 _law_cart, 3 _law_work_here, 4 _law_odd, 5 _law_rows, 6 _law_bad, 7 _law_many -/
def B_law (Lm : Nat → Addr → Hp → Prop) (Fz : Nat → List D → Addr → Hp → Prop) : DS :=
  (sSeq (sFor (dRng1 (dCons (dDat (dBin gAdd (dC (.int 1)) (dCB gMin2 (dCons (dDat (dCB gLen (dCons (dDat (dVar 0)) dNil))) (dCons (dDat (dC (.int 6))) dNil))))) dNil)) (gNm 1) (sSeq (sSet 2 (dCall 2 S_l_cart_of (dCons (dDat (dVar 0)) (dCons (dDat (dVar 1)) dNil))))
  (sSeq (sSet 3 (dDat (dVal (dCall 2 S_l_work (dCons (dVarL 2) (dCons (dDat (dC (.int 5))) dNil))))))
  (sSeq (sSet 4 (dDat (dVal (dCall 2 S_l_any (dCons (dVarL 2) (dCons (dDat (dLst (dCons (dDat (dC .non)) (dCons (dDat (dTup dNil)) (dCons (dDat (dC (.str "gap 1"))) (dCons (dDat (dC (.int 4))) (dCons (dDat (dC (.bl true))) (dCons (dDat (dLst (dCons (dDat (dC (.int 1))) (dCons (dDat (dTup dNil)) dNil)))) (dCons (dDat (dTup (dCons (dDat (dC (.int 0))) (dCons (dDat (dTup dNil)) dNil)))) (dCons (dDat (dTup (dCons (dDat (dC (.int 1))) dNil))) dNil)))))))))) dNil))))))
  (sSeq (sSet 4 (dDat (dVal (dCall 2 S_l_any (dCons (dVarL 2) (dCons (dDat (dLst (dCons (dDat (dVar 4)) (dCons (dDat (dVar 4)) (dCons (dDat (dTup (dCons (dDat (dC (.int 1))) (dCons (dDat (dLst (dCons (dDat (dTup (dCons (dDat (dC (.str "to"))) (dCons (dDat (dC (.int 1))) dNil)))) dNil))) dNil)))) (dCons (dDat (dTup (dCons (dDat (dC (.int 1))) (dCons (dDat (dTup (dCons (dDat (dTup (dCons (dDat (dC (.str "to"))) (dCons (dDat (dUn gNeg (dC (.int 1)))) dNil)))) dNil))) dNil)))) dNil)))))) dNil))))))
  (sSeq (sSet 5 (dNewAdd (dBin gAdd (dVal (dCall 1 (S_l_first_calls Fz) (dCons (dDat (dVar 4)) dNil))) (dVal (dCall 2 (S_l_pair_calls Fz) (dCons (dDat (dVar 4)) (dCons (dDat (dC .non)) dNil))))) (dVal (dCall 2 (S_l_pair_calls Fz) (dCons (dDat (dVar 3)) (dCons (dDat (dVar 4)) dNil))))))
  (sSeq (sIf (dtNot (dTest (dVal (dCallZ S_l_all_words (tfs Fz) [⟨Lm 0, [3], 0, lamS LB_law_0⟩, ⟨Lm 1, [3], 0, lamS LB_law_1⟩] (dCons (dDat (dVar 5)) (dCons (dDat (dC (.str "drill"))) dNil)))))) (sRet (dDat (dC (.bl false)))) sNil)
  (sSeq (sSet 6 (dDat (dVal (dCall 2 S_l_any (dCons (dVarL 2) (dCons (dDat (dLst (dCons (dDat (dC .non)) (dCons (dDat (dTup dNil)) (dCons (dDat (dTup (dCons (dDat (dUn gNeg (dC (.int 1)))) dNil))) (dCons (dDat (dLst (dCons (dDat (dC (.int 0))) dNil))) (dCons (dDat (dTup (dCons (dDat (dC (.int 5))) (dCons (dDat (dC (.int 5))) dNil)))) (dCons (dDat (dTup (dCons (dDat (dBin gAdd (dBin gPow (dC (.int 10)) (dC (.int 30))) (dC (.int 1)))) dNil))) (dCons (dDat (dC (.int 7))) (dCons (dDat (dTup (dCons (dDat (dC (.bl true))) dNil))) dNil)))))))))) dNil))))))
  (sSeq (sIf (dtNot (dTest (dVal (dCallZ S_l_all_words (tfs Fz) [⟨Lm 0, [3], 0, lamS LB_law_0⟩, ⟨Lm 1, [3], 0, lamS LB_law_1⟩] (dCons (dDat (dVal (dCall 2 (S_l_place_calls Fz) (dCons (dDat (dVar 3)) (dCons (dDat (dVar 6)) dNil))))) (dCons (dDat (dC (.str "beginning"))) dNil)))))) (sRet (dDat (dC (.bl false)))) sNil)
  (sSeq (sSet 6 (dDat (dVal (dCall 2 S_l_any (dCons (dVarL 2) (dCons (dDat (dLst (dCons (dDat (dC (.int 0))) (dCons (dDat (dUn gNeg (dC (.int 1)))) (dCons (dDat (dBin gAdd (dBin gPow (dC (.int 10)) (dC (.int 30))) (dC (.int 1)))) (dCons (dDat (dC .non)) (dCons (dDat (dC (.bl true))) (dCons (dDat (dC (.str "1"))) dNil)))))))) dNil))))))
  (sSeq (sIf (dtNot (dTest (dVal (dCallZ S_l_all_words (tfs Fz) [⟨Lm 0, [3], 0, lamS LB_law_0⟩, ⟨Lm 1, [3], 0, lamS LB_law_1⟩] (dCons (dDat (dVal (dCall 3 (S_l_many_calls Fz) (dCons (dDat (dVar 3)) (dCons (dDat (dVar 6)) (dCons (dDat (dC .non)) dNil)))))) (dCons (dDat (dC (.str "many"))) dNil)))))) (sRet (dDat (dC (.bl false)))) sNil)
  (sSeq (sSet 7 (dDat (dVal (dCall 2 S_l_any (dCons (dVarL 2) (dCons (dDat (dLst (dCons (dDat (dC (.int 1))) (dCons (dDat (dC (.int 2))) (dCons (dDat (dBin gPow (dC (.int 10)) (dC (.int 30)))) dNil))))) dNil))))))
  (sSeq (sSet 6 (dDat (dVal (dCall 2 S_l_any (dCons (dVarL 2) (dCons (dDat (dLst (dCons (dDat (dVar 7)) (dCons (dDat (dBin gSub (dBin gSub (dC (.int 0)) (dVar 7)) (dC (.int 1)))) (dCons (dDat (dC .non)) (dCons (dDat (dC (.bl true))) (dCons (dDat (dC (.str "0"))) dNil))))))) dNil))))))
  (sSeq (sIf (dtNot (dTest (dVal (dCallZ S_l_all_words (tfs Fz) [⟨Lm 0, [3], 0, lamS LB_law_0⟩, ⟨Lm 1, [3], 0, lamS LB_law_1⟩] (dCons (dDat (dVal (dCall 3 (S_l_many_calls Fz) (dCons (dDat (dVar 3)) (dCons (dDat (dVar 7)) (dCons (dDat (dVar 6)) dNil)))))) (dCons (dDat (dC (.str "sheep"))) dNil)))))) (sRet (dDat (dC (.bl false)))) sNil)
  (sSeq (sSet 5 (dNewAdd (dVal (dCall 3 (S_l_many_calls Fz) (dCons (dDat (dVar 3)) (dCons (dDat (dVar 7)) (dCons (dDat (dBin gSub (dVar 7) (dC (.int 1)))) dNil))))) (dVal (dCall 3 (S_l_many_calls Fz) (dCons (dDat (dVar 3)) (dCons (dDat (dVar 7)) (dCons (dDat (dBin gSub (dC (.int 0)) (dVar 7))) dNil)))))))
  (sSeq (sSet 5 (dNewAdd (dBin gAdd (dVar 5) (dVal (dCall 2 (S_l_place_calls Fz) (dCons (dDat (dVar 3)) (dCons (dDat (dTup (dCons (dDat (dBin gPow (dC (.int 10)) (dC (.int 30)))) dNil))) dNil))))) (dVal (dCall 2 (S_l_place_calls Fz) (dCons (dDat (dVar 3)) (dCons (dDat (dVal (dCall 2 S_l_at (dCons (dDat (dBin gIx (dVar 3) (dC (.int 0)))) (dCons (dDat (dBin gMulB (dTup (dCons (dDat (dC (.int 0))) dNil)) (dC (.int 40)))) dNil))))) dNil))))))
  (sSeq (sApp 5 (dVal (dMk (Lm 0))))
  (sSeq (sApp 5 (dVal (dMk (Lm 1))))
  (sSeq (sIf (dtNot (dTest (dVal (dCallZ S_l_all_words (tfs Fz) [⟨Lm 0, [3], 0, lamS LB_law_0⟩, ⟨Lm 1, [3], 0, lamS LB_law_1⟩] (dCons (dDat (dVar 5)) (dCons (dDat (dC (.str ""))) dNil)))))) (sRet (dDat (dC (.bl false)))) sNil)
  (sIf (dTest (dBin gNe (dVal (dCallG S_l_word (giveP [⟨Lm 2, [2], 0, lamS LB_law_2⟩]) (dMk (Lm 2)))) (dC (.str "drill")))) (sRet (dDat (dC (.bl false)))) sNil))))))))))))))))))))
  (sSeq (sIf (dTest (dBin gNe (dVal (dCallG S_l_word (giveP [⟨Lm 3, [], 0, lamS LB_law_3⟩]) (dMk (Lm 3)))) (dC (.str "many")))) (sRet (dDat (dC (.bl false)))) sNil)
  (sRet (dDat (dBin gEq (dVal (dCallG S_l_word (giveP [⟨Lm 4, [], 0, lamS LB_law_4⟩]) (dMk (Lm 4)))) (dC (.str "unlike")))))))
theorem wd_own0 {g : Int} {rs : List Rn} (hd : DrOk g rs) : wdS (lamS LB_law_0) [drD g rs] "" := by
  intro T Q q
  simp only [lamS, LB_law_0]
  walk_at "di"
  exact ⟨by unfold CPow; decide, .inl ⟨g, rs, _, rfl, hd, by decide, by decide, by walk_at "di"; exact q⟩⟩
theorem wd_own1 {g : Int} {rs : List Rn} (hd : DrOk g rs) : wdS (lamS LB_law_1) [drD g rs] "" := by
  intro T Q q
  simp only [lamS, LB_law_1]
  walk_at "di"
  exact .inl ⟨g, rs, 40, rfl, hd, by decide, by decide, by walk_at "di"; exact q⟩
def S_law : DF := fun ss T Q _ => ∃ ns : List Int, ss = [.dat (.scr ns)] ∧ ns.length ≤ 63 ∧ okT T = true ∧ ∀ T', Q (.dat (.bl true)) T'
theorem h_law (Lm : Nat → Addr → Hp → Prop) (Fz : Nat → List D → Addr → Hp → Prop) : ∀ (ss : List Sl) (T : List Ob) (Q : Sl → List Ob → Prop) (QX : Xn → List Ob → Prop), ss.length = 1 → S_law ss T Q QX → B_law Lm Fz (endsOf T.length Q QX) (startD 8 1 ss T) := by
  intro ss T Q QX hl h
  obtain ⟨ns, rfl, hn, hT, h⟩ := h
  unfold B_law
  walk_at "di"
  refine ⟨by split <;> omega, ?_⟩
  refine loop_inv (fun ds ρ => (∀ d ∈ ds, ∃ i : Int, d = .int i ∧ 0 ≤ i ∧ i < 9) ∧ ∃ (T' : List Ob) (x1 x2 x3 x4 x5 x6 x7 : Option Sl), okT T' = true ∧ ρ = ⟨T', [some (.dat (.scr ns)), x1, x2, x3, x4, x5, x6, x7]⟩) ?_ ?_ _ _ ?_
  · rintro d ds ρ ⟨hd, T', x1, x2, x3, x4, x5, x6, x7, hT', rfl⟩ N hN
    obtain ⟨i, rfl, i0, i9⟩ := hd d (by simp)
    walk_at "di"
    refine ⟨ns, i, rfl, i0, by omega, by omega, fun a b ok => ?_⟩
    have k1 : Cart (T' ++ [CartV a b]) T'.length := ⟨a, b, get_last _ _, ok⟩
    have t1 : okT (T' ++ [CartV a b]) = true := okT_app hT' (by simp [okT, okO_cart])
    generalize hk : T'.length = k at *
    generalize T' ++ [CartV a b] = T0 at *
    walk_at "di"
    refine ⟨k, 5, rfl, k1, by decide, by decide, fun g rs T1 g1 g4 hl8 rok c1 => ?_⟩
    have k2 := c1.cart k1
    have t2 := CartTo.okT c1 t1
    have hdr : DrOk g rs := ⟨g1, by omega, by omega, rok⟩
    walk_at "di"
    refine ⟨k, _, _, rfl, .inl rfl, k2, by decide, by decide, fun o1 T2 ho1 c2 => ?_⟩
    have k3 := c2.cart k2
    have t3 := CartTo.okT c2 t2
    have od1 : oddOk o1 := by
      simp only [List.mem_cons, List.not_mem_nil, or_false] at ho1
      rcases ho1 with rfl | rfl | rfl | rfl | rfl | rfl | rfl | rfl <;> exact ⟨by decide, by decide⟩
    walk_at "di"
    refine ⟨k, _, _, rfl, .inl rfl, k3, by simp, by simp, fun o2 T3 ho2 c3 => ?_⟩
    have k4 := c3.cart k3
    have t4 := CartTo.okT c3 t3
    have od2 : oddOk o2 := by
      simp only [List.mem_cons, List.not_mem_nil, or_false] at ho2
      rcases ho2 with rfl | rfl | rfl | rfl
      · exact od1
      · exact od1
      · exact ⟨by decide, by decide⟩
      · exact ⟨by decide, by decide⟩
    clear c1 c2 c3 ho1 ho2 od1
    (walk_at "di"; repeat (simp only [dNewAdd, dCallZ_eq]; walk_at "di"))
    refine ⟨o2, rfl, fun fs1 G1 hf1 z1 => ?_⟩
    walk_at "di"
    refine ⟨o2, .non, rfl, fun fs2 G2 hf2 z2 => ?_⟩
    walk_at "di"
    refine ⟨by simp [hf1, hf2, sizeLine_eq], ?_⟩
    refine ⟨drD g rs, o2, rfl, fun fs3 G3 hf3 z3 => ?_⟩
    refine ⟨_, _, rfl, rfl, by simp [hf1, hf2, hf3, sizeLine_eq], ?_⟩
    walk_at "di"
    refine zK_ok (es := ents [o2] G1 fs1 (Ss 0 15) ++ ents [o2, .non] G2 fs2 (Ss 15 4) ++ ents [drD g rs, o2] G3 fs3 (Ss 15 4)) ?_ (okT_app t4 rfl) ?_ ?_ ?_
    · rw [List.map_append, List.map_append, ents_map hf1, ents_map hf2, ents_map hf3]
    · refine all_app (all_app (ents_ok ?_ (fun i S h => Ss_at Fz h) z1) (ents_ok ?_ (fun i S h => Ss_at Fz h) z2)) (ents_ok ?_ (fun i S h => Ss_at Fz h) z3)
      all_goals simp only [okds_cons, okds_nil, od2.1, okd_drD g rs 57, okd_non, Bool.and_true]
    · exact all_app (all_app (ents_wd (wd_first od2.1 od2.2)) (ents_wd (wd_pair ⟨od2.1, rfl, .inl od2.2⟩))) (ents_wd (wd_pair ⟨okd_drD g rs 57, od2.1, .inr ⟨hdr.fits, od2.2⟩⟩))
    (walk_at "di"; repeat (simp only [dNewAdd, dCallZ_eq]; walk_at "di"))
    have k5 : Cart (T3 ++ [Ob.dead]) k := cart_app k4
    have t5 : okT (T3 ++ [Ob.dead]) = true := okT_app t4 rfl
    clear k1 k2 k3 k4 t1 t2 t3 t4 z1 z2 z3
    generalize T3 ++ [Ob.dead] = T4 at *
    generalize D.lst (List.map (fun f => D.cl f G1) fs1 ++ List.map (fun f => D.cl f G2) fs2 ++ List.map (fun f => D.cl f G3) fs3) = y5
    refine ⟨by unfold CPow; decide, k, _, _, rfl, .inl rfl, k5, by decide, by decide, fun b1 T5 hb1 c5 => ?_⟩
    have k6 := c5.cart k5
    have t6 := CartTo.okT c5 t5
    have bad1 : okd 60 b1 = true ∧ beginsB g b1 = false := by
      simp only [List.mem_cons, List.not_mem_nil, or_false] at hb1
      rcases hb1 with rfl | rfl | rfl | rfl | rfl | rfl | rfl | rfl
      · exact ⟨by decide, rfl⟩
      · exact ⟨by decide, rfl⟩
      · exact ⟨by decide, rfl⟩
      · exact ⟨by decide, rfl⟩
      · refine ⟨by decide, ?_⟩
        have : spaced g [5, 5] = false := by
          show (decide ((5 : Int) + g ≤ 5) && spaced g [5]) = false
          rw [decide_eq_false (by omega), Bool.false_and]
        show ((decide (1 ≤ 2) && decide (2 ≤ 40)) && ([(5 : Int), 5].all inGreat && spaced g [5, 5])) = false
        rw [this, Bool.and_false, Bool.and_false]
      · exact ⟨by decide, rfl⟩
      · exact ⟨by decide, rfl⟩
      · exact ⟨by decide, rfl⟩
    (walk_at "di"; repeat (simp only [dNewAdd, dCallZ_eq]; walk_at "di"))
    refine ⟨drD g rs, b1, rfl, fun fs4 G4 hf4 z4 => ?_⟩
    (walk_at "di"; repeat (simp only [dNewAdd, dCallZ_eq]; walk_at "di"))
    refine zK_ok (es := ents [drD g rs, b1] G4 fs4 (Ss 19 5)) (by rw [ents_map hf4]) t6 (ents_ok (by simp only [okds_cons, okds_nil, bad1.1, okd_drD g rs 57, Bool.and_true]) (fun i S h => Ss_at Fz h) z4) (ents_wd (wd_placeB hdr bad1.1 bad1.2)) ?_
    (walk_at "di"; repeat (simp only [dNewAdd, dCallZ_eq]; walk_at "di"))
    clear k5 t5 c5 z4
    refine ⟨by unfold CPow; decide, k, _, _, rfl, .inl rfl, k6, by decide, by decide, fun b2 T6 hb2 c6 => ?_⟩
    have k7 := c6.cart k6
    have t7 := CartTo.okT c6 t6
    have bad2 : okd 60 b2 = true ∧ isInt b2 1 1000000000000000000000000000000 = false := by
      simp only [List.mem_cons, List.not_mem_nil, or_false] at hb2
      rcases hb2 with rfl | rfl | rfl | rfl | rfl | rfl <;> exact ⟨by decide, by decide⟩
    (walk_at "di"; repeat (simp only [dNewAdd, dCallZ_eq]; walk_at "di"))
    refine ⟨drD g rs, b2, .non, rfl, fun fs5 G5 hf5 z5 => ?_⟩
    (walk_at "di"; repeat (simp only [dNewAdd, dCallZ_eq]; walk_at "di"))
    refine zK_ok (es := ents [drD g rs, b2, .non] G5 fs5 (Ss 24 3)) (by rw [ents_map hf5]) t7 (ents_ok (by simp only [okds_cons, okds_nil, bad2.1, okd_drD g rs 57, okd_non, Bool.and_true]) (fun i S h => Ss_at Fz h) z5) (ents_wd (wd_manyB hdr bad2.1 rfl bad2.2)) ?_
    (walk_at "di"; repeat (simp only [dNewAdd, dCallZ_eq]; walk_at "di"))
    clear k6 t6 c6 z5
    refine ⟨by unfold CPow; decide, k, _, _, rfl, .inl rfl, k7, by decide, by decide, fun m1 T7 hm1 c7 => ?_⟩
    have k8 := c7.cart k7
    have t8 := CartTo.okT c7 t7
    obtain ⟨n, rfl, n1, n30⟩ : ∃ n : Nat, m1 = .int n ∧ 1 ≤ n ∧ (n : Int) ≤ 1000000000000000000000000000000 := by
      simp only [List.mem_cons, List.not_mem_nil, or_false] at hm1
      rcases hm1 with rfl | rfl | rfl
      · exact ⟨1, rfl, by decide, by decide⟩
      · exact ⟨2, rfl, by decide, by decide⟩
      · exact ⟨1000000000000000000000000000000, rfl, by decide, by decide⟩
    clear hm1 k7 t7 c7
    (walk_at "di"; repeat (simp only [dNewAdd, dCallZ_eq]; walk_at "di"))
    refine ⟨k, _, _, rfl, .inl rfl, k8, by simp, by simp, fun s1 T8 hs1 c8 => ?_⟩
    have k9 := c8.cart k8
    have t9 := CartTo.okT c8 t8
    have bad3 : okd 60 s1 = true ∧ isInt s1 (-(n : Int)) ((n : Int) - 1) = false := by
      simp only [List.mem_cons, List.not_mem_nil, or_false] at hs1
      rcases hs1 with rfl | rfl | rfl | rfl | rfl
      · refine ⟨rfl, ?_⟩
        simp only [isInt]
        rw [decide_eq_false (show ¬ ((n : Int) ≤ (n : Int) - 1) by omega), Bool.and_false]
      · refine ⟨rfl, ?_⟩
        simp only [isInt]
        rw [decide_eq_false (show ¬ (-(n : Int) ≤ 0 - (n : Int) - 1) by omega), Bool.false_and]
      · exact ⟨rfl, rfl⟩
      · exact ⟨rfl, rfl⟩
      · exact ⟨rfl, rfl⟩
    (walk_at "di"; repeat (simp only [dNewAdd, dCallZ_eq]; walk_at "di"))
    refine ⟨drD g rs, .int n, s1, rfl, fun fs6 G6 hf6 z6 => ?_⟩
    (walk_at "di"; repeat (simp only [dNewAdd, dCallZ_eq]; walk_at "di"))
    refine zK_ok (es := ents [drD g rs, .int n, s1] G6 fs6 (Ss 24 3)) (by rw [ents_map hf6]) t9 (ents_ok (by simp only [okds_cons, okds_nil, bad3.1, okd_drD g rs 57, okd_int, Bool.and_true]) (fun i S h => Ss_at Fz h) z6) (ents_wd (wd_manyS hdr (by omega) (by simp only [Int.reducePow]; exact n30) bad3.1 bad3.2)) ?_
    (walk_at "di"; repeat (simp only [dNewAdd, dCallZ_eq]; walk_at "di"))
    clear k8 t8 c8 z6
    have a1 : Asked g rs n (n - 1) ((n : Int) - 1) := ⟨hdr, by simp only [Int.reducePow]; exact n30, by omega, .inl (by omega)⟩
    have a2 : Asked g rs n 0 (0 - (n : Int)) := ⟨hdr, by simp only [Int.reducePow]; exact n30, by omega, .inr (by omega)⟩
    refine ⟨_, _, _, rfl, fun fs7 G7 hf7 z7 => ?_⟩
    (walk_at "di"; repeat (simp only [dNewAdd, dCallZ_eq]; walk_at "di"))
    refine ⟨_, _, _, rfl, fun fs8 G8 hf8 z8 => ?_⟩
    refine ⟨_, _, rfl, rfl, by simp [hf7, hf8, sizeLine_eq], ?_⟩
    (walk_at "di"; repeat (simp only [dNewAdd, dCallZ_eq]; walk_at "di"))
    refine ⟨by unfold CPow; decide, drD g rs, tupI [1000000000000000000000000000000], rfl, fun fs9 G9 hf9 z9 => ?_⟩
    (walk_at "di"; repeat (simp only [dNewAdd, dCallZ_eq]; walk_at "di"))
    refine ⟨by simp [hf7, hf8, hf9, sizeLine_eq], ?_⟩
    simp only [drD]
    (walk_at "di"; repeat (simp only [dNewAdd, dCallZ_eq]; walk_at "di"))
    refine ⟨g, List.replicate 40 0, rfl, by omega, by decide, ?_⟩
    have bb : BgOk g (atL g 0 (List.replicate 40 0)) := BgOk.at (w := 0) ⟨by decide, fun x hx => by rw [List.eq_of_mem_replicate hx]; decide⟩ g1 (by omega) (by decide) (by decide) (by decide) (by decide)
    have b1 : BgOk g [1000000000000000000000000000000] := ⟨by decide, by decide, fun x hx => by rw [List.mem_singleton.mp hx]; decide, rfl⟩
    generalize atL g 0 (List.replicate 40 0) = ys at *
    (walk_at "di"; repeat (simp only [dNewAdd, dCallZ_eq]; walk_at "di"))
    refine ⟨drD g rs, tupI ys, rfl, fun fsA GA hfA zA => ?_⟩
    refine ⟨_, _, rfl, rfl, by simp [hf7, hf8, hf9, hfA, sizeLine_eq], ?_⟩
    (walk_at "di"; repeat (simp only [dNewAdd, dCallZ_eq]; walk_at "di"))
    intro fB GB mB
    (walk_at "di"; repeat (simp only [dNewAdd, dCallZ_eq]; walk_at "di"))
    refine ⟨by simp [hf7, hf8, hf9, hfA, sizeLine_eq], ?_⟩
    intro fC GC mC
    (walk_at "di"; repeat (simp only [dNewAdd, dCallZ_eq]; walk_at "di"))
    refine ⟨by simp [hf7, hf8, hf9, hfA, sizeLine_eq], ?_⟩
    refine zK_ok (es := ents [drD g rs, .int n, .int ((n : Int) - 1)] G7 fs7 (Ss 24 3) ++ ents [drD g rs, .int n, .int (0 - (n : Int))] G8 fs8 (Ss 24 3) ++ ents [drD g rs, tupI [1000000000000000000000000000000]] G9 fs9 (Ss 19 5) ++ ents [drD g rs, tupI ys] GA fsA (Ss 19 5) ++ [⟨fB, GB, [drD g rs], 0, lamS LB_law_0⟩] ++ [⟨fC, GC, [drD g rs], 0, lamS LB_law_1⟩]) ?_ ?_ ?_ ?_ ?_
    · repeat rw [List.map_append]
      rw [ents_map (Ss := Ss 24 3) hf7, ents_map (Ss := Ss 24 3) hf8, ents_map (Ss := Ss 19 5) hf9, ents_map (Ss := Ss 19 5) hfA]
      rfl
    · exact okT_app (okT_app t9 rfl) rfl
    · refine all_app (all_app (all_app (all_app (all_app (ents_ok ?_ (fun i S h => Ss_at Fz h) z7) (ents_ok ?_ (fun i S h => Ss_at Fz h) z8)) (ents_ok ?_ (fun i S h => Ss_at Fz h) z9)) (ents_ok ?_ (fun i S h => Ss_at Fz h) zA)) (fun e he => ?_)) (fun e he => ?_)
      · simp only [okds_cons, okds_nil, okd_drD g rs 57, okd_int, Bool.and_true]
      · simp only [okds_cons, okds_nil, okd_drD g rs 57, okd_int, Bool.and_true]
      · simp only [okds_cons, okds_nil, okd_drD g rs 57, okd_tupI 59, Bool.and_true]
      · simp only [okds_cons, okds_nil, okd_drD g rs 57, okd_tupI 59, Bool.and_true]
      · rw [List.mem_singleton.mp he]
        exact ⟨by simp only [okds_cons, okds_nil, okd_drD g rs 57, Bool.and_true], .inr ⟨⟨Lm 0, [3], 0, lamS LB_law_0⟩, by simp, mB, rfl, rfl, rfl⟩⟩
      · rw [List.mem_singleton.mp he]
        exact ⟨by simp only [okds_cons, okds_nil, okd_drD g rs 57, Bool.and_true], .inr ⟨⟨Lm 1, [3], 0, lamS LB_law_1⟩, by simp, mC, rfl, rfl, rfl⟩⟩
    · refine all_app (all_app (all_app (all_app (all_app (ents_wd (wd_many0 a1)) (ents_wd (wd_many0 a2))) (ents_wd (wd_place0 hdr b1))) (ents_wd (wd_place0 hdr bb))) (fun e he => ?_)) (fun e he => ?_)
      · rw [List.mem_singleton.mp he]
        exact ⟨rfl, wd_own0 hdr⟩
      · rw [List.mem_singleton.mp he]
        exact ⟨rfl, wd_own1 hdr⟩
    (walk_at "di"; repeat (simp only [dNewAdd, dCallZ_eq]; walk_at "di"))
    have kA : Cart (T8 ++ [Ob.dead] ++ [Ob.dead]) k := cart_app (cart_app k9)
    have tA : okT (T8 ++ [Ob.dead] ++ [Ob.dead]) = true := okT_app (okT_app t9 rfl) rfl
    generalize T8 ++ [Ob.dead] ++ [Ob.dead] = T9 at kA tA ⊢
    simp only [dCallG, dMk]
    intro fD GD mD
    refine ⟨fD, GD, rfl, _, List.mem_singleton.mpr rfl, [.ob k], mD, rfl, fun G la => ⟨rfl, rfl, ?_⟩⟩
    simp only [LamE.clo, List.map_cons, List.map_nil, cap_ob, List.cons_append, List.nil_append, lamS, LB_law_2]
    walk_at "di"
    refine ⟨k, _, _, rfl, .inl rfl, kA, by decide, by decide, fun x TA hx cA => ?_⟩
    have hl9 : TA.length = T9.length := by
      obtain ⟨a, b, rfl, _⟩ := cA
      rw [List.length_set]
    have tB := CartTo.okT cA tA
    have bad4 : okd 60 x = true ∧ isInt x 1 9 = false := by
      simp only [List.mem_cons, List.not_mem_nil, or_false] at hx
      rcases hx with rfl | rfl | rfl | rfl <;> exact ⟨by decide, by decide⟩
    walk_at "di"
    refine ⟨_, x, .non, rfl, idx_app _ _, bad4.1, rfl, .inl ⟨bad4.2, _, w_drill, ?_⟩⟩
    rw [← hl9, List.take_left]
    (walk_at "di"; repeat (simp only [dNewAdd, dCallZ_eq]; walk_at "di"))
    exact hN _ ⟨fun d z => hd d (by simp [z]), TA, _, _, _, _, _, _, _, tB, rfl⟩
  · rintro ρ ⟨_, T', x1, x2, x3, x4, x5, x6, x7, hT', rfl⟩
    walk_at "di"
    simp only [dCallG, dMk]
    intro f1 G1 m1
    refine ⟨f1, G1, rfl, _, List.mem_singleton.mpr rfl, [], m1, rfl, fun G la => ⟨rfl, rfl, ?_⟩⟩
    simp only [LamE.clo, List.map_cons, List.map_nil, cap_ob, List.cons_append, List.nil_append, lamS, LB_law_3]
    walk_at "di"
    refine .inr ⟨_, _, rfl, rfl, rfl, .inr ⟨rfl, rfl, _, w_many, ?_⟩⟩
    rw [List.take_length]
    (walk_at "di"; repeat (simp only [dCallG, dMk]; walk_at "di"))
    intro f2 G2 m2
    refine ⟨f2, G2, rfl, _, List.mem_singleton.mpr rfl, [], m2, rfl, fun G la => ⟨rfl, rfl, ?_⟩⟩
    simp only [LamE.clo, List.map_cons, List.map_nil, cap_ob, List.cons_append, List.nil_append, lamS, LB_law_4]
    walk_at "di"
    refine ⟨_, _, rfl, rfl, rfl, .inr (.inr ⟨1, 2, [], [], rfl, rfl, ⟨by decide, by decide, by decide, by simp⟩, ⟨by decide, by decide, by decide, by simp⟩, by decide, _, w_unlike, ?_⟩)⟩
    rw [List.take_length]
    walk_at "di"
    exact h _
  · exact ⟨fun d hd => by
      obtain ⟨i, rfl, i0, i1⟩ := range_mem hd
      refine ⟨i, rfl, i0, ?_⟩
      revert i1
      split <;> omega, T, none, none, none, none, none, none, none, hT, rfl⟩
set_option Elab.async false
set_option linter.all false
set_option maxRecDepth 100000
set_option maxHeartbeats 4000000
set_option autoImplicit false
/-! The program's text keeps what the data level promises. -/
def topS (i : Nat) : Stmt := PySem.Challenge.pw_dogruns_k16_errors_in_their_order.main.body.getD i (.Pass ⟨0, 0, 0, 0⟩)
theorem exm_mk {K : PySem.W.Frag} {cls : Value} {C : Addr} {b : Bool} (h1 : PySem.W.subIn K (.ref C) (.type "BaseException") = some true) (h2 : PySem.W.isClsIn K C = true) (h3 : PySem.W.typeIn K (.ref C) = some (.type "type")) (h4 : PySem.W.subIn K cls (.ref C) = some b) : PySem.W.exmOne K cls (.ref C) = some b := by
  unfold PySem.W.exmOne
  rw [h1, if_pos (by decide)]
  show (if ((PySem.W.clsIn K C).isSome && PySem.W.typeIn K (.ref C) == some (.type "type")) = true then PySem.W.subIn K cls (.ref C) else none) = some b
  rw [show (PySem.W.clsIn K C).isSome = true from h2, h3, if_pos (by decide)]
  exact h4
theorem tab_mk {K : PySem.W.Frag} {x : Str} {f c P : Addr} {oc oc2 : Value} {od od2 : Option Addr} {fd : FuncData} {sl sl2 : Array (Option Value)} {vs : Array Value} (h1 : PySem.W.nsIn K mainGlobals x = some (some (.ref f))) (h2 : K.lookup f = some ⟨oc, od, .func fd, sl⟩) (h3 : fd.code = .ref c) (h4 : K.lookup c = some ⟨oc2, od2, .fields vs, sl2⟩) (h5 : vs[11]? = some (.ref P)) : PySem.W.tabIn K x = some (c, P) := by
  unfold PySem.W.tabIn
  simp only [h1, h2, h3, h4, h5]
theorem tab_no {K : PySem.W.Frag} {x : Str} (h : PySem.W.nsIn K mainGlobals x = some none) : PySem.W.tabIn K x = none := by
  unfold PySem.W.tabIn
  simp only [h]
theorem kit_self {K : PySem.W.Frag} {C : Addr} : PySem.W.kitOne K (.ref C) (.ref C) = some true := by
  unfold PySem.W.kitOne
  rw [if_pos (by simp)]
theorem kit_ty {K : PySem.W.Frag} {C : Addr} {T : String} {b : Bool} (h : PySem.W.subIn K (.type T) (.ref C) = some b) (hc : PySem.W.isClsIn K C = true) (ht : PySem.W.typeIn K (.ref C) = some (.type "type")) : PySem.W.kitOne K (.type T) (.ref C) = some b := by
  unfold PySem.W.kitOne
  rw [if_neg (by intro z; cases (eq_of_beq z))]
  show (if ((PySem.W.clsIn K C).isSome && PySem.W.typeIn K (.ref C) == some (.type "type")) = true then PySem.W.subIn K (.type T) (.ref C) else none) = some b
  rw [show (PySem.W.clsIn K C).isSome = true from hc, ht, if_pos (by decide)]
  exact h
theorem kit_six {K : PySem.W.Frag} {C : Addr} (h0 : PySem.W.subIn K (.type "NoneType") (.ref C) = some false) (h1 : PySem.W.subIn K (.type "bool") (.ref C) = some false) (h2 : PySem.W.subIn K (.type "int") (.ref C) = some false) (h3 : PySem.W.subIn K (.type "str") (.ref C) = some false) (h4 : PySem.W.subIn K (.type "tuple") (.ref C) = some false) (h5 : PySem.W.subIn K (.type "list") (.ref C) = some false) (hc : PySem.W.isClsIn K C = true) (ht : PySem.W.typeIn K (.ref C) = some (.type "type")) : ∀ T ∈ (["NoneType", "bool", "int", "str", "tuple", "list"] : List String), PySem.W.kitOne K (.type T) (.ref C) = some false := by
  intro T hT
  simp only [List.mem_cons, List.not_mem_nil, or_false] at hT
  rcases hT with rfl | rfl | rfl | rfl | rfl | rfl
  · exact kit_ty h0 hc ht
  · exact kit_ty h1 hc ht
  · exact kit_ty h2 hc ht
  · exact kit_ty h3 hc ht
  · exact kit_ty h4 hc ht
  · exact kit_ty h5 hc ht
abbrev s_is_int : Stmt := topS 21
theorem sc_is_int : FnScope ["value", "low", "high"] ["value", "low", "high"] (defScope s_is_int) := ⟨rfl, rfl, rfl, by decide +kernel, rfl, by decide +kernel, by decide +kernel⟩
abbrev s_is_a_run : Stmt := topS 22
theorem sc_is_a_run : FnScope ["value"] ["value"] (defScope s_is_a_run) := ⟨rfl, rfl, rfl, by decide +kernel, rfl, by decide +kernel, by decide +kernel⟩
abbrev s_fits : Stmt := topS 23
theorem sc_fits : FnScope ["value", "run"] ["value"] (defScope s_fits) := ⟨rfl, rfl, rfl, by decide +kernel, rfl, by decide +kernel, by decide +kernel⟩
abbrev s_begins : Stmt := topS 24
theorem sc_begins : FnScope ["gap", "value", "place", "one", "other"] ["gap", "value"] (defScope s_begins) := ⟨rfl, rfl, rfl, by decide +kernel, rfl, by decide +kernel, by decide +kernel⟩
abbrev s_need_drill : Stmt := topS 25
theorem sc_need_drill : FnScope ["value"] ["value"] (defScope s_need_drill) := ⟨rfl, rfl, rfl, by decide +kernel, rfl, by decide +kernel, by decide +kernel⟩
abbrev s_need_beginning : Stmt := topS 26
theorem sc_need_beginning : FnScope ["gap", "value"] ["gap", "value"] (defScope s_need_beginning) := ⟨rfl, rfl, rfl, by decide +kernel, rfl, by decide +kernel, by decide +kernel⟩
abbrev s_need_many : Stmt := topS 27
theorem sc_need_many : FnScope ["value"] ["value"] (defScope s_need_many) := ⟨rfl, rfl, rfl, by decide +kernel, rfl, by decide +kernel, by decide +kernel⟩
abbrev s_need_sheep : Stmt := topS 28
theorem sc_need_sheep : FnScope ["many", "value"] ["many", "value"] (defScope s_need_sheep) := ⟨rfl, rfl, rfl, by decide +kernel, rfl, by decide +kernel, by decide +kernel⟩
abbrev s_is_beginning : Stmt := topS 29
theorem sc_is_beginning : FnScope ["drill", "value"] ["drill", "value"] (defScope s_is_beginning) := ⟨rfl, rfl, rfl, by decide +kernel, rfl, by decide +kernel, by decide +kernel⟩
abbrev s_plain : Stmt := topS 31
theorem sc_plain : FnScope ["many", "at"] ["many"] (defScope s_plain) := ⟨rfl, rfl, rfl, by decide +kernel, rfl, by decide +kernel, by decide +kernel⟩
abbrev s_raised : Stmt := topS 32
theorem sc_raised : FnScope ["pair", "steps", "more"] ["pair", "steps"] (defScope s_raised) := ⟨rfl, rfl, rfl, by decide +kernel, rfl, by decide +kernel, by decide +kernel⟩
abbrev s_joined : Stmt := topS 33
theorem sc_joined : FnScope ["pair", "other", "mores", "at", "more"] ["pair", "other"] (defScope s_joined) := ⟨rfl, rfl, rfl, by decide +kernel, rfl, by decide +kernel, by decide +kernel⟩
abbrev s_after : Stmt := topS 34
theorem sc_after : FnScope ["found", "run", "many", "sheep", "here", "pair", "least", "mores"] ["found", "run", "many"] (defScope s_after) := ⟨rfl, rfl, rfl, by decide +kernel, rfl, by decide +kernel, by decide +kernel⟩
abbrev s_map_of : Stmt := topS 35
theorem sc_map_of : FnScope ["drill", "many", "found", "run"] ["drill", "many"] (defScope s_map_of) := ⟨rfl, rfl, rfl, by decide +kernel, rfl, by decide +kernel, by decide +kernel⟩
abbrev s_deep : Stmt := topS 36
theorem sc_deep : FnScope ["drill", "word", "run"] ["drill", "word"] (defScope s_deep) := ⟨rfl, rfl, rfl, by decide +kernel, rfl, by decide +kernel, by decide +kernel⟩
abbrev s_enough : Stmt := topS 37
theorem sc_enough : FnScope ["drill", "other", "back"] ["drill", "other"] (defScope s_enough) := ⟨rfl, rfl, rfl, by decide +kernel, rfl, by decide +kernel, by decide +kernel⟩
abbrev s_room_of : Stmt := topS 38
theorem sc_room_of : FnScope ["pair", "rooms", "at", "more"] ["pair", "rooms"] (defScope s_room_of) := ⟨rfl, rfl, rfl, by decide +kernel, rfl, by decide +kernel, by decide +kernel⟩
abbrev s_terms_of : Stmt := topS 39
theorem sc_terms_of : FnScope ["pair", "found", "least", "mores", "at", "more"] ["pair"] (defScope s_terms_of) := ⟨rfl, rfl, rfl, by decide +kernel, rfl, by decide +kernel, by decide +kernel⟩
abbrev s_small : Stmt := topS 41
theorem sc_small : FnScope ["drill", "many", "sheep", "few", "back", "front"] ["drill", "many", "sheep"] (defScope s_small) := ⟨rfl, rfl, rfl, by decide +kernel, rfl, by decide +kernel, by decide +kernel⟩
abbrev s_pair_of : Stmt := topS 42
theorem sc_pair_of : FnScope ["drill", "many", "sheep", "own", "few", "here", "least", "terms", "back", "found", "at", "more"] ["drill", "many", "sheep"] (defScope s_pair_of) := ⟨rfl, rfl, rfl, by decide +kernel, rfl, by decide +kernel, by decide +kernel⟩
abbrev s_form : Stmt := topS 43
theorem sc_form : FnScope ["drill", "many", "sheep"] ["drill", "many", "sheep"] (defScope s_form) := ⟨rfl, rfl, rfl, by decide +kernel, rfl, by decide +kernel, by decide +kernel⟩
abbrev s_moves : Stmt := topS 44
theorem sc_moves : FnScope ["drill", "many", "sheep", "least", "terms"] ["drill", "many", "sheep"] (defScope s_moves) := ⟨rfl, rfl, rfl, by decide +kernel, rfl, by decide +kernel, by decide +kernel⟩
abbrev s_least_place : Stmt := topS 45
theorem sc_least_place : FnScope ["drill", "many", "sheep", "own"] ["drill", "many", "sheep"] (defScope s_least_place) := ⟨rfl, rfl, rfl, by decide +kernel, rfl, by decide +kernel, by decide +kernel⟩
abbrev s_pushed : Stmt := topS 47
theorem sc_pushed : FnScope ["gap", "places", "sheep", "steps", "found", "at"] ["gap", "places", "sheep", "steps"] (defScope s_pushed) := ⟨rfl, rfl, rfl, by decide +kernel, rfl, by decide +kernel, by decide +kernel⟩
abbrev s_ran : Stmt := topS 48
theorem sc_ran : FnScope ["gap", "places", "run", "sheep", "place"] ["gap", "places", "run"] (defScope s_ran) := ⟨rfl, rfl, rfl, by decide +kernel, rfl, by decide +kernel, by decide +kernel⟩
abbrev s_course_of : Stmt := topS 49
theorem sc_course_of : FnScope ["drill", "beginning", "found", "run"] ["drill", "beginning"] (defScope s_course_of) := ⟨rfl, rfl, rfl, by decide +kernel, rfl, by decide +kernel, by decide +kernel⟩
abbrev s_course : Stmt := topS 50
theorem sc_course : FnScope ["drill", "beginning"] ["drill", "beginning"] (defScope s_course) := ⟨rfl, rfl, rfl, by decide +kernel, rfl, by decide +kernel, by decide +kernel⟩
abbrev s_ends : Stmt := topS 51
theorem sc_ends : FnScope ["drill", "beginning"] ["drill", "beginning"] (defScope s_ends) := ⟨rfl, rfl, rfl, by decide +kernel, rfl, by decide +kernel, by decide +kernel⟩
abbrev s_Lane_init_u : Stmt := match topS 53 with
  | .ClassDef _ _ _ b _ _ _ _ _ _ _ => b.getD 1 (.Pass ⟨0, 0, 0, 0⟩)
  | _ => .Pass ⟨0, 0, 0, 0⟩
theorem sc_Lane_init_u : FnScope ["self", "gap", "beginning"] ["self", "gap", "beginning"] (defScope s_Lane_init_u) := ⟨rfl, rfl, rfl, by decide +kernel, rfl, by decide +kernel, by decide +kernel⟩
abbrev s_need_both : Stmt := topS 58
theorem sc_need_both : FnScope ["one", "other"] ["one", "other"] (defScope s_need_both) := ⟨rfl, rfl, rfl, by decide +kernel, rfl, by decide +kernel, by decide +kernel⟩
abbrev s_alike : Stmt := topS 59
theorem sc_alike : FnScope ["one", "other"] ["one", "other"] (defScope s_alike) := ⟨rfl, rfl, rfl, by decide +kernel, rfl, by decide +kernel, by decide +kernel⟩
abbrev s_parting : Stmt := topS 60
theorem sc_parting : FnScope ["one", "other"] ["one", "other"] (defScope s_parting) := ⟨rfl, rfl, rfl, by decide +kernel, rfl, by decide +kernel, by decide +kernel⟩
abbrev s_never_behind : Stmt := topS 61
theorem sc_never_behind : FnScope ["one", "other"] ["one", "other"] (defScope s_never_behind) := ⟨rfl, rfl, rfl, by decide +kernel, rfl, by decide +kernel, by decide +kernel⟩
abbrev s_first_behind : Stmt := topS 62
theorem sc_first_behind : FnScope ["one", "other"] ["one", "other"] (defScope s_first_behind) := ⟨rfl, rfl, rfl, by decide +kernel, rfl, by decide +kernel, by decide +kernel⟩
abbrev s_shortened : Stmt := topS 64
theorem sc_shortened : FnScope ["items", "early", "later"] ["items"] (defScope s_shortened) := ⟨rfl, rfl, rfl, by decide +kernel, rfl, by decide +kernel, by decide +kernel⟩
abbrev s_past_rows : Stmt := topS 65
theorem sc_past_rows : FnScope ["drill", "post", "many"] ["drill", "post"] (defScope s_past_rows) := ⟨rfl, rfl, rfl, by decide +kernel, rfl, by decide +kernel, by decide +kernel⟩
abbrev s_parts_here : Stmt := topS 66
theorem sc_parts_here : FnScope ["drill", "many", "sheep", "found", "one", "other", "at", "more"] ["drill", "many", "sheep"] (defScope s_parts_here) := ⟨rfl, rfl, rfl, by decide +kernel, rfl, by decide +kernel, by decide +kernel⟩
abbrev s_parted_of : Stmt := topS 67
theorem sc_parted_of : FnScope ["drill", "many", "sheep"] ["drill", "many"] (defScope s_parted_of) := ⟨rfl, rfl, rfl, by decide +kernel, rfl, by decide +kernel, by decide +kernel⟩
abbrev s_parted : Stmt := topS 68
theorem sc_parted : FnScope ["drill", "many"] ["drill", "many"] (defScope s_parted) := ⟨rfl, rfl, rfl, by decide +kernel, rfl, by decide +kernel, by decide +kernel⟩
abbrev s_never_parted : Stmt := topS 69
theorem sc_never_parted : FnScope ["drill", "many"] ["drill"] (defScope s_never_parted) := ⟨rfl, rfl, rfl, by decide +kernel, rfl, by decide +kernel, by decide +kernel⟩
abbrev s_idle : Stmt := topS 73
theorem sc_idle : FnScope ["drill", "runs", "at"] ["drill"] (defScope s_idle) := ⟨rfl, rfl, rfl, by decide +kernel, rfl, by decide +kernel, by decide +kernel⟩
abbrev s_swaps : Stmt := topS 74
theorem sc_swaps : FnScope ["drill", "at", "runs", "found"] ["drill"] (defScope s_swaps) := ⟨rfl, rfl, rfl, by decide +kernel, rfl, by decide +kernel, by decide +kernel⟩
abbrev s_shortest : Stmt := topS 76
theorem sc_shortest : FnScope ["drill", "part", "at"] ["drill"] (defScope s_shortest) := ⟨rfl, rfl, rfl, by decide +kernel, rfl, by decide +kernel, by decide +kernel⟩
abbrev s_rooms_of : Stmt := topS 78
theorem sc_rooms_of : FnScope ["gap", "places", "at", "place"] ["gap", "places"] (defScope s_rooms_of) := ⟨rfl, rfl, rfl, by decide +kernel, rfl, by decide +kernel, by decide +kernel⟩
abbrev s_leads : Stmt := topS 79
theorem sc_leads : FnScope ["found", "rooms", "due", "at", "pair"] ["found", "rooms", "due"] (defScope s_leads) := ⟨rfl, rfl, rfl, by decide +kernel, rfl, by decide +kernel, by decide +kernel⟩
abbrev s_greatest : Stmt := topS 80
theorem sc_greatest : FnScope ["found", "due", "rooms", "sheep", "at"] ["found", "due"] (defScope s_greatest) := ⟨rfl, rfl, rfl, by decide +kernel, rfl, by decide +kernel, by decide +kernel⟩
abbrev s_least_room : Stmt := topS 81
theorem sc_least_room : FnScope ["found", "rooms", "due", "sheep", "low", "high", "middle", "at", "room"] ["found", "rooms", "due", "sheep"] (defScope s_least_room) := ⟨rfl, rfl, rfl, by decide +kernel, rfl, by decide +kernel, by decide +kernel⟩
abbrev s_bounds_of : Stmt := topS 82
theorem sc_bounds_of : FnScope ["drill", "ends", "rooms", "found", "due", "sheep"] ["drill", "ends"] (defScope s_bounds_of) := ⟨rfl, rfl, rfl, by decide +kernel, rfl, by decide +kernel, by decide +kernel⟩
abbrev s_bounds : Stmt := topS 83
theorem sc_bounds : FnScope ["drill", "ends", "found", "gap", "at", "low", "high"] ["drill", "ends"] (defScope s_bounds) := ⟨rfl, rfl, rfl, by decide +kernel, rfl, by decide +kernel, by decide +kernel⟩
abbrev s_greatest_beginning : Stmt := topS 84
theorem sc_greatest_beginning : FnScope ["drill", "ends", "found", "gap", "at", "pair"] ["drill", "ends"] (defScope s_greatest_beginning) := ⟨rfl, rfl, rfl, by decide +kernel, rfl, by decide +kernel, by decide +kernel⟩
abbrev s_drill_text : Stmt := topS 87
theorem sc_drill_text : FnScope ["drill"] ["drill"] (defScope s_drill_text) := ⟨rfl, rfl, rfl, by decide +kernel, rfl, by decide +kernel, by decide +kernel⟩
abbrev s_l_cart_of : Stmt := topS 89
theorem sc_l_cart_of : FnScope ["_law_script", "_law_k", "_law_cell"] ["_law_script", "_law_k"] (defScope s_l_cart_of) := ⟨rfl, rfl, rfl, by decide +kernel, rfl, by decide +kernel, by decide +kernel⟩
abbrev s_l_take : Stmt := topS 90
theorem sc_l_take : FnScope ["_law_cart", "_law_many", "_law_found", "_law_wide"] ["_law_cart", "_law_many"] (defScope s_l_take) := ⟨rfl, rfl, rfl, by decide +kernel, rfl, by decide +kernel, by decide +kernel⟩
abbrev s_l_any : Stmt := topS 91
theorem sc_l_any : FnScope ["_law_cart", "_law_things"] ["_law_cart", "_law_things"] (defScope s_l_any) := ⟨rfl, rfl, rfl, by decide +kernel, rfl, by decide +kernel, by decide +kernel⟩
abbrev s_l_deed : Stmt := topS 92
theorem sc_l_deed : FnScope ["_law_cart", "_law_wide", "_law_word_here", "_law_most"] ["_law_cart", "_law_wide"] (defScope s_l_deed) := ⟨rfl, rfl, rfl, by decide +kernel, rfl, by decide +kernel, by decide +kernel⟩
abbrev s_l_deeds : Stmt := topS 93
theorem sc_l_deeds : FnScope ["_law_cart", "_law_most", "_law_wide", "_law_turn"] ["_law_cart", "_law_most", "_law_wide"] (defScope s_l_deeds) := ⟨rfl, rfl, rfl, by decide +kernel, rfl, by decide +kernel, by decide +kernel⟩
abbrev s_l_work : Stmt := topS 94
theorem sc_l_work : FnScope ["_law_cart", "_law_most"] ["_law_cart", "_law_most"] (defScope s_l_work) := ⟨rfl, rfl, rfl, by decide +kernel, rfl, by decide +kernel, by decide +kernel⟩
abbrev s_l_at : Stmt := topS 95
theorem sc_l_at : FnScope ["_law_gap", "_law_rooms", "_law_at_here", "_law_room"] ["_law_gap", "_law_rooms"] (defScope s_l_at) := ⟨rfl, rfl, rfl, by decide +kernel, rfl, by decide +kernel, by decide +kernel⟩
abbrev s_l_word : Stmt := topS 96
theorem sc_l_word : FnScope ["_law_call", "_law_found", "e"] ["_law_call"] (defScope s_l_word) := ⟨rfl, rfl, rfl, by decide +kernel, rfl, by decide +kernel, by decide +kernel⟩
abbrev s_l_first_calls : Stmt := topS 97
theorem sc_l_first_calls : FnScope ["_law_work_here", "_law_rows"] ["_law_work_here"] (defScope s_l_first_calls) := ⟨rfl, rfl, rfl, by decide +kernel, rfl, by decide +kernel, by decide +kernel⟩
abbrev s_l_pair_calls : Stmt := topS 98
theorem sc_l_pair_calls : FnScope ["_law_one", "_law_other", "_law_rows"] ["_law_one", "_law_other"] (defScope s_l_pair_calls) := ⟨rfl, rfl, rfl, by decide +kernel, rfl, by decide +kernel, by decide +kernel⟩
abbrev s_l_place_calls : Stmt := topS 99
theorem sc_l_place_calls : FnScope ["_law_work_here", "_law_places", "_law_rows"] ["_law_work_here", "_law_places"] (defScope s_l_place_calls) := ⟨rfl, rfl, rfl, by decide +kernel, rfl, by decide +kernel, by decide +kernel⟩
abbrev s_l_many_calls : Stmt := topS 100
theorem sc_l_many_calls : FnScope ["_law_work_here", "_law_many", "_law_sheep", "_law_rows"] ["_law_work_here", "_law_many", "_law_sheep"] (defScope s_l_many_calls) := ⟨rfl, rfl, rfl, by decide +kernel, rfl, by decide +kernel, by decide +kernel⟩
abbrev s_l_all_words : Stmt := topS 101
theorem sc_l_all_words : FnScope ["_law_calls", "_law_word_here", "_law_call"] ["_law_calls", "_law_word_here"] (defScope s_l_all_words) := ⟨rfl, rfl, rfl, by decide +kernel, rfl, by decide +kernel, by decide +kernel⟩
abbrev s_law : Stmt := topS 102
theorem sc_law : FnScope ["_law_script", "_law_k", "_law_cart", "_law_work_here", "_law_odd", "_law_rows", "_law_bad", "_law_many"] ["_law_script"] (defScope s_law) := ⟨rfl, rfl, rfl, by decide +kernel, rfl, by decide +kernel, by decide +kernel⟩
abbrev LR_l_first_calls_0 : LamR := lamR (("_law_first_calls" : Str) ++ ".<locals>." ++ "<lambda>") [] ["_law_work_here"] (pElt (pEx (pStmts s_l_first_calls 0)))
theorem ls_l_first_calls_0 : LamSc LR_l_first_calls_0 (defScope s_l_first_calls) := ⟨rfl, rfl, rfl, by decide +kernel, by decide +kernel, by decide +kernel, by decide +kernel, by decide, fun _ _ _ _ us hl => match us, hl with | [], _ => rfl⟩
abbrev LR_l_first_calls_1 : LamR := lamR (("_law_first_calls" : Str) ++ ".<locals>." ++ "<lambda>") [] ["_law_work_here"] (pArg (pEx (pStmts s_l_first_calls 1)))
theorem ls_l_first_calls_1 : LamSc LR_l_first_calls_1 (defScope s_l_first_calls) := ⟨rfl, rfl, rfl, by decide +kernel, by decide +kernel, by decide +kernel, by decide +kernel, by decide, fun _ _ _ _ us hl => match us, hl with | [], _ => rfl⟩
abbrev LR_l_first_calls_2 : LamR := lamR (("_law_first_calls" : Str) ++ ".<locals>." ++ "<lambda>") [] ["_law_work_here"] (pArg (pEx (pStmts s_l_first_calls 2)))
theorem ls_l_first_calls_2 : LamSc LR_l_first_calls_2 (defScope s_l_first_calls) := ⟨rfl, rfl, rfl, by decide +kernel, by decide +kernel, by decide +kernel, by decide +kernel, by decide, fun _ _ _ _ us hl => match us, hl with | [], _ => rfl⟩
abbrev LR_l_first_calls_3 : LamR := lamR (("_law_first_calls" : Str) ++ ".<locals>." ++ "<lambda>") [] ["_law_work_here"] (pArg (pEx (pStmts s_l_first_calls 3)))
theorem ls_l_first_calls_3 : LamSc LR_l_first_calls_3 (defScope s_l_first_calls) := ⟨rfl, rfl, rfl, by decide +kernel, by decide +kernel, by decide +kernel, by decide +kernel, by decide, fun _ _ _ _ us hl => match us, hl with | [], _ => rfl⟩
abbrev LR_l_first_calls_4 : LamR := lamR (("_law_first_calls" : Str) ++ ".<locals>." ++ "<lambda>") [] ["_law_work_here"] (pArg (pEx (pStmts s_l_first_calls 4)))
theorem ls_l_first_calls_4 : LamSc LR_l_first_calls_4 (defScope s_l_first_calls) := ⟨rfl, rfl, rfl, by decide +kernel, by decide +kernel, by decide +kernel, by decide +kernel, by decide, fun _ _ _ _ us hl => match us, hl with | [], _ => rfl⟩
abbrev LR_l_first_calls_5 : LamR := lamR (("_law_first_calls" : Str) ++ ".<locals>." ++ "<lambda>") [] ["_law_work_here"] (pArg (pEx (pStmts s_l_first_calls 5)))
theorem ls_l_first_calls_5 : LamSc LR_l_first_calls_5 (defScope s_l_first_calls) := ⟨rfl, rfl, rfl, by decide +kernel, by decide +kernel, by decide +kernel, by decide +kernel, by decide, fun _ _ _ _ us hl => match us, hl with | [], _ => rfl⟩
abbrev LR_l_first_calls_6 : LamR := lamR (("_law_first_calls" : Str) ++ ".<locals>." ++ "<lambda>") [] ["_law_work_here"] (pArg (pEx (pStmts s_l_first_calls 6)))
theorem ls_l_first_calls_6 : LamSc LR_l_first_calls_6 (defScope s_l_first_calls) := ⟨rfl, rfl, rfl, by decide +kernel, by decide +kernel, by decide +kernel, by decide +kernel, by decide, fun _ _ _ _ us hl => match us, hl with | [], _ => rfl⟩
abbrev LR_l_first_calls_7 : LamR := lamR (("_law_first_calls" : Str) ++ ".<locals>." ++ "<lambda>") [] ["_law_work_here"] (pArg (pEx (pStmts s_l_first_calls 7)))
theorem ls_l_first_calls_7 : LamSc LR_l_first_calls_7 (defScope s_l_first_calls) := ⟨rfl, rfl, rfl, by decide +kernel, by decide +kernel, by decide +kernel, by decide +kernel, by decide, fun _ _ _ _ us hl => match us, hl with | [], _ => rfl⟩
abbrev LR_l_first_calls_8 : LamR := lamR (("_law_first_calls" : Str) ++ ".<locals>." ++ "<lambda>") [] ["_law_work_here"] (pArg (pEx (pStmts s_l_first_calls 8)))
theorem ls_l_first_calls_8 : LamSc LR_l_first_calls_8 (defScope s_l_first_calls) := ⟨rfl, rfl, rfl, by decide +kernel, by decide +kernel, by decide +kernel, by decide +kernel, by decide, fun _ _ _ _ us hl => match us, hl with | [], _ => rfl⟩
abbrev LR_l_first_calls_9 : LamR := lamR (("_law_first_calls" : Str) ++ ".<locals>." ++ "<lambda>") [] ["_law_work_here"] (pArg (pEx (pStmts s_l_first_calls 9)))
theorem ls_l_first_calls_9 : LamSc LR_l_first_calls_9 (defScope s_l_first_calls) := ⟨rfl, rfl, rfl, by decide +kernel, by decide +kernel, by decide +kernel, by decide +kernel, by decide, fun _ _ _ _ us hl => match us, hl with | [], _ => rfl⟩
abbrev LR_l_first_calls_10 : LamR := lamR (("_law_first_calls" : Str) ++ ".<locals>." ++ "<lambda>") [] ["_law_work_here"] (pArg (pEx (pStmts s_l_first_calls 10)))
theorem ls_l_first_calls_10 : LamSc LR_l_first_calls_10 (defScope s_l_first_calls) := ⟨rfl, rfl, rfl, by decide +kernel, by decide +kernel, by decide +kernel, by decide +kernel, by decide, fun _ _ _ _ us hl => match us, hl with | [], _ => rfl⟩
abbrev LR_l_first_calls_11 : LamR := lamR (("_law_first_calls" : Str) ++ ".<locals>." ++ "<lambda>") [] ["_law_work_here"] (pArg (pEx (pStmts s_l_first_calls 11)))
theorem ls_l_first_calls_11 : LamSc LR_l_first_calls_11 (defScope s_l_first_calls) := ⟨rfl, rfl, rfl, by decide +kernel, by decide +kernel, by decide +kernel, by decide +kernel, by decide, fun _ _ _ _ us hl => match us, hl with | [], _ => rfl⟩
abbrev LR_l_first_calls_12 : LamR := lamR (("_law_first_calls" : Str) ++ ".<locals>." ++ "<lambda>") [] ["_law_work_here"] (pArg (pEx (pStmts s_l_first_calls 12)))
theorem ls_l_first_calls_12 : LamSc LR_l_first_calls_12 (defScope s_l_first_calls) := ⟨rfl, rfl, rfl, by decide +kernel, by decide +kernel, by decide +kernel, by decide +kernel, by decide, fun _ _ _ _ us hl => match us, hl with | [], _ => rfl⟩
abbrev LR_l_first_calls_13 : LamR := lamR (("_law_first_calls" : Str) ++ ".<locals>." ++ "<lambda>") [] ["_law_work_here"] (pArg (pEx (pStmts s_l_first_calls 13)))
theorem ls_l_first_calls_13 : LamSc LR_l_first_calls_13 (defScope s_l_first_calls) := ⟨rfl, rfl, rfl, by decide +kernel, by decide +kernel, by decide +kernel, by decide +kernel, by decide, fun _ _ _ _ us hl => match us, hl with | [], _ => rfl⟩
abbrev LR_l_first_calls_14 : LamR := lamR (("_law_first_calls" : Str) ++ ".<locals>." ++ "<lambda>") [] ["_law_work_here"] (pArg (pEx (pStmts s_l_first_calls 14)))
theorem ls_l_first_calls_14 : LamSc LR_l_first_calls_14 (defScope s_l_first_calls) := ⟨rfl, rfl, rfl, by decide +kernel, by decide +kernel, by decide +kernel, by decide +kernel, by decide, fun _ _ _ _ us hl => match us, hl with | [], _ => rfl⟩
abbrev LR_l_pair_calls_0 : LamR := lamR (("_law_pair_calls" : Str) ++ ".<locals>." ++ "<lambda>") [] ["_law_one", "_law_other"] (pElt (pEx (pStmts s_l_pair_calls 0)))
theorem ls_l_pair_calls_0 : LamSc LR_l_pair_calls_0 (defScope s_l_pair_calls) := ⟨rfl, rfl, rfl, by decide +kernel, by decide +kernel, by decide +kernel, by decide +kernel, by decide, fun _ _ _ _ us hl => match us, hl with | [], _ => rfl⟩
abbrev LR_l_pair_calls_1 : LamR := lamR (("_law_pair_calls" : Str) ++ ".<locals>." ++ "<lambda>") [] ["_law_one", "_law_other"] (pArg (pEx (pStmts s_l_pair_calls 1)))
theorem ls_l_pair_calls_1 : LamSc LR_l_pair_calls_1 (defScope s_l_pair_calls) := ⟨rfl, rfl, rfl, by decide +kernel, by decide +kernel, by decide +kernel, by decide +kernel, by decide, fun _ _ _ _ us hl => match us, hl with | [], _ => rfl⟩
abbrev LR_l_pair_calls_2 : LamR := lamR (("_law_pair_calls" : Str) ++ ".<locals>." ++ "<lambda>") [] ["_law_one", "_law_other"] (pArg (pEx (pStmts s_l_pair_calls 2)))
theorem ls_l_pair_calls_2 : LamSc LR_l_pair_calls_2 (defScope s_l_pair_calls) := ⟨rfl, rfl, rfl, by decide +kernel, by decide +kernel, by decide +kernel, by decide +kernel, by decide, fun _ _ _ _ us hl => match us, hl with | [], _ => rfl⟩
abbrev LR_l_pair_calls_3 : LamR := lamR (("_law_pair_calls" : Str) ++ ".<locals>." ++ "<lambda>") [] ["_law_one", "_law_other"] (pArg (pEx (pStmts s_l_pair_calls 3)))
theorem ls_l_pair_calls_3 : LamSc LR_l_pair_calls_3 (defScope s_l_pair_calls) := ⟨rfl, rfl, rfl, by decide +kernel, by decide +kernel, by decide +kernel, by decide +kernel, by decide, fun _ _ _ _ us hl => match us, hl with | [], _ => rfl⟩
abbrev LR_l_place_calls_0 : LamR := lamR (("_law_place_calls" : Str) ++ ".<locals>." ++ "<lambda>") [] ["_law_work_here", "_law_places"] (pElt (pEx (pStmts s_l_place_calls 0)))
theorem ls_l_place_calls_0 : LamSc LR_l_place_calls_0 (defScope s_l_place_calls) := ⟨rfl, rfl, rfl, by decide +kernel, by decide +kernel, by decide +kernel, by decide +kernel, by decide, fun _ _ _ _ us hl => match us, hl with | [], _ => rfl⟩
abbrev LR_l_place_calls_1 : LamR := lamR (("_law_place_calls" : Str) ++ ".<locals>." ++ "<lambda>") [] ["_law_work_here", "_law_places"] (pArg (pEx (pStmts s_l_place_calls 1)))
theorem ls_l_place_calls_1 : LamSc LR_l_place_calls_1 (defScope s_l_place_calls) := ⟨rfl, rfl, rfl, by decide +kernel, by decide +kernel, by decide +kernel, by decide +kernel, by decide, fun _ _ _ _ us hl => match us, hl with | [], _ => rfl⟩
abbrev LR_l_place_calls_2 : LamR := lamR (("_law_place_calls" : Str) ++ ".<locals>." ++ "<lambda>") [] ["_law_work_here", "_law_places"] (pArg (pEx (pStmts s_l_place_calls 2)))
theorem ls_l_place_calls_2 : LamSc LR_l_place_calls_2 (defScope s_l_place_calls) := ⟨rfl, rfl, rfl, by decide +kernel, by decide +kernel, by decide +kernel, by decide +kernel, by decide, fun _ _ _ _ us hl => match us, hl with | [], _ => rfl⟩
abbrev LR_l_place_calls_3 : LamR := lamR (("_law_place_calls" : Str) ++ ".<locals>." ++ "<lambda>") [] ["_law_work_here", "_law_places"] (pArg (pEx (pStmts s_l_place_calls 3)))
theorem ls_l_place_calls_3 : LamSc LR_l_place_calls_3 (defScope s_l_place_calls) := ⟨rfl, rfl, rfl, by decide +kernel, by decide +kernel, by decide +kernel, by decide +kernel, by decide, fun _ _ _ _ us hl => match us, hl with | [], _ => rfl⟩
abbrev LR_l_place_calls_4 : LamR := lamR (("_law_place_calls" : Str) ++ ".<locals>." ++ "<lambda>") [] ["_law_work_here", "_law_places"] (pArg (pEx (pStmts s_l_place_calls 4)))
theorem ls_l_place_calls_4 : LamSc LR_l_place_calls_4 (defScope s_l_place_calls) := ⟨rfl, rfl, rfl, by decide +kernel, by decide +kernel, by decide +kernel, by decide +kernel, by decide, fun _ _ _ _ us hl => match us, hl with | [], _ => rfl⟩
abbrev LR_l_many_calls_0 : LamR := lamR (("_law_many_calls" : Str) ++ ".<locals>." ++ "<lambda>") [] ["_law_work_here", "_law_many", "_law_sheep"] (pElt (pEx (pStmts s_l_many_calls 0)))
theorem ls_l_many_calls_0 : LamSc LR_l_many_calls_0 (defScope s_l_many_calls) := ⟨rfl, rfl, rfl, by decide +kernel, by decide +kernel, by decide +kernel, by decide +kernel, by decide, fun _ _ _ _ us hl => match us, hl with | [], _ => rfl⟩
abbrev LR_l_many_calls_1 : LamR := lamR (("_law_many_calls" : Str) ++ ".<locals>." ++ "<lambda>") [] ["_law_work_here", "_law_many", "_law_sheep"] (pArg (pEx (pStmts s_l_many_calls 1)))
theorem ls_l_many_calls_1 : LamSc LR_l_many_calls_1 (defScope s_l_many_calls) := ⟨rfl, rfl, rfl, by decide +kernel, by decide +kernel, by decide +kernel, by decide +kernel, by decide, fun _ _ _ _ us hl => match us, hl with | [], _ => rfl⟩
abbrev LR_l_many_calls_2 : LamR := lamR (("_law_many_calls" : Str) ++ ".<locals>." ++ "<lambda>") [] ["_law_work_here", "_law_many", "_law_sheep"] (pArg (pEx (pStmts s_l_many_calls 2)))
theorem ls_l_many_calls_2 : LamSc LR_l_many_calls_2 (defScope s_l_many_calls) := ⟨rfl, rfl, rfl, by decide +kernel, by decide +kernel, by decide +kernel, by decide +kernel, by decide, fun _ _ _ _ us hl => match us, hl with | [], _ => rfl⟩
abbrev LR_law_0 : LamR := lamR (("law" : Str) ++ ".<locals>." ++ "<lambda>") [] ["_law_work_here"] (pArg (pEx (pIn (pStmts s_law 0) 15)))
theorem ls_law_0 : LamSc LR_law_0 (defScope s_law) := ⟨rfl, rfl, rfl, by decide +kernel, by decide +kernel, by decide +kernel, by decide +kernel, by decide, fun _ _ _ _ us hl => match us, hl with | [], _ => rfl⟩
abbrev LR_law_1 : LamR := lamR (("law" : Str) ++ ".<locals>." ++ "<lambda>") [] ["_law_work_here"] (pArg (pEx (pIn (pStmts s_law 0) 16)))
theorem ls_law_1 : LamSc LR_law_1 (defScope s_law) := ⟨rfl, rfl, rfl, by decide +kernel, by decide +kernel, by decide +kernel, by decide +kernel, by decide, fun _ _ _ _ us hl => match us, hl with | [], _ => rfl⟩
abbrev LR_law_2 : LamR := lamR (("law" : Str) ++ ".<locals>." ++ "<lambda>") [] ["_law_cart"] (pArg (pLeft (pEx (pIn (pStmts s_law 0) 18))))
theorem ls_law_2 : LamSc LR_law_2 (defScope s_law) := ⟨rfl, rfl, rfl, by decide +kernel, by decide +kernel, by decide +kernel, by decide +kernel, by decide, fun _ _ _ _ us hl => match us, hl with | [], _ => rfl⟩
abbrev LR_law_3 : LamR := lamR (("law" : Str) ++ ".<locals>." ++ "<lambda>") [] [] (pArg (pLeft (pEx (pStmts s_law 1))))
theorem ls_law_3 : LamSc LR_law_3 (defScope s_law) := ⟨rfl, rfl, rfl, by decide +kernel, by decide +kernel, by decide +kernel, by decide +kernel, by decide, fun _ _ _ _ us hl => match us, hl with | [], _ => rfl⟩
abbrev LR_law_4 : LamR := lamR (("law" : Str) ++ ".<locals>." ++ "<lambda>") [] [] (pArg (pLeft (pEx (pStmts s_law 2))))
theorem ls_law_4 : LamSc LR_law_4 (defScope s_law) := ⟨rfl, rfl, rfl, by decide +kernel, by decide +kernel, by decide +kernel, by decide +kernel, by decide, fun _ _ _ _ us hl => match us, hl with | [], _ => rfl⟩
def FZ (K : PySem.W.Frag) (j : Nat) : List D → Addr → Hp → Prop := FzAt K (([LR_l_first_calls_0, LR_l_first_calls_1, LR_l_first_calls_2, LR_l_first_calls_3, LR_l_first_calls_4, LR_l_first_calls_5, LR_l_first_calls_6, LR_l_first_calls_7, LR_l_first_calls_8, LR_l_first_calls_9, LR_l_first_calls_10, LR_l_first_calls_11, LR_l_first_calls_12, LR_l_first_calls_13, LR_l_first_calls_14, LR_l_pair_calls_0, LR_l_pair_calls_1, LR_l_pair_calls_2, LR_l_pair_calls_3, LR_l_place_calls_0, LR_l_place_calls_1, LR_l_place_calls_2, LR_l_place_calls_3, LR_l_place_calls_4, LR_l_many_calls_0, LR_l_many_calls_1, LR_l_many_calls_2] : List LamR).getD j LR_l_first_calls_0)
theorem fz_0 (K : PySem.W.Frag) : FZ K 0 = FzAt K LR_l_first_calls_0 := by
  simp only [FZ, List.getD_eq_getElem?_getD, List.getElem?_cons_succ, List.getElem?_cons_zero, Option.getD_some]
theorem fz_1 (K : PySem.W.Frag) : FZ K 1 = FzAt K LR_l_first_calls_1 := by
  simp only [FZ, List.getD_eq_getElem?_getD, List.getElem?_cons_succ, List.getElem?_cons_zero, Option.getD_some]
theorem fz_2 (K : PySem.W.Frag) : FZ K 2 = FzAt K LR_l_first_calls_2 := by
  simp only [FZ, List.getD_eq_getElem?_getD, List.getElem?_cons_succ, List.getElem?_cons_zero, Option.getD_some]
theorem fz_3 (K : PySem.W.Frag) : FZ K 3 = FzAt K LR_l_first_calls_3 := by
  simp only [FZ, List.getD_eq_getElem?_getD, List.getElem?_cons_succ, List.getElem?_cons_zero, Option.getD_some]
theorem fz_4 (K : PySem.W.Frag) : FZ K 4 = FzAt K LR_l_first_calls_4 := by
  simp only [FZ, List.getD_eq_getElem?_getD, List.getElem?_cons_succ, List.getElem?_cons_zero, Option.getD_some]
theorem fz_5 (K : PySem.W.Frag) : FZ K 5 = FzAt K LR_l_first_calls_5 := by
  simp only [FZ, List.getD_eq_getElem?_getD, List.getElem?_cons_succ, List.getElem?_cons_zero, Option.getD_some]
theorem fz_6 (K : PySem.W.Frag) : FZ K 6 = FzAt K LR_l_first_calls_6 := by
  simp only [FZ, List.getD_eq_getElem?_getD, List.getElem?_cons_succ, List.getElem?_cons_zero, Option.getD_some]
theorem fz_7 (K : PySem.W.Frag) : FZ K 7 = FzAt K LR_l_first_calls_7 := by
  simp only [FZ, List.getD_eq_getElem?_getD, List.getElem?_cons_succ, List.getElem?_cons_zero, Option.getD_some]
theorem fz_8 (K : PySem.W.Frag) : FZ K 8 = FzAt K LR_l_first_calls_8 := by
  simp only [FZ, List.getD_eq_getElem?_getD, List.getElem?_cons_succ, List.getElem?_cons_zero, Option.getD_some]
theorem fz_9 (K : PySem.W.Frag) : FZ K 9 = FzAt K LR_l_first_calls_9 := by
  simp only [FZ, List.getD_eq_getElem?_getD, List.getElem?_cons_succ, List.getElem?_cons_zero, Option.getD_some]
theorem fz_10 (K : PySem.W.Frag) : FZ K 10 = FzAt K LR_l_first_calls_10 := by
  simp only [FZ, List.getD_eq_getElem?_getD, List.getElem?_cons_succ, List.getElem?_cons_zero, Option.getD_some]
theorem fz_11 (K : PySem.W.Frag) : FZ K 11 = FzAt K LR_l_first_calls_11 := by
  simp only [FZ, List.getD_eq_getElem?_getD, List.getElem?_cons_succ, List.getElem?_cons_zero, Option.getD_some]
theorem fz_12 (K : PySem.W.Frag) : FZ K 12 = FzAt K LR_l_first_calls_12 := by
  simp only [FZ, List.getD_eq_getElem?_getD, List.getElem?_cons_succ, List.getElem?_cons_zero, Option.getD_some]
theorem fz_13 (K : PySem.W.Frag) : FZ K 13 = FzAt K LR_l_first_calls_13 := by
  simp only [FZ, List.getD_eq_getElem?_getD, List.getElem?_cons_succ, List.getElem?_cons_zero, Option.getD_some]
theorem fz_14 (K : PySem.W.Frag) : FZ K 14 = FzAt K LR_l_first_calls_14 := by
  simp only [FZ, List.getD_eq_getElem?_getD, List.getElem?_cons_succ, List.getElem?_cons_zero, Option.getD_some]
theorem fz_15 (K : PySem.W.Frag) : FZ K 15 = FzAt K LR_l_pair_calls_0 := by
  simp only [FZ, List.getD_eq_getElem?_getD, List.getElem?_cons_succ, List.getElem?_cons_zero, Option.getD_some]
theorem fz_16 (K : PySem.W.Frag) : FZ K 16 = FzAt K LR_l_pair_calls_1 := by
  simp only [FZ, List.getD_eq_getElem?_getD, List.getElem?_cons_succ, List.getElem?_cons_zero, Option.getD_some]
theorem fz_17 (K : PySem.W.Frag) : FZ K 17 = FzAt K LR_l_pair_calls_2 := by
  simp only [FZ, List.getD_eq_getElem?_getD, List.getElem?_cons_succ, List.getElem?_cons_zero, Option.getD_some]
theorem fz_18 (K : PySem.W.Frag) : FZ K 18 = FzAt K LR_l_pair_calls_3 := by
  simp only [FZ, List.getD_eq_getElem?_getD, List.getElem?_cons_succ, List.getElem?_cons_zero, Option.getD_some]
theorem fz_19 (K : PySem.W.Frag) : FZ K 19 = FzAt K LR_l_place_calls_0 := by
  simp only [FZ, List.getD_eq_getElem?_getD, List.getElem?_cons_succ, List.getElem?_cons_zero, Option.getD_some]
theorem fz_20 (K : PySem.W.Frag) : FZ K 20 = FzAt K LR_l_place_calls_1 := by
  simp only [FZ, List.getD_eq_getElem?_getD, List.getElem?_cons_succ, List.getElem?_cons_zero, Option.getD_some]
theorem fz_21 (K : PySem.W.Frag) : FZ K 21 = FzAt K LR_l_place_calls_2 := by
  simp only [FZ, List.getD_eq_getElem?_getD, List.getElem?_cons_succ, List.getElem?_cons_zero, Option.getD_some]
theorem fz_22 (K : PySem.W.Frag) : FZ K 22 = FzAt K LR_l_place_calls_3 := by
  simp only [FZ, List.getD_eq_getElem?_getD, List.getElem?_cons_succ, List.getElem?_cons_zero, Option.getD_some]
theorem fz_23 (K : PySem.W.Frag) : FZ K 23 = FzAt K LR_l_place_calls_4 := by
  simp only [FZ, List.getD_eq_getElem?_getD, List.getElem?_cons_succ, List.getElem?_cons_zero, Option.getD_some]
theorem fz_24 (K : PySem.W.Frag) : FZ K 24 = FzAt K LR_l_many_calls_0 := by
  simp only [FZ, List.getD_eq_getElem?_getD, List.getElem?_cons_succ, List.getElem?_cons_zero, Option.getD_some]
theorem fz_25 (K : PySem.W.Frag) : FZ K 25 = FzAt K LR_l_many_calls_1 := by
  simp only [FZ, List.getD_eq_getElem?_getD, List.getElem?_cons_succ, List.getElem?_cons_zero, Option.getD_some]
theorem fz_26 (K : PySem.W.Frag) : FZ K 26 = FzAt K LR_l_many_calls_2 := by
  simp only [FZ, List.getD_eq_getElem?_getD, List.getElem?_cons_succ, List.getElem?_cons_zero, Option.getD_some]
structure Md (K : PySem.W.Frag) (mg : Str → Option Value) where
  C_Lane : Addr
  gc_Lane : mg "Lane" = some (.ref C_Lane)
  I_Lane : ClsI K "Lane" C_Lane
  cr_Lane : ClX.CRead K C_Lane (.type "type")
  na_Lane_now : NoAttr K C_Lane "now"
  na_Lane_past : NoAttr K C_Lane "past"
  na_Lane_space : NoAttr K C_Lane "space"
  u_Lane_MOST : Value
  cv_Lane_MOST : ClX.CVal K C_Lane (.type "type") "MOST" (.int 50) u_Lane_MOST
  f_Lane_init_u : Addr
  d_Lane_init_u : FuncData
  F_Lane_init_u : Fun K "__init__" "Lane.__init__" s_Lane_init_u f_Lane_init_u d_Lane_init_u
  b_Lane_init_u : Binds K d_Lane_init_u ["self", "gap", "beginning"] []
  mk_Lane_init_u : Mk K C_Lane f_Lane_init_u
  f_is_int : Addr
  d_is_int : FuncData
  F_is_int : Fun K "is_int" "is_int" s_is_int f_is_int d_is_int
  g_is_int : mg "is_int" = some (.ref f_is_int)
  n_is_int : PySem.W.nsIn K mainGlobals "is_int" = some (some (.ref f_is_int))
  b_is_int : Binds K d_is_int ["value", "low", "high"] []
  f_is_a_run : Addr
  d_is_a_run : FuncData
  F_is_a_run : Fun K "is_a_run" "is_a_run" s_is_a_run f_is_a_run d_is_a_run
  g_is_a_run : mg "is_a_run" = some (.ref f_is_a_run)
  n_is_a_run : PySem.W.nsIn K mainGlobals "is_a_run" = some (some (.ref f_is_a_run))
  b_is_a_run : Binds K d_is_a_run ["value"] []
  f_fits : Addr
  d_fits : FuncData
  F_fits : Fun K "fits" "fits" s_fits f_fits d_fits
  g_fits : mg "fits" = some (.ref f_fits)
  n_fits : PySem.W.nsIn K mainGlobals "fits" = some (some (.ref f_fits))
  b_fits : Binds K d_fits ["value"] []
  f_begins : Addr
  d_begins : FuncData
  F_begins : Fun K "begins" "begins" s_begins f_begins d_begins
  g_begins : mg "begins" = some (.ref f_begins)
  n_begins : PySem.W.nsIn K mainGlobals "begins" = some (some (.ref f_begins))
  b_begins : Binds K d_begins ["gap", "value"] []
  f_need_drill : Addr
  d_need_drill : FuncData
  F_need_drill : Fun K "need_drill" "need_drill" s_need_drill f_need_drill d_need_drill
  g_need_drill : mg "need_drill" = some (.ref f_need_drill)
  n_need_drill : PySem.W.nsIn K mainGlobals "need_drill" = some (some (.ref f_need_drill))
  b_need_drill : Binds K d_need_drill ["value"] []
  f_need_beginning : Addr
  d_need_beginning : FuncData
  F_need_beginning : Fun K "need_beginning" "need_beginning" s_need_beginning f_need_beginning d_need_beginning
  g_need_beginning : mg "need_beginning" = some (.ref f_need_beginning)
  n_need_beginning : PySem.W.nsIn K mainGlobals "need_beginning" = some (some (.ref f_need_beginning))
  b_need_beginning : Binds K d_need_beginning ["gap", "value"] []
  f_need_many : Addr
  d_need_many : FuncData
  F_need_many : Fun K "need_many" "need_many" s_need_many f_need_many d_need_many
  g_need_many : mg "need_many" = some (.ref f_need_many)
  n_need_many : PySem.W.nsIn K mainGlobals "need_many" = some (some (.ref f_need_many))
  b_need_many : Binds K d_need_many ["value"] []
  f_need_sheep : Addr
  d_need_sheep : FuncData
  F_need_sheep : Fun K "need_sheep" "need_sheep" s_need_sheep f_need_sheep d_need_sheep
  g_need_sheep : mg "need_sheep" = some (.ref f_need_sheep)
  n_need_sheep : PySem.W.nsIn K mainGlobals "need_sheep" = some (some (.ref f_need_sheep))
  b_need_sheep : Binds K d_need_sheep ["many", "value"] []
  f_is_beginning : Addr
  d_is_beginning : FuncData
  F_is_beginning : Fun K "is_beginning" "is_beginning" s_is_beginning f_is_beginning d_is_beginning
  g_is_beginning : mg "is_beginning" = some (.ref f_is_beginning)
  n_is_beginning : PySem.W.nsIn K mainGlobals "is_beginning" = some (some (.ref f_is_beginning))
  b_is_beginning : Binds K d_is_beginning ["drill", "value"] []
  f_plain : Addr
  d_plain : FuncData
  F_plain : Fun K "plain" "plain" s_plain f_plain d_plain
  g_plain : mg "plain" = some (.ref f_plain)
  n_plain : PySem.W.nsIn K mainGlobals "plain" = some (some (.ref f_plain))
  b_plain : Binds K d_plain ["many"] []
  f_raised : Addr
  d_raised : FuncData
  F_raised : Fun K "raised" "raised" s_raised f_raised d_raised
  g_raised : mg "raised" = some (.ref f_raised)
  n_raised : PySem.W.nsIn K mainGlobals "raised" = some (some (.ref f_raised))
  b_raised : Binds K d_raised ["pair", "steps"] []
  f_joined : Addr
  d_joined : FuncData
  F_joined : Fun K "joined" "joined" s_joined f_joined d_joined
  g_joined : mg "joined" = some (.ref f_joined)
  n_joined : PySem.W.nsIn K mainGlobals "joined" = some (some (.ref f_joined))
  b_joined : Binds K d_joined ["pair", "other"] []
  f_after : Addr
  d_after : FuncData
  F_after : Fun K "after" "after" s_after f_after d_after
  g_after : mg "after" = some (.ref f_after)
  n_after : PySem.W.nsIn K mainGlobals "after" = some (some (.ref f_after))
  b_after : Binds K d_after ["found", "run", "many"] []
  f_map_of : Addr
  d_map_of : FuncData
  F_map_of : Fun K "map_of" "map_of" s_map_of f_map_of d_map_of
  g_map_of : mg "map_of" = some (.ref f_map_of)
  n_map_of : PySem.W.nsIn K mainGlobals "map_of" = some (some (.ref f_map_of))
  b_map_of : Binds K d_map_of ["drill", "many"] []
  f_deep : Addr
  d_deep : FuncData
  F_deep : Fun K "deep" "deep" s_deep f_deep d_deep
  g_deep : mg "deep" = some (.ref f_deep)
  n_deep : PySem.W.nsIn K mainGlobals "deep" = some (some (.ref f_deep))
  b_deep : Binds K d_deep ["drill", "word"] []
  f_enough : Addr
  d_enough : FuncData
  F_enough : Fun K "enough" "enough" s_enough f_enough d_enough
  g_enough : mg "enough" = some (.ref f_enough)
  n_enough : PySem.W.nsIn K mainGlobals "enough" = some (some (.ref f_enough))
  b_enough : Binds K d_enough ["drill", "other"] []
  f_room_of : Addr
  d_room_of : FuncData
  F_room_of : Fun K "room_of" "room_of" s_room_of f_room_of d_room_of
  g_room_of : mg "room_of" = some (.ref f_room_of)
  n_room_of : PySem.W.nsIn K mainGlobals "room_of" = some (some (.ref f_room_of))
  b_room_of : Binds K d_room_of ["pair", "rooms"] []
  f_terms_of : Addr
  d_terms_of : FuncData
  F_terms_of : Fun K "terms_of" "terms_of" s_terms_of f_terms_of d_terms_of
  g_terms_of : mg "terms_of" = some (.ref f_terms_of)
  n_terms_of : PySem.W.nsIn K mainGlobals "terms_of" = some (some (.ref f_terms_of))
  b_terms_of : Binds K d_terms_of ["pair"] []
  f_small : Addr
  d_small : FuncData
  F_small : Fun K "small" "small" s_small f_small d_small
  g_small : mg "small" = some (.ref f_small)
  n_small : PySem.W.nsIn K mainGlobals "small" = some (some (.ref f_small))
  b_small : Binds K d_small ["drill", "many", "sheep"] []
  f_pair_of : Addr
  d_pair_of : FuncData
  F_pair_of : Fun K "pair_of" "pair_of" s_pair_of f_pair_of d_pair_of
  g_pair_of : mg "pair_of" = some (.ref f_pair_of)
  n_pair_of : PySem.W.nsIn K mainGlobals "pair_of" = some (some (.ref f_pair_of))
  b_pair_of : Binds K d_pair_of ["drill", "many", "sheep"] []
  f_form : Addr
  d_form : FuncData
  F_form : Fun K "form" "form" s_form f_form d_form
  g_form : mg "form" = some (.ref f_form)
  n_form : PySem.W.nsIn K mainGlobals "form" = some (some (.ref f_form))
  b_form : Binds K d_form ["drill", "many", "sheep"] []
  f_moves : Addr
  d_moves : FuncData
  F_moves : Fun K "moves" "moves" s_moves f_moves d_moves
  g_moves : mg "moves" = some (.ref f_moves)
  n_moves : PySem.W.nsIn K mainGlobals "moves" = some (some (.ref f_moves))
  b_moves : Binds K d_moves ["drill", "many", "sheep"] []
  f_least_place : Addr
  d_least_place : FuncData
  F_least_place : Fun K "least_place" "least_place" s_least_place f_least_place d_least_place
  g_least_place : mg "least_place" = some (.ref f_least_place)
  n_least_place : PySem.W.nsIn K mainGlobals "least_place" = some (some (.ref f_least_place))
  b_least_place : Binds K d_least_place ["drill", "many", "sheep"] []
  f_pushed : Addr
  d_pushed : FuncData
  F_pushed : Fun K "pushed" "pushed" s_pushed f_pushed d_pushed
  g_pushed : mg "pushed" = some (.ref f_pushed)
  n_pushed : PySem.W.nsIn K mainGlobals "pushed" = some (some (.ref f_pushed))
  b_pushed : Binds K d_pushed ["gap", "places", "sheep", "steps"] []
  f_ran : Addr
  d_ran : FuncData
  F_ran : Fun K "ran" "ran" s_ran f_ran d_ran
  g_ran : mg "ran" = some (.ref f_ran)
  n_ran : PySem.W.nsIn K mainGlobals "ran" = some (some (.ref f_ran))
  b_ran : Binds K d_ran ["gap", "places", "run"] []
  f_course_of : Addr
  d_course_of : FuncData
  F_course_of : Fun K "course_of" "course_of" s_course_of f_course_of d_course_of
  g_course_of : mg "course_of" = some (.ref f_course_of)
  n_course_of : PySem.W.nsIn K mainGlobals "course_of" = some (some (.ref f_course_of))
  b_course_of : Binds K d_course_of ["drill", "beginning"] []
  f_course : Addr
  d_course : FuncData
  F_course : Fun K "course" "course" s_course f_course d_course
  g_course : mg "course" = some (.ref f_course)
  n_course : PySem.W.nsIn K mainGlobals "course" = some (some (.ref f_course))
  b_course : Binds K d_course ["drill", "beginning"] []
  f_ends : Addr
  d_ends : FuncData
  F_ends : Fun K "ends" "ends" s_ends f_ends d_ends
  g_ends : mg "ends" = some (.ref f_ends)
  n_ends : PySem.W.nsIn K mainGlobals "ends" = some (some (.ref f_ends))
  b_ends : Binds K d_ends ["drill", "beginning"] []
  f_need_both : Addr
  d_need_both : FuncData
  F_need_both : Fun K "need_both" "need_both" s_need_both f_need_both d_need_both
  g_need_both : mg "need_both" = some (.ref f_need_both)
  n_need_both : PySem.W.nsIn K mainGlobals "need_both" = some (some (.ref f_need_both))
  b_need_both : Binds K d_need_both ["one", "other"] []
  f_alike : Addr
  d_alike : FuncData
  F_alike : Fun K "alike" "alike" s_alike f_alike d_alike
  g_alike : mg "alike" = some (.ref f_alike)
  n_alike : PySem.W.nsIn K mainGlobals "alike" = some (some (.ref f_alike))
  b_alike : Binds K d_alike ["one", "other"] []
  f_parting : Addr
  d_parting : FuncData
  F_parting : Fun K "parting" "parting" s_parting f_parting d_parting
  g_parting : mg "parting" = some (.ref f_parting)
  n_parting : PySem.W.nsIn K mainGlobals "parting" = some (some (.ref f_parting))
  b_parting : Binds K d_parting ["one", "other"] []
  f_never_behind : Addr
  d_never_behind : FuncData
  F_never_behind : Fun K "never_behind" "never_behind" s_never_behind f_never_behind d_never_behind
  g_never_behind : mg "never_behind" = some (.ref f_never_behind)
  n_never_behind : PySem.W.nsIn K mainGlobals "never_behind" = some (some (.ref f_never_behind))
  b_never_behind : Binds K d_never_behind ["one", "other"] []
  f_first_behind : Addr
  d_first_behind : FuncData
  F_first_behind : Fun K "first_behind" "first_behind" s_first_behind f_first_behind d_first_behind
  g_first_behind : mg "first_behind" = some (.ref f_first_behind)
  n_first_behind : PySem.W.nsIn K mainGlobals "first_behind" = some (some (.ref f_first_behind))
  b_first_behind : Binds K d_first_behind ["one", "other"] []
  f_shortened : Addr
  d_shortened : FuncData
  F_shortened : Fun K "shortened" "shortened" s_shortened f_shortened d_shortened
  g_shortened : mg "shortened" = some (.ref f_shortened)
  n_shortened : PySem.W.nsIn K mainGlobals "shortened" = some (some (.ref f_shortened))
  b_shortened : Binds K d_shortened ["items"] []
  f_past_rows : Addr
  d_past_rows : FuncData
  F_past_rows : Fun K "past_rows" "past_rows" s_past_rows f_past_rows d_past_rows
  g_past_rows : mg "past_rows" = some (.ref f_past_rows)
  n_past_rows : PySem.W.nsIn K mainGlobals "past_rows" = some (some (.ref f_past_rows))
  b_past_rows : Binds K d_past_rows ["drill", "post"] []
  f_parts_here : Addr
  d_parts_here : FuncData
  F_parts_here : Fun K "parts_here" "parts_here" s_parts_here f_parts_here d_parts_here
  g_parts_here : mg "parts_here" = some (.ref f_parts_here)
  n_parts_here : PySem.W.nsIn K mainGlobals "parts_here" = some (some (.ref f_parts_here))
  b_parts_here : Binds K d_parts_here ["drill", "many", "sheep"] []
  f_parted_of : Addr
  d_parted_of : FuncData
  F_parted_of : Fun K "parted_of" "parted_of" s_parted_of f_parted_of d_parted_of
  g_parted_of : mg "parted_of" = some (.ref f_parted_of)
  n_parted_of : PySem.W.nsIn K mainGlobals "parted_of" = some (some (.ref f_parted_of))
  b_parted_of : Binds K d_parted_of ["drill", "many"] []
  f_parted : Addr
  d_parted : FuncData
  F_parted : Fun K "parted" "parted" s_parted f_parted d_parted
  g_parted : mg "parted" = some (.ref f_parted)
  n_parted : PySem.W.nsIn K mainGlobals "parted" = some (some (.ref f_parted))
  b_parted : Binds K d_parted ["drill", "many"] []
  f_never_parted : Addr
  d_never_parted : FuncData
  F_never_parted : Fun K "never_parted" "never_parted" s_never_parted f_never_parted d_never_parted
  g_never_parted : mg "never_parted" = some (.ref f_never_parted)
  n_never_parted : PySem.W.nsIn K mainGlobals "never_parted" = some (some (.ref f_never_parted))
  b_never_parted : Binds K d_never_parted ["drill"] []
  f_idle : Addr
  d_idle : FuncData
  F_idle : Fun K "idle" "idle" s_idle f_idle d_idle
  g_idle : mg "idle" = some (.ref f_idle)
  n_idle : PySem.W.nsIn K mainGlobals "idle" = some (some (.ref f_idle))
  b_idle : Binds K d_idle ["drill"] []
  f_swaps : Addr
  d_swaps : FuncData
  F_swaps : Fun K "swaps" "swaps" s_swaps f_swaps d_swaps
  g_swaps : mg "swaps" = some (.ref f_swaps)
  n_swaps : PySem.W.nsIn K mainGlobals "swaps" = some (some (.ref f_swaps))
  b_swaps : Binds K d_swaps ["drill"] []
  f_shortest : Addr
  d_shortest : FuncData
  F_shortest : Fun K "shortest" "shortest" s_shortest f_shortest d_shortest
  g_shortest : mg "shortest" = some (.ref f_shortest)
  n_shortest : PySem.W.nsIn K mainGlobals "shortest" = some (some (.ref f_shortest))
  b_shortest : Binds K d_shortest ["drill"] []
  f_rooms_of : Addr
  d_rooms_of : FuncData
  F_rooms_of : Fun K "rooms_of" "rooms_of" s_rooms_of f_rooms_of d_rooms_of
  g_rooms_of : mg "rooms_of" = some (.ref f_rooms_of)
  n_rooms_of : PySem.W.nsIn K mainGlobals "rooms_of" = some (some (.ref f_rooms_of))
  b_rooms_of : Binds K d_rooms_of ["gap", "places"] []
  f_leads : Addr
  d_leads : FuncData
  F_leads : Fun K "leads" "leads" s_leads f_leads d_leads
  g_leads : mg "leads" = some (.ref f_leads)
  n_leads : PySem.W.nsIn K mainGlobals "leads" = some (some (.ref f_leads))
  b_leads : Binds K d_leads ["found", "rooms", "due"] []
  f_greatest : Addr
  d_greatest : FuncData
  F_greatest : Fun K "greatest" "greatest" s_greatest f_greatest d_greatest
  g_greatest : mg "greatest" = some (.ref f_greatest)
  n_greatest : PySem.W.nsIn K mainGlobals "greatest" = some (some (.ref f_greatest))
  b_greatest : Binds K d_greatest ["found", "due"] []
  f_least_room : Addr
  d_least_room : FuncData
  F_least_room : Fun K "least_room" "least_room" s_least_room f_least_room d_least_room
  g_least_room : mg "least_room" = some (.ref f_least_room)
  n_least_room : PySem.W.nsIn K mainGlobals "least_room" = some (some (.ref f_least_room))
  b_least_room : Binds K d_least_room ["found", "rooms", "due", "sheep"] []
  f_bounds_of : Addr
  d_bounds_of : FuncData
  F_bounds_of : Fun K "bounds_of" "bounds_of" s_bounds_of f_bounds_of d_bounds_of
  g_bounds_of : mg "bounds_of" = some (.ref f_bounds_of)
  n_bounds_of : PySem.W.nsIn K mainGlobals "bounds_of" = some (some (.ref f_bounds_of))
  b_bounds_of : Binds K d_bounds_of ["drill", "ends"] []
  f_bounds : Addr
  d_bounds : FuncData
  F_bounds : Fun K "bounds" "bounds" s_bounds f_bounds d_bounds
  g_bounds : mg "bounds" = some (.ref f_bounds)
  n_bounds : PySem.W.nsIn K mainGlobals "bounds" = some (some (.ref f_bounds))
  b_bounds : Binds K d_bounds ["drill", "ends"] []
  f_greatest_beginning : Addr
  d_greatest_beginning : FuncData
  F_greatest_beginning : Fun K "greatest_beginning" "greatest_beginning" s_greatest_beginning f_greatest_beginning d_greatest_beginning
  g_greatest_beginning : mg "greatest_beginning" = some (.ref f_greatest_beginning)
  n_greatest_beginning : PySem.W.nsIn K mainGlobals "greatest_beginning" = some (some (.ref f_greatest_beginning))
  b_greatest_beginning : Binds K d_greatest_beginning ["drill", "ends"] []
  f_drill_text : Addr
  d_drill_text : FuncData
  F_drill_text : Fun K "drill_text" "drill_text" s_drill_text f_drill_text d_drill_text
  g_drill_text : mg "drill_text" = some (.ref f_drill_text)
  n_drill_text : PySem.W.nsIn K mainGlobals "drill_text" = some (some (.ref f_drill_text))
  b_drill_text : Binds K d_drill_text ["drill"] []
  f_l_cart_of : Addr
  d_l_cart_of : FuncData
  F_l_cart_of : Fun K "_law_cart_of" "_law_cart_of" s_l_cart_of f_l_cart_of d_l_cart_of
  g_l_cart_of : mg "_law_cart_of" = some (.ref f_l_cart_of)
  n_l_cart_of : PySem.W.nsIn K mainGlobals "_law_cart_of" = some (some (.ref f_l_cart_of))
  b_l_cart_of : Binds K d_l_cart_of ["_law_script", "_law_k"] []
  f_l_take : Addr
  d_l_take : FuncData
  F_l_take : Fun K "_law_take" "_law_take" s_l_take f_l_take d_l_take
  g_l_take : mg "_law_take" = some (.ref f_l_take)
  n_l_take : PySem.W.nsIn K mainGlobals "_law_take" = some (some (.ref f_l_take))
  b_l_take : Binds K d_l_take ["_law_cart", "_law_many"] []
  f_l_any : Addr
  d_l_any : FuncData
  F_l_any : Fun K "_law_any" "_law_any" s_l_any f_l_any d_l_any
  g_l_any : mg "_law_any" = some (.ref f_l_any)
  n_l_any : PySem.W.nsIn K mainGlobals "_law_any" = some (some (.ref f_l_any))
  b_l_any : Binds K d_l_any ["_law_cart", "_law_things"] []
  f_l_deed : Addr
  d_l_deed : FuncData
  F_l_deed : Fun K "_law_deed" "_law_deed" s_l_deed f_l_deed d_l_deed
  g_l_deed : mg "_law_deed" = some (.ref f_l_deed)
  n_l_deed : PySem.W.nsIn K mainGlobals "_law_deed" = some (some (.ref f_l_deed))
  b_l_deed : Binds K d_l_deed ["_law_cart", "_law_wide"] []
  f_l_deeds : Addr
  d_l_deeds : FuncData
  F_l_deeds : Fun K "_law_deeds" "_law_deeds" s_l_deeds f_l_deeds d_l_deeds
  g_l_deeds : mg "_law_deeds" = some (.ref f_l_deeds)
  n_l_deeds : PySem.W.nsIn K mainGlobals "_law_deeds" = some (some (.ref f_l_deeds))
  b_l_deeds : Binds K d_l_deeds ["_law_cart", "_law_most", "_law_wide"] []
  f_l_work : Addr
  d_l_work : FuncData
  F_l_work : Fun K "_law_work" "_law_work" s_l_work f_l_work d_l_work
  g_l_work : mg "_law_work" = some (.ref f_l_work)
  n_l_work : PySem.W.nsIn K mainGlobals "_law_work" = some (some (.ref f_l_work))
  b_l_work : Binds K d_l_work ["_law_cart", "_law_most"] []
  f_l_at : Addr
  d_l_at : FuncData
  F_l_at : Fun K "_law_at" "_law_at" s_l_at f_l_at d_l_at
  g_l_at : mg "_law_at" = some (.ref f_l_at)
  n_l_at : PySem.W.nsIn K mainGlobals "_law_at" = some (some (.ref f_l_at))
  b_l_at : Binds K d_l_at ["_law_gap", "_law_rooms"] []
  f_l_word : Addr
  d_l_word : FuncData
  F_l_word : Fun K "_law_word" "_law_word" s_l_word f_l_word d_l_word
  g_l_word : mg "_law_word" = some (.ref f_l_word)
  n_l_word : PySem.W.nsIn K mainGlobals "_law_word" = some (some (.ref f_l_word))
  b_l_word : Binds K d_l_word ["_law_call"] []
  f_l_first_calls : Addr
  d_l_first_calls : FuncData
  F_l_first_calls : Fun K "_law_first_calls" "_law_first_calls" s_l_first_calls f_l_first_calls d_l_first_calls
  g_l_first_calls : mg "_law_first_calls" = some (.ref f_l_first_calls)
  n_l_first_calls : PySem.W.nsIn K mainGlobals "_law_first_calls" = some (some (.ref f_l_first_calls))
  b_l_first_calls : Binds K d_l_first_calls ["_law_work_here"] []
  c_l_first_calls : Addr
  P_l_first_calls : Addr
  (o1_l_first_calls o2_l_first_calls o3_l_first_calls o4_l_first_calls o5_l_first_calls : Value)
  (u1_l_first_calls u2_l_first_calls : Option Addr)
  us_l_first_calls : Array (Option Value)
  lk_l_first_calls : K.lookup f_l_first_calls = some ⟨o1_l_first_calls, u1_l_first_calls, .func (PySem.W.fnOf "_law_first_calls" "_law_first_calls" (defArgs s_l_first_calls) (defBody s_l_first_calls) (defScope s_l_first_calls) .none o2_l_first_calls o3_l_first_calls o4_l_first_calls u2_l_first_calls (.ref c_l_first_calls) o5_l_first_calls), us_l_first_calls⟩
  cd_l_first_calls : PySem.W.codeIn K (.ref c_l_first_calls) "_law_first_calls" = true
  db_l_first_calls : d_l_first_calls = PySem.W.fnOf "_law_first_calls" "_law_first_calls" (defArgs s_l_first_calls) (defBody s_l_first_calls) (defScope s_l_first_calls) .none o2_l_first_calls o3_l_first_calls o4_l_first_calls u2_l_first_calls (.ref c_l_first_calls) o5_l_first_calls
  tm_l_first_calls : (P_l_first_calls, (("_law_first_calls" : Str) ++ ".<locals>." ++ "<lambda>")) ∈ tabsOf K
  tu_l_first_calls : ∀ p ∈ tabsOf K, p.1 = P_l_first_calls → p.2 = (("_law_first_calls" : Str) ++ ".<locals>." ++ "<lambda>")
  f_l_pair_calls : Addr
  d_l_pair_calls : FuncData
  F_l_pair_calls : Fun K "_law_pair_calls" "_law_pair_calls" s_l_pair_calls f_l_pair_calls d_l_pair_calls
  g_l_pair_calls : mg "_law_pair_calls" = some (.ref f_l_pair_calls)
  n_l_pair_calls : PySem.W.nsIn K mainGlobals "_law_pair_calls" = some (some (.ref f_l_pair_calls))
  b_l_pair_calls : Binds K d_l_pair_calls ["_law_one", "_law_other"] []
  c_l_pair_calls : Addr
  P_l_pair_calls : Addr
  (o1_l_pair_calls o2_l_pair_calls o3_l_pair_calls o4_l_pair_calls o5_l_pair_calls : Value)
  (u1_l_pair_calls u2_l_pair_calls : Option Addr)
  us_l_pair_calls : Array (Option Value)
  lk_l_pair_calls : K.lookup f_l_pair_calls = some ⟨o1_l_pair_calls, u1_l_pair_calls, .func (PySem.W.fnOf "_law_pair_calls" "_law_pair_calls" (defArgs s_l_pair_calls) (defBody s_l_pair_calls) (defScope s_l_pair_calls) .none o2_l_pair_calls o3_l_pair_calls o4_l_pair_calls u2_l_pair_calls (.ref c_l_pair_calls) o5_l_pair_calls), us_l_pair_calls⟩
  cd_l_pair_calls : PySem.W.codeIn K (.ref c_l_pair_calls) "_law_pair_calls" = true
  db_l_pair_calls : d_l_pair_calls = PySem.W.fnOf "_law_pair_calls" "_law_pair_calls" (defArgs s_l_pair_calls) (defBody s_l_pair_calls) (defScope s_l_pair_calls) .none o2_l_pair_calls o3_l_pair_calls o4_l_pair_calls u2_l_pair_calls (.ref c_l_pair_calls) o5_l_pair_calls
  tm_l_pair_calls : (P_l_pair_calls, (("_law_pair_calls" : Str) ++ ".<locals>." ++ "<lambda>")) ∈ tabsOf K
  tu_l_pair_calls : ∀ p ∈ tabsOf K, p.1 = P_l_pair_calls → p.2 = (("_law_pair_calls" : Str) ++ ".<locals>." ++ "<lambda>")
  f_l_place_calls : Addr
  d_l_place_calls : FuncData
  F_l_place_calls : Fun K "_law_place_calls" "_law_place_calls" s_l_place_calls f_l_place_calls d_l_place_calls
  g_l_place_calls : mg "_law_place_calls" = some (.ref f_l_place_calls)
  n_l_place_calls : PySem.W.nsIn K mainGlobals "_law_place_calls" = some (some (.ref f_l_place_calls))
  b_l_place_calls : Binds K d_l_place_calls ["_law_work_here", "_law_places"] []
  c_l_place_calls : Addr
  P_l_place_calls : Addr
  (o1_l_place_calls o2_l_place_calls o3_l_place_calls o4_l_place_calls o5_l_place_calls : Value)
  (u1_l_place_calls u2_l_place_calls : Option Addr)
  us_l_place_calls : Array (Option Value)
  lk_l_place_calls : K.lookup f_l_place_calls = some ⟨o1_l_place_calls, u1_l_place_calls, .func (PySem.W.fnOf "_law_place_calls" "_law_place_calls" (defArgs s_l_place_calls) (defBody s_l_place_calls) (defScope s_l_place_calls) .none o2_l_place_calls o3_l_place_calls o4_l_place_calls u2_l_place_calls (.ref c_l_place_calls) o5_l_place_calls), us_l_place_calls⟩
  cd_l_place_calls : PySem.W.codeIn K (.ref c_l_place_calls) "_law_place_calls" = true
  db_l_place_calls : d_l_place_calls = PySem.W.fnOf "_law_place_calls" "_law_place_calls" (defArgs s_l_place_calls) (defBody s_l_place_calls) (defScope s_l_place_calls) .none o2_l_place_calls o3_l_place_calls o4_l_place_calls u2_l_place_calls (.ref c_l_place_calls) o5_l_place_calls
  tm_l_place_calls : (P_l_place_calls, (("_law_place_calls" : Str) ++ ".<locals>." ++ "<lambda>")) ∈ tabsOf K
  tu_l_place_calls : ∀ p ∈ tabsOf K, p.1 = P_l_place_calls → p.2 = (("_law_place_calls" : Str) ++ ".<locals>." ++ "<lambda>")
  f_l_many_calls : Addr
  d_l_many_calls : FuncData
  F_l_many_calls : Fun K "_law_many_calls" "_law_many_calls" s_l_many_calls f_l_many_calls d_l_many_calls
  g_l_many_calls : mg "_law_many_calls" = some (.ref f_l_many_calls)
  n_l_many_calls : PySem.W.nsIn K mainGlobals "_law_many_calls" = some (some (.ref f_l_many_calls))
  b_l_many_calls : Binds K d_l_many_calls ["_law_work_here", "_law_many", "_law_sheep"] []
  c_l_many_calls : Addr
  P_l_many_calls : Addr
  (o1_l_many_calls o2_l_many_calls o3_l_many_calls o4_l_many_calls o5_l_many_calls : Value)
  (u1_l_many_calls u2_l_many_calls : Option Addr)
  us_l_many_calls : Array (Option Value)
  lk_l_many_calls : K.lookup f_l_many_calls = some ⟨o1_l_many_calls, u1_l_many_calls, .func (PySem.W.fnOf "_law_many_calls" "_law_many_calls" (defArgs s_l_many_calls) (defBody s_l_many_calls) (defScope s_l_many_calls) .none o2_l_many_calls o3_l_many_calls o4_l_many_calls u2_l_many_calls (.ref c_l_many_calls) o5_l_many_calls), us_l_many_calls⟩
  cd_l_many_calls : PySem.W.codeIn K (.ref c_l_many_calls) "_law_many_calls" = true
  db_l_many_calls : d_l_many_calls = PySem.W.fnOf "_law_many_calls" "_law_many_calls" (defArgs s_l_many_calls) (defBody s_l_many_calls) (defScope s_l_many_calls) .none o2_l_many_calls o3_l_many_calls o4_l_many_calls u2_l_many_calls (.ref c_l_many_calls) o5_l_many_calls
  tm_l_many_calls : (P_l_many_calls, (("_law_many_calls" : Str) ++ ".<locals>." ++ "<lambda>")) ∈ tabsOf K
  tu_l_many_calls : ∀ p ∈ tabsOf K, p.1 = P_l_many_calls → p.2 = (("_law_many_calls" : Str) ++ ".<locals>." ++ "<lambda>")
  f_l_all_words : Addr
  d_l_all_words : FuncData
  F_l_all_words : Fun K "_law_all_words" "_law_all_words" s_l_all_words f_l_all_words d_l_all_words
  g_l_all_words : mg "_law_all_words" = some (.ref f_l_all_words)
  n_l_all_words : PySem.W.nsIn K mainGlobals "_law_all_words" = some (some (.ref f_l_all_words))
  b_l_all_words : Binds K d_l_all_words ["_law_calls", "_law_word_here"] []
  f_law : Addr
  d_law : FuncData
  F_law : Fun K "law" "law" s_law f_law d_law
  g_law : mg "law" = some (.ref f_law)
  n_law : PySem.W.nsIn K mainGlobals "law" = some (some (.ref f_law))
  b_law : Binds K d_law ["_law_script"] []
  c_law : Addr
  P_law : Addr
  (o1_law o2_law o3_law o4_law o5_law : Value)
  (u1_law u2_law : Option Addr)
  us_law : Array (Option Value)
  lk_law : K.lookup f_law = some ⟨o1_law, u1_law, .func (PySem.W.fnOf "law" "law" (defArgs s_law) (defBody s_law) (defScope s_law) .none o2_law o3_law o4_law u2_law (.ref c_law) o5_law), us_law⟩
  cd_law : PySem.W.codeIn K (.ref c_law) "law" = true
  tm_law : (P_law, (("law" : Str) ++ ".<locals>." ++ "<lambda>")) ∈ tabsOf K
  tu_law : ∀ p ∈ tabsOf K, p.1 = P_law → p.2 = (("law" : Str) ++ ".<locals>." ++ "<lambda>")
  C_InvalidDrill : Addr
  e_InvalidDrill : ExcC K mg "InvalidDrill" C_InvalidDrill
  C_InvalidBeginning : Addr
  e_InvalidBeginning : ExcC K mg "InvalidBeginning" C_InvalidBeginning
  C_InvalidMany : Addr
  e_InvalidMany : ExcC K mg "InvalidMany" C_InvalidMany
  C_InvalidSheep : Addr
  e_InvalidSheep : ExcC K mg "InvalidSheep" C_InvalidSheep
  C_Unlike : Addr
  e_Unlike : ExcC K mg "Unlike" C_Unlike
  C_InvalidPlace : Addr
  e_InvalidPlace : ExcC K mg "InvalidPlace" C_InvalidPlace
  C_InvalidRun : Addr
  e_InvalidRun : ExcC K mg "InvalidRun" C_InvalidRun
  C_InvalidIndex : Addr
  e_InvalidIndex : ExcC K mg "InvalidIndex" C_InvalidIndex
  C_NothingToUndo : Addr
  e_NothingToUndo : ExcC K mg "NothingToUndo" C_NothingToUndo
  C_DogError : Addr
  e_DogError : ExcC K mg "DogError" C_DogError
  C_TooMany : Addr
  c_TooMany : mg "TooMany" = some (.ref C_TooMany)
  C_InvalidText : Addr
  c_InvalidText : mg "InvalidText" = some (.ref C_InvalidText)
  n_TooMany : PySem.W.nsIn K mainGlobals "TooMany" = some (some (.ref C_TooMany))
  n_InvalidText : PySem.W.nsIn K mainGlobals "InvalidText" = some (some (.ref C_InvalidText))
  FA : ∀ q ∈ fldN, ∀ C, PySem.W.nsIn K mainGlobals q.1 = some (some (.ref C)) → XfC K C ∧ PySem.W.findIn K (.ref C) q.2 = some none
  x_InvalidDrill_InvalidDrill : PySem.W.exmOne K (.ref C_InvalidDrill) (.ref C_InvalidDrill) = some true
  x_InvalidDrill_InvalidBeginning : PySem.W.exmOne K (.ref C_InvalidDrill) (.ref C_InvalidBeginning) = some false
  x_InvalidDrill_InvalidMany : PySem.W.exmOne K (.ref C_InvalidDrill) (.ref C_InvalidMany) = some false
  x_InvalidDrill_InvalidSheep : PySem.W.exmOne K (.ref C_InvalidDrill) (.ref C_InvalidSheep) = some false
  x_InvalidDrill_InvalidPlace : PySem.W.exmOne K (.ref C_InvalidDrill) (.ref C_InvalidPlace) = some false
  x_InvalidDrill_InvalidRun : PySem.W.exmOne K (.ref C_InvalidDrill) (.ref C_InvalidRun) = some false
  x_InvalidDrill_InvalidIndex : PySem.W.exmOne K (.ref C_InvalidDrill) (.ref C_InvalidIndex) = some false
  x_InvalidDrill_Unlike : PySem.W.exmOne K (.ref C_InvalidDrill) (.ref C_Unlike) = some false
  x_InvalidDrill_NothingToUndo : PySem.W.exmOne K (.ref C_InvalidDrill) (.ref C_NothingToUndo) = some false
  x_InvalidDrill_DogError : PySem.W.exmOne K (.ref C_InvalidDrill) (.ref C_DogError) = some true
  x_InvalidDrill_TooMany : PySem.W.exmOne K (.ref C_InvalidDrill) (.ref C_TooMany) = some false
  x_InvalidDrill_InvalidText : PySem.W.exmOne K (.ref C_InvalidDrill) (.ref C_InvalidText) = some false
  x_InvalidBeginning_InvalidDrill : PySem.W.exmOne K (.ref C_InvalidBeginning) (.ref C_InvalidDrill) = some false
  x_InvalidBeginning_InvalidBeginning : PySem.W.exmOne K (.ref C_InvalidBeginning) (.ref C_InvalidBeginning) = some true
  x_InvalidBeginning_InvalidMany : PySem.W.exmOne K (.ref C_InvalidBeginning) (.ref C_InvalidMany) = some false
  x_InvalidBeginning_InvalidSheep : PySem.W.exmOne K (.ref C_InvalidBeginning) (.ref C_InvalidSheep) = some false
  x_InvalidBeginning_InvalidPlace : PySem.W.exmOne K (.ref C_InvalidBeginning) (.ref C_InvalidPlace) = some false
  x_InvalidBeginning_InvalidRun : PySem.W.exmOne K (.ref C_InvalidBeginning) (.ref C_InvalidRun) = some false
  x_InvalidBeginning_InvalidIndex : PySem.W.exmOne K (.ref C_InvalidBeginning) (.ref C_InvalidIndex) = some false
  x_InvalidBeginning_Unlike : PySem.W.exmOne K (.ref C_InvalidBeginning) (.ref C_Unlike) = some false
  x_InvalidBeginning_NothingToUndo : PySem.W.exmOne K (.ref C_InvalidBeginning) (.ref C_NothingToUndo) = some false
  x_InvalidBeginning_DogError : PySem.W.exmOne K (.ref C_InvalidBeginning) (.ref C_DogError) = some true
  x_InvalidBeginning_TooMany : PySem.W.exmOne K (.ref C_InvalidBeginning) (.ref C_TooMany) = some false
  x_InvalidBeginning_InvalidText : PySem.W.exmOne K (.ref C_InvalidBeginning) (.ref C_InvalidText) = some false
  x_InvalidMany_InvalidDrill : PySem.W.exmOne K (.ref C_InvalidMany) (.ref C_InvalidDrill) = some false
  x_InvalidMany_InvalidBeginning : PySem.W.exmOne K (.ref C_InvalidMany) (.ref C_InvalidBeginning) = some false
  x_InvalidMany_InvalidMany : PySem.W.exmOne K (.ref C_InvalidMany) (.ref C_InvalidMany) = some true
  x_InvalidMany_InvalidSheep : PySem.W.exmOne K (.ref C_InvalidMany) (.ref C_InvalidSheep) = some false
  x_InvalidMany_InvalidPlace : PySem.W.exmOne K (.ref C_InvalidMany) (.ref C_InvalidPlace) = some false
  x_InvalidMany_InvalidRun : PySem.W.exmOne K (.ref C_InvalidMany) (.ref C_InvalidRun) = some false
  x_InvalidMany_InvalidIndex : PySem.W.exmOne K (.ref C_InvalidMany) (.ref C_InvalidIndex) = some false
  x_InvalidMany_Unlike : PySem.W.exmOne K (.ref C_InvalidMany) (.ref C_Unlike) = some false
  x_InvalidMany_NothingToUndo : PySem.W.exmOne K (.ref C_InvalidMany) (.ref C_NothingToUndo) = some false
  x_InvalidMany_DogError : PySem.W.exmOne K (.ref C_InvalidMany) (.ref C_DogError) = some true
  x_InvalidMany_TooMany : PySem.W.exmOne K (.ref C_InvalidMany) (.ref C_TooMany) = some false
  x_InvalidMany_InvalidText : PySem.W.exmOne K (.ref C_InvalidMany) (.ref C_InvalidText) = some false
  x_InvalidSheep_InvalidDrill : PySem.W.exmOne K (.ref C_InvalidSheep) (.ref C_InvalidDrill) = some false
  x_InvalidSheep_InvalidBeginning : PySem.W.exmOne K (.ref C_InvalidSheep) (.ref C_InvalidBeginning) = some false
  x_InvalidSheep_InvalidMany : PySem.W.exmOne K (.ref C_InvalidSheep) (.ref C_InvalidMany) = some false
  x_InvalidSheep_InvalidSheep : PySem.W.exmOne K (.ref C_InvalidSheep) (.ref C_InvalidSheep) = some true
  x_InvalidSheep_InvalidPlace : PySem.W.exmOne K (.ref C_InvalidSheep) (.ref C_InvalidPlace) = some false
  x_InvalidSheep_InvalidRun : PySem.W.exmOne K (.ref C_InvalidSheep) (.ref C_InvalidRun) = some false
  x_InvalidSheep_InvalidIndex : PySem.W.exmOne K (.ref C_InvalidSheep) (.ref C_InvalidIndex) = some false
  x_InvalidSheep_Unlike : PySem.W.exmOne K (.ref C_InvalidSheep) (.ref C_Unlike) = some false
  x_InvalidSheep_NothingToUndo : PySem.W.exmOne K (.ref C_InvalidSheep) (.ref C_NothingToUndo) = some false
  x_InvalidSheep_DogError : PySem.W.exmOne K (.ref C_InvalidSheep) (.ref C_DogError) = some true
  x_InvalidSheep_TooMany : PySem.W.exmOne K (.ref C_InvalidSheep) (.ref C_TooMany) = some false
  x_InvalidSheep_InvalidText : PySem.W.exmOne K (.ref C_InvalidSheep) (.ref C_InvalidText) = some false
  x_Unlike_InvalidDrill : PySem.W.exmOne K (.ref C_Unlike) (.ref C_InvalidDrill) = some false
  x_Unlike_InvalidBeginning : PySem.W.exmOne K (.ref C_Unlike) (.ref C_InvalidBeginning) = some false
  x_Unlike_InvalidMany : PySem.W.exmOne K (.ref C_Unlike) (.ref C_InvalidMany) = some false
  x_Unlike_InvalidSheep : PySem.W.exmOne K (.ref C_Unlike) (.ref C_InvalidSheep) = some false
  x_Unlike_InvalidPlace : PySem.W.exmOne K (.ref C_Unlike) (.ref C_InvalidPlace) = some false
  x_Unlike_InvalidRun : PySem.W.exmOne K (.ref C_Unlike) (.ref C_InvalidRun) = some false
  x_Unlike_InvalidIndex : PySem.W.exmOne K (.ref C_Unlike) (.ref C_InvalidIndex) = some false
  x_Unlike_Unlike : PySem.W.exmOne K (.ref C_Unlike) (.ref C_Unlike) = some true
  x_Unlike_NothingToUndo : PySem.W.exmOne K (.ref C_Unlike) (.ref C_NothingToUndo) = some false
  x_Unlike_DogError : PySem.W.exmOne K (.ref C_Unlike) (.ref C_DogError) = some true
  x_Unlike_TooMany : PySem.W.exmOne K (.ref C_Unlike) (.ref C_TooMany) = some false
  x_Unlike_InvalidText : PySem.W.exmOne K (.ref C_Unlike) (.ref C_InvalidText) = some false
  t_GREAT : Tok
  g_GREAT : mg "GREAT" = some (.int 1000000000000000000000000000000 t_GREAT)
  t_FAR : Tok
  g_FAR : mg "FAR" = some (.int 1000000000000 t_FAR)
  t_MOST_RUNS : Tok
  g_MOST_RUNS : mg "MOST_RUNS" = some (.int 8 t_MOST_RUNS)
  t_MOST_SHEEP : Tok
  g_MOST_SHEEP : mg "MOST_SHEEP" = some (.int 40 t_MOST_SHEEP)
  t_WIDEST : Tok
  g_WIDEST : mg "WIDEST" = some (.int 9 t_WIDEST)
  t_DEEPEST : Tok
  g_DEEPEST : mg "DEEPEST" = some (.int 3 t_DEEPEST)
  z_abs : mg "abs" = none
  z_bool : mg "bool" = none
  z_enumerate : mg "enumerate" = none
  z_int : mg "int" = none
  z_isinstance : mg "isinstance" = none
  z_len : mg "len" = none
  z_list : mg "list" = none
  z_max : mg "max" = none
  z_min : mg "min" = none
  z_range : mg "range" = none
  z_str : mg "str" = none
  z_tuple : mg "tuple" = none
  z_zip : mg "zip" = none
section
variable {P : Program} {w : World} {K : PySem.W.Frag} {mg : Str → Option Value} {base : Heap}
theorem hu65 {A : Around} {k : Nat} (hr : Room k A) : A.units + 65 < cLine := by have := hr.un; omega
theorem ok_is_int (M : Md K mg) : FnOk P w K mg base (L2.CX P w) 1 M.f_is_int M.d_is_int ["value", "low", "high"] (spD K 3 S_is_int) :=
  fn_D M.F_is_int sc_is_int rfl (fun cdv A outer s H E hr => (dss_one (ds_ret (dl_dat (de_and (de_cb call_isi c_isi M.z_isinstance bt_isinstance (da_cons (dl_dat (de_var 0)) (da_cons (dl_dat (de_ty M.z_int bt_int)) da_nil))) (de_and (de_not (de_cb call_isi c_isi M.z_isinstance bt_isinstance (da_cons (dl_dat (de_var 0)) (da_cons (dl_dat (de_ty M.z_bool bt_bool)) da_nil)))) (de_one (de_chain op_le op_le g_le g_le (de_var 1) (de_var 0) (de_var 2))))))))) h_is_int
theorem ok_plain (M : Md K mg) : FnOk P w K mg base (L2.CX P w) 1 M.f_plain M.d_plain ["many"] (spD K 1 S_plain) :=
  fn_D M.F_plain sc_plain rfl (fun cdv A outer s H E hr => (dss_one (ds_ret (dl_dat (de_comp (own := [("at", 1)]) rfl sc_plain.nd (di_range1 M.z_range (da_cons (dl_dat (de_var 0)) da_nil)) (by kernel_rfl) (fun _ _ _ _ _ => (dg_name 1 sc_plain.nd)) (fun _ _ _ _ _ => dts_nil) (fun _ _ _ _ _ => (de_tup (da_cons (dl_dat de_int) (da_cons (dl_dat (de_bin op_mulB g_mulB (de_tup (da_cons (dl_dat de_int) da_nil)) (de_bin op_addA g_add (de_var 1) de_int))) da_nil))))))))) h_plain
theorem ok_raised (M : Md K mg) : FnOk P w K mg base (L2.CX P w) 1 M.f_raised M.d_raised ["pair", "steps"] (spD K 2 S_raised) :=
  fn_D M.F_raised sc_raised rfl (fun cdv A outer s H E hr => (dss_one (ds_ret (dl_dat (de_tup (da_cons (dl_dat (de_bin op_addA g_add (de_ix (de_var 0) de_int) (de_var 1))) (da_cons (dl_dat (de_cty call_tuple_of c_tuple M.z_tuple bt_tuple (da_cons (dl_dat (de_comp (own := [("more", 2)]) rfl sc_raised.nd (di_seq (de_ix (de_var 0) de_int)) (by kernel_rfl) (fun _ _ _ _ _ => (dg_name 2 sc_raised.nd)) (fun _ _ _ _ _ => dts_nil) (fun _ _ _ _ _ => (de_bin op_addA g_add (de_var 2) (de_var 1))))) da_nil))) da_nil))))))) h_raised
theorem ok_joined (M : Md K mg) : FnOk P w K mg base (L2.CX P w) 1 M.f_joined M.d_joined ["pair", "other"] (spD K 2 S_joined) :=
  fn_D M.F_joined sc_joined rfl (fun cdv A outer s H E hr => (dss_cons (ds_setC (own := [("at", 3), ("more", 4)]) 2 rfl sc_joined.nd (di_enum M.z_enumerate (da_cons (dl_dat (de_ix (de_var 1) de_int)) da_nil)) (by kernel_rfl) (fun _ _ _ _ _ => (dg_tup rfl (dgs_cons (dg_name 3 sc_joined.nd) (dgs_cons (dg_name 4 sc_joined.nd) dgs_nil)))) (fun _ _ _ _ _ => dts_nil) (fun _ _ _ _ _ => (de_cb (call_max2 rfl) c_max2 M.z_max bt_max (da_cons (dl_dat (de_var 4)) (da_cons (dl_dat (de_ix (de_ix (de_var 0) de_int) (de_var 3))) da_nil)))))
  (dss_one (ds_ret (dl_dat (de_tup (da_cons (dl_dat (de_cb (call_max2 rfl) c_max2 M.z_max bt_max (da_cons (dl_dat (de_ix (de_var 0) de_int)) (da_cons (dl_dat (de_ix (de_var 1) de_int)) da_nil)))) (da_cons (dl_dat (de_bin op_addA g_add (de_cty call_tuple_of c_tuple M.z_tuple bt_tuple (da_cons (dl_dat (de_var 2)) da_nil)) (de_sl (de_ix (de_var 0) de_int) (do_some (de_len M.z_len (da_cons (dl_dat (de_ix (de_var 1) de_int)) da_nil))) do_none))) da_nil)))))))) h_joined
theorem ok_deep (M : Md K mg) : FnOk P w K mg base (L2.CX P w) 1 M.f_deep M.d_deep ["drill", "word"] (spD K 2 S_deep) :=
  fn_D M.F_deep sc_deep rfl (fun cdv A outer s H E hr => (dss_one (ds_ret (dl_dat (de_maxd rfl M.z_max (da_cons (dl_dat (de_comp (own := [("run", 2)]) rfl sc_deep.nd (di_seq (de_ix (de_var 0) de_int)) (by kernel_rfl) (fun _ _ _ _ _ => (dg_name 2 sc_deep.nd)) (fun _ _ _ _ _ => (dts_one (dt_cmp (op_eqP hr.units) g_eq (de_ix (de_var 2) de_int) (de_var 1) (nomark _)))) (fun _ _ _ _ _ => (de_bin op_addA g_add (de_ix (de_var 2) de_int) de_int)))) da_nil) de_int))))) h_deep
theorem ok_room_of (M : Md K mg) : FnOk P w K mg base (L2.CX P w) 1 M.f_room_of M.d_room_of ["pair", "rooms"] (spD K 2 S_room_of) :=
  fn_D M.F_room_of sc_room_of rfl (fun cdv A outer s H E hr => (dss_one (ds_ret (dl_dat (de_cb (cr_max rfl) c_max M.z_max bt_max (da_cons (dl_dat (de_bin op_addA g_add (de_lst (da_cons (dl_dat (de_ix (de_var 0) de_int)) da_nil)) (de_comp (own := [("at", 2), ("more", 3)]) rfl sc_room_of.nd (di_enum M.z_enumerate (da_cons (dl_dat (de_ix (de_var 0) de_int)) da_nil)) (by kernel_rfl) (fun _ _ _ _ _ => (dg_tup rfl (dgs_cons (dg_name 2 sc_room_of.nd) (dgs_cons (dg_name 3 sc_room_of.nd) dgs_nil)))) (fun _ _ _ _ _ => dts_nil) (fun _ _ _ _ _ => (de_bin op_addA g_add (de_ix (de_var 1) (de_var 2)) (de_var 3)))))) da_nil)))))) h_room_of
theorem ok_terms_of (M : Md K mg) : FnOk P w K mg base (L2.CX P w) 1 M.f_terms_of M.d_terms_of ["pair"] (spD K 1 S_terms_of) :=
  fn_D M.F_terms_of sc_terms_of rfl (fun cdv A outer s H E hr => (dss_cons (ds_to (de_var 0) (dg_tup rfl (dgs_cons (dg_name 2 sc_terms_of.nd) (dgs_cons (dg_name 3 sc_terms_of.nd) dgs_nil))))
  (dss_cons (ds_set 1 sc_terms_of.nd (dl_new da_nil))
  (dss_cons (ds_for (passes_of rfl) rfl (di_enum M.z_enumerate (da_cons (dl_dat (de_var 3)) da_nil)) (dg_tup rfl (dgs_cons (dg_name 4 sc_terms_of.nd) (dgs_cons (dg_name 5 sc_terms_of.nd) dgs_nil))) (dss_one (ds_if (dw (dw_or (dt_cmp (op_eqP hr.units) g_eq (de_bin op_addA g_add (de_var 4) de_int) (de_len M.z_len (da_cons (dl_dat (de_var 3)) da_nil)) (nomark _)) (dw_or1 (dt_cmp op_lt g_lt (de_ix (de_var 3) (de_bin op_addA g_add (de_var 4) de_int)) (de_var 5) (nomark _))))) (dss_one (ds_app 1 (de_tup (da_cons (dl_dat (de_var 4)) (da_cons (dl_dat (de_var 5)) da_nil))))) dss_nil)))
  (dss_one (ds_ret (dl_dat (de_tup (da_cons (dl_dat (de_cb (call_max2 rfl) c_max2 M.z_max bt_max (da_cons (dl_dat (de_var 2)) (da_cons (dl_dat (de_ix (de_var 3) de_int)) da_nil)))) (da_cons (dl_dat (de_cty call_tuple_of c_tuple M.z_tuple bt_tuple (da_cons (dl_dat (de_var 1)) da_nil))) da_nil)))))))))) h_terms_of
theorem ok_pushed (M : Md K mg) : FnOk P w K mg base (L2.CX P w) 1 M.f_pushed M.d_pushed ["gap", "places", "sheep", "steps"] (spD K 4 S_pushed) :=
  fn_D M.F_pushed sc_pushed rfl (fun cdv A outer s H E hr => (dss_cons (ds_set 4 sc_pushed.nd (dl_listN M.z_list (da_cons (dl_dat (de_var 1)) da_nil)))
  (dss_cons (ds_setix 4 (de_bin op_addA g_add (de_ixO 4 (de_var 2)) (de_var 3)) (de_var 2))
  (dss_cons (ds_for (passes_of rfl) rfl (di_range2 M.z_range (da_cons (dl_dat (de_bin op_addA g_add (de_var 2) de_int)) (da_cons (dl_dat (de_lenO 4 M.z_len)) da_nil))) (dg_name 5 sc_pushed.nd) (dss_one (ds_setix 4 (de_cb (call_max2 rfl) c_max2 M.z_max bt_max (da_cons (dl_dat (de_ixO 4 (de_var 5))) (da_cons (dl_dat (de_bin op_addA g_add (de_ixO 4 (de_bin op_sub g_sub (de_var 5) de_int)) (de_var 0))) da_nil))) (de_var 5))))
  (dss_one (ds_ret (dl_dat (de_cty call_tuple_of c_tuple M.z_tuple bt_tuple (da_cons (dl_dat (de_var 4)) da_nil))))))))) h_pushed
theorem ok_shortened (M : Md K mg) : FnOk P w K mg base (L2.CX P w) 1 M.f_shortened M.d_shortened ["items"] (spD K 1 S_shortened) :=
  fn_D M.F_shortened sc_shortened rfl (fun cdv A outer s H E hr => (dss_cons (ds_par2 1 2 rfl sc_shortened.nd (da_cons (dl_dat (de_cty call_tuple_of c_tuple M.z_tuple bt_tuple (da_cons (dl_dat (de_sl (de_var 0) do_none (do_some (de_neg de_int)))) da_nil))) (da_cons (dl_dat (de_ix (de_var 0) (de_neg de_int))) da_nil)))
  (dss_cons (ds_while (passes_of rfl) (dw (dw_and (dt_cmp (op_neP hr.units) g_ne (de_var 1) (de_tup da_nil) (nomark _)) (dw_and1 (dt_cmp (op_eqP hr.units) g_eq (de_ix (de_var 1) (de_neg de_int)) (de_var 2) (nomark _))))) (dss_one (ds_set 1 sc_shortened.nd (dl_dat (de_sl (de_var 1) do_none (do_some (de_neg de_int)))))))
  (dss_one (ds_ret (dl_dat (de_tup (da_cons (dl_dat (de_var 1)) (da_cons (dl_dat (de_var 2)) da_nil))))))))) h_shortened
theorem ok_rooms_of (M : Md K mg) : FnOk P w K mg base (L2.CX P w) 1 M.f_rooms_of M.d_rooms_of ["gap", "places"] (spD K 2 S_rooms_of) :=
  fn_D M.F_rooms_of sc_rooms_of rfl (fun cdv A outer s H E hr => (dss_one (ds_ret (dl_dat (de_comp (own := [("at", 2), ("place", 3)]) rfl sc_rooms_of.nd (di_enum M.z_enumerate (da_cons (dl_dat (de_var 1)) da_nil)) (by kernel_rfl) (fun _ _ _ _ _ => (dg_tup rfl (dgs_cons (dg_name 2 sc_rooms_of.nd) (dgs_cons (dg_name 3 sc_rooms_of.nd) dgs_nil)))) (fun _ _ _ _ _ => dts_nil) (fun _ _ _ _ _ => (de_bin op_sub g_sub (de_var 3) (de_bin op_mulB g_mulB (de_var 2) (de_var 0))))))))) h_rooms_of
theorem ok_greatest (M : Md K mg) : FnOk P w K mg base (L2.CX P w) 1 M.f_greatest M.d_greatest ["found", "due"] (spD K 2 S_greatest) :=
  fn_D M.F_greatest sc_greatest rfl (fun cdv A outer s H E hr => (dss_cons (ds_set 2 sc_greatest.nd (dl_new da_nil))
  (dss_cons (ds_for (passes_of rfl) rfl (di_range1 M.z_range (da_cons (dl_dat (de_len M.z_len (da_cons (dl_dat (de_var 1)) da_nil))) da_nil)) (dg_name 3 sc_greatest.nd) (dss_one (ds_app 2 (de_cb (cr_min rfl) c_min M.z_min bt_min (da_cons (dl_dat (de_comp (own := [("at", 4)]) rfl sc_greatest.nd (di_range2 M.z_range (da_cons (dl_dat (de_var 3)) (da_cons (dl_dat (de_len M.z_len (da_cons (dl_dat (de_var 1)) da_nil))) da_nil))) (by kernel_rfl) (fun _ _ _ _ _ => (dg_name 4 sc_greatest.nd)) (fun _ _ _ _ _ => dts_nil) (fun _ _ _ _ _ => (de_bin op_sub g_sub (de_ix (de_var 1) (de_var 4)) (de_ix (de_ix (de_ix (de_var 0) (de_var 4)) de_int) (de_var 3)))))) da_nil)))))
  (dss_one (ds_ret (dl_dat (de_var 2))))))) h_greatest
theorem ok_l_cart_of (M : Md K mg) : FnOk P w K mg base (L2.CX P w) 1 M.f_l_cart_of M.d_l_cart_of ["_law_script", "_law_k"] (spD K 2 S_l_cart_of) :=
  fn_D M.F_l_cart_of sc_l_cart_of rfl (fun cdv A outer s H E hr => (dss_cons (ds_set 2 sc_l_cart_of.nd (dl_dat (de_bin op_addA g_add (de_bin op_mulB g_mulB de_int (de_var 1)) de_int)))
  (dss_cons (ds_if (dt_cmp op_lt g_lt (de_var 1) (de_len M.z_len (da_cons (dl_dat (de_var 0)) da_nil)) (nomark _)) (dss_one (ds_set 2 sc_l_cart_of.nd (dl_dat (de_bin op_mod g_mod (de_cb call_abs c_abs M.z_abs bt_abs (da_cons (dl_dat (de_cty call_int1 c_int M.z_int bt_int (da_cons (dl_dat (de_ix (de_var 0) (de_var 1))) da_nil))) da_nil)) (de_bin op_mulB g_mulB (de_bin op_mulB g_mulB (de_bin op_mulB g_mulB (de_bin op_pow g_pow de_int de_int) (de_bin op_pow g_pow de_int de_int)) (de_bin op_pow g_pow de_int de_int)) (de_bin op_pow g_pow de_int de_int)))))) (dss_one (ds_if (dt_cmp op_gt g_gt (de_len M.z_len (da_cons (dl_dat (de_var 0)) da_nil)) de_int (nomark _)) (dss_one (ds_set 2 sc_l_cart_of.nd (dl_dat (de_bin op_addA g_add (de_var 2) (de_bin op_mod g_mod (de_cb call_abs c_abs M.z_abs bt_abs (da_cons (dl_dat (de_cty call_int1 c_int M.z_int bt_int (da_cons (dl_dat (de_ix (de_var 0) de_int)) da_nil))) da_nil)) de_int))))) dss_nil)))
  (dss_one (ds_ret (dl_new (da_cons (dl_dat (de_if (dt_cmp op_ge g_ge (de_var 2) (de_bin op_pow g_pow de_int de_int) (nomark _)) (de_var 2) de_int)) (da_cons (dl_dat (de_bin op_addA g_add (de_bin op_mod g_mod (de_cty call_int1 c_int M.z_int bt_int (da_cons (dl_dat (de_bin op_addA g_add (de_bin op_addA g_add (de_bin op_mulB g_mulB (de_bin op_mod g_mod (de_var 2) de_int) de_int) (de_bin op_mulB g_mulB de_int (de_var 1))) de_int)) da_nil)) de_int) de_int)) da_nil)))))))) h_l_cart_of
theorem ok_l_take (M : Md K mg) : FnOk P w K mg base (L2.CX P w) 1 M.f_l_take M.d_l_take ["_law_cart", "_law_many"] (spD K 2 S_l_take) :=
  fn_D M.F_l_take sc_l_take rfl (fun cdv A outer s H E hr => (dss_cons (ds_if (dt_cmp op_gt g_gt (de_ixO 0 de_int) de_int (nomark _)) (dss_cons (ds_set 2 sc_l_take.nd (dl_dat (de_bin op_mod g_mod (de_cty call_int1 c_int M.z_int bt_int (da_cons (dl_dat (de_ixO 0 de_int)) da_nil)) (de_var 1))))
  (dss_cons (ds_setix 0 (de_bin op_fdivW g_div (de_ixO 0 de_int) (de_var 1)) de_int)
  (dss_one (ds_ret (dl_dat (de_var 2)))))) dss_nil)
  (dss_cons (ds_to (de_tup (da_cons (dl_dat de_int) (da_cons (dl_dat de_int) da_nil))) (dg_tup rfl (dgs_cons (dg_name 2 sc_l_take.nd) (dgs_cons (dg_name 3 sc_l_take.nd) dgs_nil))))
  (dss_cons (ds_while (passes_of rfl) (dw (dw_or (dt_cmp op_lt g_lt (de_var 3) (de_var 1) (nomark _)) (dw_or1 (dt_cmp (op_eqP hr.units) g_eq (de_var 3) de_int (nomark _))))) (dss_cons (ds_setix 0 (de_bin op_mod g_mod (de_cty call_int1 c_int M.z_int bt_int (da_cons (dl_dat (de_bin op_addA g_add (de_bin op_mulB g_mulB (de_ixO 0 de_int) de_int) de_int)) da_nil)) de_int) de_int)
  (dss_cons (ds_set 2 sc_l_take.nd (dl_dat (de_bin op_addA g_add (de_bin op_mulB g_mulB (de_var 2) de_int) (de_bin op_mod g_mod (de_cty call_int1 c_int M.z_int bt_int (da_cons (dl_dat (de_bin op_fdivW g_div (de_ixO 0 de_int) de_int)) da_nil)) de_int))))
  (dss_one (ds_set 3 sc_l_take.nd (dl_dat (de_bin op_mulB g_mulB (de_var 3) de_int)))))))
  (dss_one (ds_ret (dl_dat (de_bin op_mod g_mod (de_cty call_int1 c_int M.z_int bt_int (da_cons (dl_dat (de_var 2)) da_nil)) (de_var 1))))))))) h_l_take
theorem ok_l_at (M : Md K mg) : FnOk P w K mg base (L2.CX P w) 1 M.f_l_at M.d_l_at ["_law_gap", "_law_rooms"] (spD K 2 S_l_at) :=
  fn_D M.F_l_at sc_l_at rfl (fun cdv A outer s H E hr => (dss_one (ds_ret (dl_dat (de_cty call_tuple_of c_tuple M.z_tuple bt_tuple (da_cons (dl_dat (de_comp (own := [("_law_at_here", 2), ("_law_room", 3)]) rfl sc_l_at.nd (di_enum M.z_enumerate (da_cons (dl_dat (de_var 1)) da_nil)) (by kernel_rfl) (fun _ _ _ _ _ => (dg_tup rfl (dgs_cons (dg_name 2 sc_l_at.nd) (dgs_cons (dg_name 3 sc_l_at.nd) dgs_nil)))) (fun _ _ _ _ _ => dts_nil) (fun _ _ _ _ _ => (de_bin op_addA g_add (de_var 3) (de_bin op_mulB g_mulB (de_var 2) (de_var 0)))))) da_nil)))))) h_l_at
theorem ok_l_word (M : Md K mg) (c : Clo) {kc : Nat} (hc : CloOk P w K mg base kc c) : FnOk P w K mg base (L2.CX P w) (kc + 1) M.f_l_word M.d_l_word ["_law_call"] (spD K 1 (S_l_word c)) :=
  fn_D M.F_l_word sc_l_word rfl (fun cdv A outer s H E hr => (dss_cons (ds_set 1 sc_l_word.nd (dl_dat de_str))
  (dss_cons (ds_tryF rfl rfl (takes_of rfl rfl rfl rfl) (fun W pn xe tk _ => dss_one (ds_expr (dl_act0 0 hc hr tk))) (.only ⟨rfl, by decide, .inl M.e_InvalidDrill.g⟩ (exq_cons M.e_InvalidDrill.n M.x_InvalidDrill_InvalidDrill (by decide) (exq_cons M.e_InvalidBeginning.n M.x_InvalidBeginning_InvalidDrill (by decide) (exq_cons M.e_InvalidMany.n M.x_InvalidMany_InvalidDrill (by decide) (exq_cons M.e_InvalidSheep.n M.x_InvalidSheep_InvalidDrill (by decide) (exq_cons M.e_Unlike.n M.x_Unlike_InvalidDrill (by decide) exq_nil))))) (fun _ _ _ => (dss_one (ds_set 1 sc_l_word.nd (dl_dat de_str)))) (.only ⟨rfl, by decide, .inl M.e_InvalidBeginning.g⟩ (exq_cons M.e_InvalidDrill.n M.x_InvalidDrill_InvalidBeginning (by decide) (exq_cons M.e_InvalidBeginning.n M.x_InvalidBeginning_InvalidBeginning (by decide) (exq_cons M.e_InvalidMany.n M.x_InvalidMany_InvalidBeginning (by decide) (exq_cons M.e_InvalidSheep.n M.x_InvalidSheep_InvalidBeginning (by decide) (exq_cons M.e_Unlike.n M.x_Unlike_InvalidBeginning (by decide) exq_nil))))) (fun _ _ _ => (dss_one (ds_set 1 sc_l_word.nd (dl_dat de_str)))) (.only ⟨rfl, by decide, .inl M.e_InvalidMany.g⟩ (exq_cons M.e_InvalidDrill.n M.x_InvalidDrill_InvalidMany (by decide) (exq_cons M.e_InvalidBeginning.n M.x_InvalidBeginning_InvalidMany (by decide) (exq_cons M.e_InvalidMany.n M.x_InvalidMany_InvalidMany (by decide) (exq_cons M.e_InvalidSheep.n M.x_InvalidSheep_InvalidMany (by decide) (exq_cons M.e_Unlike.n M.x_Unlike_InvalidMany (by decide) exq_nil))))) (fun _ _ _ => (dss_one (ds_set 1 sc_l_word.nd (dl_dat de_str)))) (.only ⟨rfl, by decide, .inl M.e_InvalidSheep.g⟩ (exq_cons M.e_InvalidDrill.n M.x_InvalidDrill_InvalidSheep (by decide) (exq_cons M.e_InvalidBeginning.n M.x_InvalidBeginning_InvalidSheep (by decide) (exq_cons M.e_InvalidMany.n M.x_InvalidMany_InvalidSheep (by decide) (exq_cons M.e_InvalidSheep.n M.x_InvalidSheep_InvalidSheep (by decide) (exq_cons M.e_Unlike.n M.x_Unlike_InvalidSheep (by decide) exq_nil))))) (fun _ _ _ => (dss_one (ds_set 1 sc_l_word.nd (dl_dat de_str)))) (.only ⟨rfl, by decide, .inl M.e_InvalidPlace.g⟩ (exq_cons M.e_InvalidDrill.n M.x_InvalidDrill_InvalidPlace (by decide) (exq_cons M.e_InvalidBeginning.n M.x_InvalidBeginning_InvalidPlace (by decide) (exq_cons M.e_InvalidMany.n M.x_InvalidMany_InvalidPlace (by decide) (exq_cons M.e_InvalidSheep.n M.x_InvalidSheep_InvalidPlace (by decide) (exq_cons M.e_Unlike.n M.x_Unlike_InvalidPlace (by decide) exq_nil))))) (fun _ _ _ => (dss_one (ds_set 1 sc_l_word.nd (dl_dat de_str)))) (.only ⟨rfl, by decide, .inl M.e_InvalidRun.g⟩ (exq_cons M.e_InvalidDrill.n M.x_InvalidDrill_InvalidRun (by decide) (exq_cons M.e_InvalidBeginning.n M.x_InvalidBeginning_InvalidRun (by decide) (exq_cons M.e_InvalidMany.n M.x_InvalidMany_InvalidRun (by decide) (exq_cons M.e_InvalidSheep.n M.x_InvalidSheep_InvalidRun (by decide) (exq_cons M.e_Unlike.n M.x_Unlike_InvalidRun (by decide) exq_nil))))) (fun _ _ _ => (dss_one (ds_set 1 sc_l_word.nd (dl_dat de_str)))) (.only ⟨rfl, by decide, .inl M.e_InvalidIndex.g⟩ (exq_cons M.e_InvalidDrill.n M.x_InvalidDrill_InvalidIndex (by decide) (exq_cons M.e_InvalidBeginning.n M.x_InvalidBeginning_InvalidIndex (by decide) (exq_cons M.e_InvalidMany.n M.x_InvalidMany_InvalidIndex (by decide) (exq_cons M.e_InvalidSheep.n M.x_InvalidSheep_InvalidIndex (by decide) (exq_cons M.e_Unlike.n M.x_Unlike_InvalidIndex (by decide) exq_nil))))) (fun _ _ _ => (dss_one (ds_set 1 sc_l_word.nd (dl_dat de_str)))) (.only ⟨rfl, by decide, .inl M.e_Unlike.g⟩ (exq_cons M.e_InvalidDrill.n M.x_InvalidDrill_Unlike (by decide) (exq_cons M.e_InvalidBeginning.n M.x_InvalidBeginning_Unlike (by decide) (exq_cons M.e_InvalidMany.n M.x_InvalidMany_Unlike (by decide) (exq_cons M.e_InvalidSheep.n M.x_InvalidSheep_Unlike (by decide) (exq_cons M.e_Unlike.n M.x_Unlike_Unlike (by decide) exq_nil))))) (fun _ _ _ => (dss_one (ds_set 1 sc_l_word.nd (dl_dat de_str)))) (.only ⟨rfl, by decide, .inl M.e_NothingToUndo.g⟩ (exq_cons M.e_InvalidDrill.n M.x_InvalidDrill_NothingToUndo (by decide) (exq_cons M.e_InvalidBeginning.n M.x_InvalidBeginning_NothingToUndo (by decide) (exq_cons M.e_InvalidMany.n M.x_InvalidMany_NothingToUndo (by decide) (exq_cons M.e_InvalidSheep.n M.x_InvalidSheep_NothingToUndo (by decide) (exq_cons M.e_Unlike.n M.x_Unlike_NothingToUndo (by decide) exq_nil))))) (fun _ _ _ => (dss_one (ds_set 1 sc_l_word.nd (dl_dat de_str)))) (.named (i := 2) (j := 1) (w := "full") (f := "limit") ⟨rfl, by decide, .inl M.c_TooMany⟩ sc_l_word.nd rfl rfl (exq_cons M.e_InvalidDrill.n M.x_InvalidDrill_TooMany (by decide) (exq_cons M.e_InvalidBeginning.n M.x_InvalidBeginning_TooMany (by decide) (exq_cons M.e_InvalidMany.n M.x_InvalidMany_TooMany (by decide) (exq_cons M.e_InvalidSheep.n M.x_InvalidSheep_TooMany (by decide) (exq_cons M.e_Unlike.n M.x_Unlike_TooMany (by decide) exq_nil))))) M.n_TooMany rfl (fun a o cls d pn z f => pss_one (ps_set sc_l_word.nd rfl (by first | exact Or.inl rfl | exact Or.inr rfl) (pe_op op_add_str pe_str (pe_callTy call_str_int rfl M.z_str bt_str (pa_cons (pe_xf (M.FA ("TooMany", "limit") (by simp [fldN]) _ M.n_TooMany).1 (M.FA ("TooMany", "limit") (by simp [fldN]) _ M.n_TooMany).2 z f (pe_var rfl (by first | exact Or.inl rfl | exact Or.inr (Or.inl rfl) | exact Or.inr (Or.inr rfl)))) pa_nil))))) (.named (i := 2) (j := 1) (w := "text") (f := "line") ⟨rfl, by decide, .inl M.c_InvalidText⟩ sc_l_word.nd rfl rfl (exq_cons M.e_InvalidDrill.n M.x_InvalidDrill_InvalidText (by decide) (exq_cons M.e_InvalidBeginning.n M.x_InvalidBeginning_InvalidText (by decide) (exq_cons M.e_InvalidMany.n M.x_InvalidMany_InvalidText (by decide) (exq_cons M.e_InvalidSheep.n M.x_InvalidSheep_InvalidText (by decide) (exq_cons M.e_Unlike.n M.x_Unlike_InvalidText (by decide) exq_nil))))) M.n_InvalidText rfl (fun a o cls d pn z f => pss_one (ps_set sc_l_word.nd rfl (by first | exact Or.inl rfl | exact Or.inr rfl) (pe_op op_add_str pe_str (pe_callTy call_str_int rfl M.z_str bt_str (pa_cons (pe_xf (M.FA ("InvalidText", "line") (by simp [fldN]) _ M.n_InvalidText).1 (M.FA ("InvalidText", "line") (by simp [fldN]) _ M.n_InvalidText).2 z f (pe_var rfl (by first | exact Or.inl rfl | exact Or.inr (Or.inl rfl) | exact Or.inr (Or.inr rfl)))) pa_nil))))) (.only ⟨rfl, by decide, .inl M.e_DogError.g⟩ (exq_cons M.e_InvalidDrill.n M.x_InvalidDrill_DogError (by decide) (exq_cons M.e_InvalidBeginning.n M.x_InvalidBeginning_DogError (by decide) (exq_cons M.e_InvalidMany.n M.x_InvalidMany_DogError (by decide) (exq_cons M.e_InvalidSheep.n M.x_InvalidSheep_DogError (by decide) (exq_cons M.e_Unlike.n M.x_Unlike_DogError (by decide) exq_nil))))) (fun _ _ _ => (dss_one (ds_set 1 sc_l_word.nd (dl_dat de_str)))) .nil)))))))))))))
  (dss_one (ds_ret (dl_dat (de_var 1))))))) (h_l_word c)
theorem ok_is_a_run (M : Md K mg) : FnOk P w K mg base (L2.CX P w) 2 M.f_is_a_run M.d_is_a_run ["value"] (spD K 1 S_is_a_run) :=
  fn_D M.F_is_a_run sc_is_a_run rfl (fun cdv A outer s H E hr => (dss_cons (ds_if (dw (dw_or (dt_not (dt_of (de_cb call_isi c_isi M.z_isinstance bt_isinstance (da_cons (dl_dat (de_var 0)) (da_cons (dl_dat (de_ty M.z_tuple bt_tuple)) da_nil))))) (dw_or (dt_cmp (op_eqP hr.units) g_eq (de_var 0) (de_tup da_nil) (nomark _)) (dw_or1 (dt_not (dt_of (de_cb call_isi c_isi M.z_isinstance bt_isinstance (da_cons (dl_dat (de_ix (de_var 0) de_int)) (da_cons (dl_dat (de_ty M.z_str bt_str)) da_nil))))))))) (dss_one (ds_ret (dl_dat de_bl))) dss_nil)
  (dss_cons (ds_if (dt_cmp (op_eqP hr.units) g_eq (de_ix (de_var 0) de_int) de_str (nomark _)) (dss_one (ds_ret (dl_dat (de_and (de_cmp (op_eqP hr.units) g_eq (de_len M.z_len (da_cons (dl_dat (de_var 0)) da_nil)) de_int (nomark _)) (de_one (de_val (dl_call (ok_is_int M) (hr.mono (by decide)) M.g_is_int M.F_is_int.kp M.b_is_int (takes_of rfl rfl rfl rfl) (da_cons (dl_dat (de_ix (de_var 0) de_int)) (da_cons (dl_dat de_int) (da_cons (dl_dat (de_gint M.g_FAR)) da_nil)))))))))) dss_nil)
  (dss_cons (ds_if (dt_cmp (op_eqP hr.units) g_eq (de_ix (de_var 0) de_int) de_str (nomark _)) (dss_one (ds_ret (dl_dat (de_and (de_cmp (op_eqP hr.units) g_eq (de_len M.z_len (da_cons (dl_dat (de_var 0)) da_nil)) de_int (nomark _)) (de_one (de_val (dl_call (ok_is_int M) (hr.mono (by decide)) M.g_is_int M.F_is_int.kp M.b_is_int (takes_of rfl rfl rfl rfl) (da_cons (dl_dat (de_ix (de_var 0) de_int)) (da_cons (dl_dat de_int) (da_cons (dl_dat (de_gint M.g_FAR)) da_nil)))))))))) dss_nil)
  (dss_cons (ds_if (dw (dw_or (dt_cmp (op_ninP hr.units) (g_in true) (de_ix (de_var 0) de_int) (de_tup (da_cons (dl_dat de_str) (da_cons (dl_dat de_str) da_nil))) (by with_unfolding_all rfl)) (dw_or1 (dt_cmp (op_neP hr.units) g_ne (de_len M.z_len (da_cons (dl_dat (de_var 0)) da_nil)) de_int (nomark _))))) (dss_one (ds_ret (dl_dat de_bl))) dss_nil)
  (dss_one (ds_ret (dl_dat (de_and (de_val (dl_call (ok_is_int M) (hr.mono (by decide)) M.g_is_int M.F_is_int.kp M.b_is_int (takes_of rfl rfl rfl rfl) (da_cons (dl_dat (de_ix (de_var 0) de_int)) (da_cons (dl_dat de_int) (da_cons (dl_dat (de_gint M.g_DEEPEST)) da_nil))))) (de_one (de_val (dl_call (ok_is_int M) (hr.mono (by decide)) M.g_is_int M.F_is_int.kp M.b_is_int (takes_of rfl rfl rfl rfl) (da_cons (dl_dat (de_ix (de_var 0) de_int)) (da_cons (dl_dat de_int) (da_cons (dl_dat (de_gint M.g_FAR)) da_nil))))))))))))))) h_is_a_run
theorem ok_begins (M : Md K mg) : FnOk P w K mg base (L2.CX P w) 2 M.f_begins M.d_begins ["gap", "value"] (spD K 2 S_begins) :=
  fn_D M.F_begins sc_begins rfl (fun cdv A outer s H E hr => (dss_cons (ds_if (dw (dw_or (dt_not (dt_of (de_cb call_isi c_isi M.z_isinstance bt_isinstance (da_cons (dl_dat (de_var 1)) (da_cons (dl_dat (de_ty M.z_tuple bt_tuple)) da_nil))))) (dw_or1 (dt_not (dt_chain op_le op_le g_le g_le de_int (de_len M.z_len (da_cons (dl_dat (de_var 1)) da_nil)) (de_gint M.g_MOST_SHEEP)))))) (dss_one (ds_ret (dl_dat de_bl))) dss_nil)
  (dss_cons (ds_if (dt_cmp (op_neP hr.units) g_ne (de_comp (own := [("place", 2)]) rfl sc_begins.nd (di_seq (de_var 1)) (by kernel_rfl) (fun _ _ _ _ _ => (dg_name 2 sc_begins.nd)) (fun _ _ _ _ _ => (dts_one (dt_not (dt_of (de_val (dl_call (ok_is_int M) (hr.mono (by decide)) M.g_is_int M.F_is_int.kp M.b_is_int takes0' (da_cons (dl_dat (de_var 2)) (da_cons (dl_dat de_int) (da_cons (dl_dat (de_gint M.g_GREAT)) da_nil))))))))) (fun _ _ _ _ _ => (de_var 2))) (de_lst da_nil) (nomark _)) (dss_one (ds_ret (dl_dat de_bl))) dss_nil)
  (dss_one (ds_ret (dl_dat (de_cmp (op_eqP hr.units) g_eq (de_comp (own := [("one", 3), ("other", 4)]) rfl sc_begins.nd (di_zip M.z_zip (da_cons (dl_dat (de_var 1)) (da_cons (dl_dat (de_sl (de_var 1) (do_some de_int) do_none)) da_nil))) (by kernel_rfl) (fun _ _ _ _ _ => (dg_tup rfl (dgs_cons (dg_name 3 sc_begins.nd) (dgs_cons (dg_name 4 sc_begins.nd) dgs_nil)))) (fun _ _ _ _ _ => (dts_one (dt_cmp op_lt g_lt (de_bin op_sub g_sub (de_var 4) (de_var 3)) (de_var 0) (nomark _)))) (fun _ _ _ _ _ => de_int)) (de_lst da_nil) (nomark _)))))))) h_begins
theorem ok_need_many (M : Md K mg) : FnOk P w K mg base (L2.CX P w) 2 M.f_need_many M.d_need_many ["value"] (spD K 1 S_need_many) :=
  fn_D M.F_need_many sc_need_many rfl (fun cdv A outer s H E hr => (dss_one (ds_if (dt_not (dt_of (de_val (dl_call (ok_is_int M) (hr.mono (by decide)) M.g_is_int M.F_is_int.kp M.b_is_int (takes_of rfl rfl rfl rfl) (da_cons (dl_dat (de_var 0)) (da_cons (dl_dat de_int) (da_cons (dl_dat (de_gint M.g_GREAT)) da_nil))))))) (dss_one (ds_raise rfl (takes_of rfl rfl rfl rfl) M.e_InvalidMany)) dss_nil))) h_need_many
theorem ok_need_sheep (M : Md K mg) : FnOk P w K mg base (L2.CX P w) 2 M.f_need_sheep M.d_need_sheep ["many", "value"] (spD K 2 S_need_sheep) :=
  fn_D M.F_need_sheep sc_need_sheep rfl (fun cdv A outer s H E hr => (dss_one (ds_if (dt_not (dt_of (de_val (dl_call (ok_is_int M) (hr.mono (by decide)) M.g_is_int M.F_is_int.kp M.b_is_int (takes_of rfl rfl rfl rfl) (da_cons (dl_dat (de_var 1)) (da_cons (dl_dat (de_neg (de_var 0))) (da_cons (dl_dat (de_bin op_sub g_sub (de_var 0) de_int)) da_nil))))))) (dss_one (ds_raise rfl (takes_of rfl rfl rfl rfl) M.e_InvalidSheep)) dss_nil))) h_need_sheep
theorem ok_after (M : Md K mg) : FnOk P w K mg base (L2.CX P w) 2 M.f_after M.d_after ["found", "run", "many"] (spD K 3 S_after) :=
  fn_D M.F_after sc_after rfl (fun cdv A outer s H E hr => (dss_cons (ds_if (dt_cmp (op_eqP hr.units) g_eq (de_ix (de_var 1) de_int) de_str (nomark _)) (dss_one (ds_ret (dl_dat (de_comp (own := [("least", 6), ("mores", 7)]) rfl sc_after.nd (di_seq (de_var 0)) (by kernel_rfl) (fun _ _ _ _ _ => (dg_tup rfl (dgs_cons (dg_name 6 sc_after.nd) (dgs_cons (dg_name 7 sc_after.nd) dgs_nil)))) (fun _ _ _ _ _ => dts_nil) (fun _ _ _ _ _ => (de_tup (da_cons (dl_dat (de_cb (call_max2 rfl) c_max2 M.z_max bt_max (da_cons (dl_dat (de_var 6)) (da_cons (dl_dat (de_ix (de_var 1) de_int)) da_nil)))) (da_cons (dl_dat (de_var 7)) da_nil)))))))) dss_nil)
  (dss_cons (ds_if (dt_cmp (op_eqP hr.units) g_eq (de_ix (de_var 1) de_int) de_str (nomark _)) (dss_one (ds_ret (dl_dat (de_comp (own := [("pair", 5)]) rfl sc_after.nd (di_seq (de_var 0)) (by kernel_rfl) (fun _ _ _ _ _ => (dg_name 5 sc_after.nd)) (fun _ _ _ _ _ => dts_nil) (fun _ _ _ _ _ => (de_val (dl_call (ok_raised M) (hr.mono (by decide)) M.g_raised M.F_raised.kp M.b_raised takes0' (da_cons (dl_dat (de_var 5)) (da_cons (dl_dat (de_ix (de_var 1) de_int)) da_nil))))))))) dss_nil)
  (dss_cons (ds_set 3 sc_after.nd (dl_dat (de_if (dt_cmp (op_eqP hr.units) g_eq (de_ix (de_var 1) de_int) de_str (nomark _)) (de_ix (de_var 1) de_int) (de_bin op_sub g_sub (de_bin op_sub g_sub (de_var 2) de_int) (de_ix (de_var 1) de_int)))))
  (dss_cons (ds_if (dt_not (dt_chain op_le op_lt g_le g_lt de_int (de_var 3) (de_var 2))) (dss_one (ds_ret (dl_dat (de_var 0)))) dss_nil)
  (dss_cons (ds_set 4 sc_after.nd (dl_dat (de_val (dl_call (ok_raised M) (hr.mono (by decide)) M.g_raised M.F_raised.kp M.b_raised (takes_of rfl rfl rfl rfl) (da_cons (dl_dat (de_ix (de_var 0) (de_var 3))) (da_cons (dl_dat (de_ix (de_var 1) de_int)) da_nil))))))
  (dss_one (ds_ret (dl_dat (de_bin op_addA g_add (de_bin op_addA g_add (de_sl (de_var 0) do_none (do_some (de_var 3))) (de_lst (da_cons (dl_dat (de_var 4)) da_nil))) (de_comp (own := [("pair", 5)]) rfl sc_after.nd (di_seq (de_sl (de_var 0) (do_some (de_bin op_addA g_add (de_var 3) de_int)) do_none)) (by kernel_rfl) (fun _ _ _ _ _ => (dg_name 5 sc_after.nd)) (fun _ _ _ _ _ => dts_nil) (fun _ _ _ _ _ => (de_val (dl_call (ok_joined M) (hr.mono (by decide)) M.g_joined M.F_joined.kp M.b_joined takes0' (da_cons (dl_dat (de_var 5)) (da_cons (dl_dat (de_var 4)) da_nil)))))))))))))))) h_after
theorem ok_enough (M : Md K mg) : FnOk P w K mg base (L2.CX P w) 2 M.f_enough M.d_enough ["drill", "other"] (spD K 2 S_enough) :=
  fn_D M.F_enough sc_enough rfl (fun cdv A outer s H E hr => (dss_cons (ds_set 2 sc_enough.nd (dl_dat (de_cb (call_max2 rfl) c_max2 M.z_max bt_max (da_cons (dl_dat (de_val (dl_call (ok_deep M) (hr.mono (by decide)) M.g_deep M.F_deep.kp M.b_deep (takes_of rfl rfl rfl rfl) (da_cons (dl_dat (de_var 0)) (da_cons (dl_dat de_str) da_nil))))) (da_cons (dl_dat (de_val (dl_call (ok_deep M) (hr.mono (by decide)) M.g_deep M.F_deep.kp M.b_deep (takes_of rfl rfl rfl rfl) (da_cons (dl_dat (de_var 1)) (da_cons (dl_dat de_str) da_nil))))) da_nil)))))
  (dss_one (ds_ret (dl_dat (de_bin op_addA g_add (de_bin op_addA g_add (de_var 2) (de_cb (call_max2 rfl) c_max2 M.z_max bt_max (da_cons (dl_dat (de_val (dl_call (ok_deep M) (hr.mono (by decide)) M.g_deep M.F_deep.kp M.b_deep (takes_of rfl rfl rfl rfl) (da_cons (dl_dat (de_var 0)) (da_cons (dl_dat de_str) da_nil))))) (da_cons (dl_dat (de_val (dl_call (ok_deep M) (hr.mono (by decide)) M.g_deep M.F_deep.kp M.b_deep (takes_of rfl rfl rfl rfl) (da_cons (dl_dat (de_var 1)) (da_cons (dl_dat de_str) da_nil))))) da_nil)))) de_int)))))) h_enough
theorem ok_small (M : Md K mg) : FnOk P w K mg base (L2.CX P w) 2 M.f_small M.d_small ["drill", "many", "sheep"] (spD K 3 S_small) :=
  fn_D M.F_small sc_small rfl (fun cdv A outer s H E hr => (dss_cons (ds_par2 4 5 rfl sc_small.nd (da_cons (dl_dat (de_val (dl_call (ok_deep M) (hr.mono (by decide)) M.g_deep M.F_deep.kp M.b_deep (takes_of rfl rfl rfl rfl) (da_cons (dl_dat (de_var 0)) (da_cons (dl_dat de_str) da_nil))))) (da_cons (dl_dat (de_val (dl_call (ok_deep M) (hr.mono (by decide)) M.g_deep M.F_deep.kp M.b_deep (takes_of rfl rfl rfl rfl) (da_cons (dl_dat (de_var 0)) (da_cons (dl_dat de_str) da_nil))))) da_nil)))
  (dss_cons (ds_set 2 sc_small.nd (dl_dat (de_if (dt_cmp op_lt g_lt (de_var 2) de_int (nomark _)) (de_bin op_addA g_add (de_var 2) (de_var 1)) (de_var 2))))
  (dss_cons (ds_set 3 sc_small.nd (dl_dat (de_cb (call_min2 rfl) c_min2 M.z_min bt_min (da_cons (dl_dat (de_var 1)) (da_cons (dl_dat (de_bin op_addA g_add (de_bin op_addA g_add (de_var 4) (de_var 5)) de_int)) da_nil)))))
  (dss_cons (ds_if (dw (dw_or (dt_cmp (op_eqP hr.units) g_eq (de_var 1) (de_var 3) (nomark _)) (dw_or1 (dt_cmp op_lt g_lt (de_var 2) (de_var 4) (nomark _))))) (dss_one (ds_ret (dl_dat (de_tup (da_cons (dl_dat (de_var 3)) (da_cons (dl_dat (de_var 2)) da_nil)))))) dss_nil)
  (dss_one (ds_ret (dl_dat (de_tup (da_cons (dl_dat (de_var 3)) (da_cons (dl_dat (de_if (dt_cmp op_le g_le (de_bin op_sub g_sub (de_var 1) (de_var 2)) (de_var 5) (nomark _)) (de_bin op_addA g_add (de_bin op_sub g_sub (de_var 3) (de_var 1)) (de_var 2)) (de_var 4))) da_nil))))))))))) h_small
theorem ok_ran (M : Md K mg) : FnOk P w K mg base (L2.CX P w) 2 M.f_ran M.d_ran ["gap", "places", "run"] (spD K 3 S_ran) :=
  fn_D M.F_ran sc_ran rfl (fun cdv A outer s H E hr => (dss_cons (ds_if (dt_cmp (op_eqP hr.units) g_eq (de_ix (de_var 2) de_int) de_str (nomark _)) (dss_one (ds_ret (dl_dat (de_val (dl_call (ok_pushed M) (hr.mono (by decide)) M.g_pushed M.F_pushed.kp M.b_pushed (takes_of rfl rfl rfl rfl) (da_cons (dl_dat (de_var 0)) (da_cons (dl_dat (de_var 1)) (da_cons (dl_dat de_int) (da_cons (dl_dat (de_cb (call_max2 rfl) c_max2 M.z_max bt_max (da_cons (dl_dat de_int) (da_cons (dl_dat (de_bin op_sub g_sub (de_ix (de_var 2) de_int) (de_ix (de_var 1) de_int))) da_nil)))) da_nil))))))))) dss_nil)
  (dss_cons (ds_if (dt_cmp (op_eqP hr.units) g_eq (de_ix (de_var 2) de_int) de_str (nomark _)) (dss_one (ds_ret (dl_dat (de_cty call_tuple_of c_tuple M.z_tuple bt_tuple (da_cons (dl_dat (de_comp (own := [("place", 4)]) rfl sc_ran.nd (di_seq (de_var 1)) (by kernel_rfl) (fun _ _ _ _ _ => (dg_name 4 sc_ran.nd)) (fun _ _ _ _ _ => dts_nil) (fun _ _ _ _ _ => (de_bin op_addA g_add (de_var 4) (de_ix (de_var 2) de_int))))) da_nil))))) dss_nil)
  (dss_cons (ds_set 3 sc_ran.nd (dl_dat (de_if (dt_cmp (op_eqP hr.units) g_eq (de_ix (de_var 2) de_int) de_str (nomark _)) (de_ix (de_var 2) de_int) (de_bin op_sub g_sub (de_bin op_sub g_sub (de_len M.z_len (da_cons (dl_dat (de_var 1)) da_nil)) de_int) (de_ix (de_var 2) de_int)))))
  (dss_cons (ds_if (dt_not (dt_chain op_le op_lt g_le g_lt de_int (de_var 3) (de_len M.z_len (da_cons (dl_dat (de_var 1)) da_nil)))) (dss_one (ds_ret (dl_dat (de_var 1)))) dss_nil)
  (dss_one (ds_ret (dl_dat (de_val (dl_call (ok_pushed M) (hr.mono (by decide)) M.g_pushed M.F_pushed.kp M.b_pushed (takes_of rfl rfl rfl rfl) (da_cons (dl_dat (de_var 0)) (da_cons (dl_dat (de_var 1)) (da_cons (dl_dat (de_var 3)) (da_cons (dl_dat (de_ix (de_var 2) de_int)) da_nil)))))))))))))) h_ran
theorem ok_leads (M : Md K mg) : FnOk P w K mg base (L2.CX P w) 2 M.f_leads M.d_leads ["found", "rooms", "due"] (spD K 3 S_leads) :=
  fn_D M.F_leads sc_leads rfl (fun cdv A outer s H E hr => (dss_one (ds_ret (dl_dat (de_cmp (op_eqP hr.units) g_eq (de_comp (own := [("at", 3), ("pair", 4)]) rfl sc_leads.nd (di_enum M.z_enumerate (da_cons (dl_dat (de_var 0)) da_nil)) (by kernel_rfl) (fun _ _ _ _ _ => (dg_tup rfl (dgs_cons (dg_name 3 sc_leads.nd) (dgs_cons (dg_name 4 sc_leads.nd) dgs_nil)))) (fun _ _ _ _ _ => (dts_one (dt_cmp (op_neP hr.units) g_ne (de_val (dl_call (ok_room_of M) (hr.mono (by decide)) M.g_room_of M.F_room_of.kp M.b_room_of takes0' (da_cons (dl_dat (de_var 4)) (da_cons (dl_dat (de_var 1)) da_nil)))) (de_ix (de_var 2) (de_var 3)) (nomark _)))) (fun _ _ _ _ _ => de_int)) (de_lst da_nil) (nomark _)))))) h_leads
theorem ok_l_any (M : Md K mg) : FnOk P w K mg base (L2.CX P w) 2 M.f_l_any M.d_l_any ["_law_cart", "_law_things"] (spD K 2 S_l_any) :=
  fn_D M.F_l_any sc_l_any rfl (fun cdv A outer s H E hr => (dss_one (ds_ret (dl_dat (de_ix (de_var 1) (de_val (dl_call (ok_l_take M) (hr.mono (by decide)) M.g_l_take M.F_l_take.kp M.b_l_take (takes_of rfl rfl rfl rfl) (da_cons (dl_var 0) (da_cons (dl_dat (de_len M.z_len (da_cons (dl_dat (de_var 1)) da_nil))) da_nil))))))))) h_l_any
theorem ok_fits (M : Md K mg) : FnOk P w K mg base (L2.CX P w) 3 M.f_fits M.d_fits ["value"] (spD K 1 S_fits) :=
  fn_D M.F_fits sc_fits rfl (fun cdv A outer s H E hr => (dss_cons (ds_if (dw (dw_or (dt_not (dt_of (de_cb call_isi c_isi M.z_isinstance bt_isinstance (da_cons (dl_dat (de_var 0)) (da_cons (dl_dat (de_ty M.z_tuple bt_tuple)) da_nil))))) (dw_or (dt_cmp (op_neP hr.units) g_ne (de_len M.z_len (da_cons (dl_dat (de_var 0)) da_nil)) de_int (nomark _)) (dw_or1 (dt_not (dt_of (de_val (dl_call (ok_is_int M) (hr.mono (by decide)) M.g_is_int M.F_is_int.kp M.b_is_int (takes_of rfl rfl rfl rfl) (da_cons (dl_dat (de_ix (de_var 0) de_int)) (da_cons (dl_dat de_int) (da_cons (dl_dat (de_gint M.g_WIDEST)) da_nil))))))))))) (dss_one (ds_ret (dl_dat de_bl))) dss_nil)
  (dss_cons (ds_if (dw (dw_or (dt_not (dt_of (de_cb call_isi c_isi M.z_isinstance bt_isinstance (da_cons (dl_dat (de_ix (de_var 0) de_int)) (da_cons (dl_dat (de_ty M.z_tuple bt_tuple)) da_nil))))) (dw_or1 (dt_cmp op_gt g_gt (de_len M.z_len (da_cons (dl_dat (de_ix (de_var 0) de_int)) da_nil)) (de_gint M.g_MOST_RUNS) (nomark _))))) (dss_one (ds_ret (dl_dat de_bl))) dss_nil)
  (dss_one (ds_ret (dl_dat (de_cmp (op_eqP hr.units) g_eq (de_comp (own := [("run", 1)]) rfl sc_fits.nd (di_seq (de_ix (de_var 0) de_int)) (by kernel_rfl) (fun _ _ _ _ _ => (dg_name 1 sc_fits.nd)) (fun _ _ _ _ _ => (dts_one (dt_not (dt_of (de_val (dl_call (ok_is_a_run M) (hr.mono (by decide)) M.g_is_a_run M.F_is_a_run.kp M.b_is_a_run takes0' (da_cons (dl_dat (de_var 1)) da_nil))))))) (fun _ _ _ _ _ => (de_var 1))) (de_lst da_nil) (nomark _)))))))) h_fits
theorem ok_need_beginning (M : Md K mg) : FnOk P w K mg base (L2.CX P w) 3 M.f_need_beginning M.d_need_beginning ["gap", "value"] (spD K 2 S_need_beginning) :=
  fn_D M.F_need_beginning sc_need_beginning rfl (fun cdv A outer s H E hr => (dss_one (ds_if (dt_not (dt_of (de_val (dl_call (ok_begins M) (hr.mono (by decide)) M.g_begins M.F_begins.kp M.b_begins (takes_of rfl rfl rfl rfl) (da_cons (dl_dat (de_var 0)) (da_cons (dl_dat (de_var 1)) da_nil)))))) (dss_one (ds_raise rfl (takes_of rfl rfl rfl rfl) M.e_InvalidBeginning)) dss_nil))) h_need_beginning
theorem ok_map_of (M : Md K mg) : FnOk P w K mg base (L2.CX P w) 3 M.f_map_of M.d_map_of ["drill", "many"] (spD K 2 S_map_of) :=
  fn_D M.F_map_of sc_map_of rfl (fun cdv A outer s H E hr => (dss_cons (ds_set 2 sc_map_of.nd (dl_dat (de_val (dl_call (ok_plain M) (hr.mono (by decide)) M.g_plain M.F_plain.kp M.b_plain (takes_of rfl rfl rfl rfl) (da_cons (dl_dat (de_var 1)) da_nil)))))
  (dss_cons (ds_for (passes_of rfl) rfl (di_seq (de_ix (de_var 0) de_int)) (dg_name 3 sc_map_of.nd) (dss_one (ds_set 2 sc_map_of.nd (dl_dat (de_val (dl_call (ok_after M) (hr.mono (by decide)) M.g_after M.F_after.kp M.b_after (takes_of rfl rfl rfl rfl) (da_cons (dl_dat (de_var 2)) (da_cons (dl_dat (de_var 3)) (da_cons (dl_dat (de_var 1)) da_nil)))))))))
  (dss_one (ds_ret (dl_dat (de_var 2))))))) h_map_of
theorem ok_course_of (M : Md K mg) : FnOk P w K mg base (L2.CX P w) 3 M.f_course_of M.d_course_of ["drill", "beginning"] (spD K 2 S_course_of) :=
  fn_D M.F_course_of sc_course_of rfl (fun cdv A outer s H E hr => (dss_cons (ds_set 2 sc_course_of.nd (dl_new da_nil))
  (dss_cons (ds_for (passes_of rfl) rfl (di_seq (de_ix (de_var 0) de_int)) (dg_name 3 sc_course_of.nd) (dss_cons (ds_set 1 sc_course_of.nd (dl_dat (de_val (dl_call (ok_ran M) (hr.mono (by decide)) M.g_ran M.F_ran.kp M.b_ran (takes_of rfl rfl rfl rfl) (da_cons (dl_dat (de_ix (de_var 0) de_int)) (da_cons (dl_dat (de_var 1)) (da_cons (dl_dat (de_var 3)) da_nil)))))))
  (dss_one (ds_app 2 (de_var 1)))))
  (dss_one (ds_ret (dl_dat (de_var 2))))))) h_course_of
theorem ok_least_room (M : Md K mg) : FnOk P w K mg base (L2.CX P w) 3 M.f_least_room M.d_least_room ["found", "rooms", "due", "sheep"] (spD K 4 S_least_room) :=
  fn_D M.F_least_room sc_least_room rfl (fun cdv A outer s H E hr => (dss_cons (ds_par2 4 5 rfl sc_least_room.nd (da_cons (dl_dat de_int) (da_cons (dl_dat (de_ix (de_var 1) (de_var 3))) da_nil)))
  (dss_cons (ds_while (passes_of rfl) (dt_cmp op_lt g_lt (de_var 4) (de_var 5) (nomark _)) (dss_cons (ds_set 6 sc_least_room.nd (dl_dat (de_bin op_fdivW g_div (de_bin op_addA g_add (de_var 4) (de_var 5)) de_int)))
  (dss_one (ds_if (dt_of (de_val (dl_call (ok_leads M) (hr.mono (by decide)) M.g_leads M.F_leads.kp M.b_leads (takes_of rfl rfl rfl rfl) (da_cons (dl_dat (de_var 0)) (da_cons (dl_dat (de_comp (own := [("at", 7), ("room", 8)]) rfl sc_least_room.nd (di_enum M.z_enumerate (da_cons (dl_dat (de_var 1)) da_nil)) (by kernel_rfl) (fun _ _ _ _ _ => (dg_tup rfl (dgs_cons (dg_name 7 sc_least_room.nd) (dgs_cons (dg_name 8 sc_least_room.nd) dgs_nil)))) (fun _ _ _ _ _ => dts_nil) (fun _ _ _ _ _ => (de_if (dt_cmp op_le g_le (de_var 7) (de_var 3) (nomark _)) (de_cb (call_min2 rfl) c_min2 M.z_min bt_min (da_cons (dl_dat (de_var 8)) (da_cons (dl_dat (de_var 6)) da_nil))) (de_var 8))))) (da_cons (dl_dat (de_var 2)) da_nil)))))) (dss_one (ds_set 5 sc_least_room.nd (dl_dat (de_var 6)))) (dss_one (ds_set 4 sc_least_room.nd (dl_dat (de_bin op_addA g_add (de_var 6) de_int))))))))
  (dss_one (ds_ret (dl_dat (de_var 4))))))) h_least_room
theorem ok_l_deed (M : Md K mg) : FnOk P w K mg base (L2.CX P w) 3 M.f_l_deed M.d_l_deed ["_law_cart", "_law_wide"] (spD K 2 S_l_deed) :=
  fn_D M.F_l_deed sc_l_deed rfl (fun cdv A outer s H E hr => (dss_cons (ds_par2 2 3 rfl sc_l_deed.nd (da_cons (dl_dat (de_val (dl_call (ok_l_any M) (hr.mono (by decide)) M.g_l_any M.F_l_any.kp M.b_l_any (takes_of rfl rfl rfl rfl) (da_cons (dl_var 0) (da_cons (dl_dat (de_lst (da_cons (dl_dat de_str) (da_cons (dl_dat de_str) (da_cons (dl_dat de_str) (da_cons (dl_dat de_str) (da_cons (dl_dat de_str) (da_cons (dl_dat de_str) da_nil)))))))) da_nil))))) (da_cons (dl_dat (de_val (dl_call (ok_l_any M) (hr.mono (by decide)) M.g_l_any M.F_l_any.kp M.b_l_any (takes_of rfl rfl rfl rfl) (da_cons (dl_var 0) (da_cons (dl_dat (de_lst (da_cons (dl_dat de_int) (da_cons (dl_dat de_int) (da_cons (dl_dat (de_var 1)) da_nil))))) da_nil))))) da_nil)))
  (dss_cons (ds_if (dt_cmp (op_eqP hr.units) g_eq (de_var 2) de_str (nomark _)) (dss_one (ds_ret (dl_dat (de_tup (da_cons (dl_dat (de_var 2)) (da_cons (dl_dat (de_val (dl_call (ok_l_take M) (hr.mono (by decide)) M.g_l_take M.F_l_take.kp M.b_l_take (takes_of rfl rfl rfl rfl) (da_cons (dl_var 0) (da_cons (dl_dat (de_bin op_addA g_add (de_var 3) de_int)) da_nil))))) da_nil)))))) dss_nil)
  (dss_cons (ds_if (dt_cmp (op_eqP hr.units) g_eq (de_var 2) de_str (nomark _)) (dss_one (ds_ret (dl_dat (de_tup (da_cons (dl_dat (de_var 2)) (da_cons (dl_dat (de_bin op_addA g_add de_int (de_val (dl_call (ok_l_take M) (hr.mono (by decide)) M.g_l_take M.F_l_take.kp M.b_l_take (takes_of rfl rfl rfl rfl) (da_cons (dl_var 0) (da_cons (dl_dat (de_var 3)) da_nil)))))) da_nil)))))) dss_nil)
  (dss_one (ds_ret (dl_dat (de_tup (da_cons (dl_dat (de_var 2)) (da_cons (dl_dat (de_val (dl_call (ok_l_any M) (hr.mono (by decide)) M.g_l_any M.F_l_any.kp M.b_l_any (takes_of rfl rfl rfl rfl) (da_cons (dl_var 0) (da_cons (dl_dat (de_lst (da_cons (dl_dat de_int) (da_cons (dl_dat de_int) (da_cons (dl_dat de_int) (da_cons (dl_dat de_int) (da_cons (dl_dat de_int) (da_cons (dl_dat de_int) da_nil)))))))) da_nil))))) (da_cons (dl_dat (de_bin op_addA g_add de_int (de_val (dl_call (ok_l_take M) (hr.mono (by decide)) M.g_l_take M.F_l_take.kp M.b_l_take (takes_of rfl rfl rfl rfl) (da_cons (dl_var 0) (da_cons (dl_dat (de_var 3)) da_nil)))))) da_nil))))))))))) h_l_deed
theorem ok_need_drill (M : Md K mg) : FnOk P w K mg base (L2.CX P w) 4 M.f_need_drill M.d_need_drill ["value"] (spD K 1 S_need_drill) :=
  fn_D M.F_need_drill sc_need_drill rfl (fun cdv A outer s H E hr => (dss_one (ds_if (dt_not (dt_of (de_val (dl_call (ok_fits M) (hr.mono (by decide)) M.g_fits M.F_fits.kp M.b_fits (takes_of rfl rfl rfl rfl) (da_cons (dl_dat (de_var 0)) da_nil))))) (dss_one (ds_raise rfl (takes_of rfl rfl rfl rfl) M.e_InvalidDrill)) dss_nil))) h_need_drill
theorem ok_pair_of (M : Md K mg) : FnOk P w K mg base (L2.CX P w) 4 M.f_pair_of M.d_pair_of ["drill", "many", "sheep"] (spD K 3 S_pair_of) :=
  fn_D M.F_pair_of sc_pair_of rfl (fun cdv A outer s H E hr => (dss_cons (ds_to (de_val (dl_call (ok_small M) (hr.mono (by decide)) M.g_small M.F_small.kp M.b_small (takes_of rfl rfl rfl rfl) (da_cons (dl_dat (de_var 0)) (da_cons (dl_dat (de_var 1)) (da_cons (dl_dat (de_var 2)) da_nil))))) (dg_tup rfl (dgs_cons (dg_name 4 sc_pair_of.nd) (dgs_cons (dg_name 5 sc_pair_of.nd) dgs_nil))))
  (dss_cons (ds_to (de_val (dl_call (ok_terms_of M) (hr.mono (by decide)) M.g_terms_of M.F_terms_of.kp M.b_terms_of (takes_of rfl rfl rfl rfl) (da_cons (dl_dat (de_ix (de_val (dl_call (ok_map_of M) (hr.mono (by decide)) M.g_map_of M.F_map_of.kp M.b_map_of (takes_of rfl rfl rfl rfl) (da_cons (dl_dat (de_var 0)) (da_cons (dl_dat (de_var 4)) da_nil)))) (de_var 5))) da_nil))) (dg_tup rfl (dgs_cons (dg_name 6 sc_pair_of.nd) (dgs_cons (dg_name 7 sc_pair_of.nd) dgs_nil))))
  (dss_cons (ds_set 3 sc_pair_of.nd (dl_dat (de_if (dt_cmp op_lt g_lt (de_var 2) de_int (nomark _)) (de_bin op_addA g_add (de_var 2) (de_var 1)) (de_var 2))))
  (dss_cons (ds_par2 8 9 rfl sc_pair_of.nd (da_cons (dl_dat (de_val (dl_call (ok_deep M) (hr.mono (by decide)) M.g_deep M.F_deep.kp M.b_deep (takes_of rfl rfl rfl rfl) (da_cons (dl_dat (de_var 0)) (da_cons (dl_dat de_str) da_nil))))) (da_cons (dl_new da_nil) da_nil)))
  (dss_cons (ds_for (passes_of rfl) rfl (di_seq (de_var 7)) (dg_tup rfl (dgs_cons (dg_name 10 sc_pair_of.nd) (dgs_cons (dg_name 11 sc_pair_of.nd) dgs_nil))) (dss_cons (ds_if (dt_cmp (op_eqP hr.units) g_eq (de_var 10) (de_var 5) (nomark _)) (dss_one (ds_set 10 sc_pair_of.nd (dl_dat (de_var 3)))) (dss_one (ds_if (dt_cmp op_ge g_ge (de_var 10) (de_var 8) (nomark _)) (dss_one (ds_set 10 sc_pair_of.nd (dl_dat (de_bin op_sub g_sub (de_bin op_addA g_add (de_var 10) (de_var 1)) (de_var 4))))) dss_nil)))
  (dss_one (ds_app 9 (de_tup (da_cons (dl_dat (de_var 10)) (da_cons (dl_dat (de_var 11)) da_nil)))))))
  (dss_one (ds_ret (dl_dat (de_tup (da_cons (dl_dat (de_var 6)) (da_cons (dl_dat (de_cty call_tuple_of c_tuple M.z_tuple bt_tuple (da_cons (dl_dat (de_var 9)) da_nil))) da_nil)))))))))))) h_pair_of
theorem ok_Lane_init_u (M : Md K mg) : FnOk P w K mg base (L2.CX P w) 4 M.f_Lane_init_u M.d_Lane_init_u ["self", "gap", "beginning"] (spD K 3 S_Lane_init_u) :=
  fn_D M.F_Lane_init_u sc_Lane_init_u rfl (fun cdv A outer s H E hr => (dss_cons (ds_if (dt_not (dt_of (de_val (dl_call (ok_is_int M) (hr.mono (by decide)) M.g_is_int M.F_is_int.kp M.b_is_int (takes_of rfl rfl rfl rfl) (da_cons (dl_dat (de_var 1)) (da_cons (dl_dat de_int) (da_cons (dl_dat (de_gint M.g_WIDEST)) da_nil))))))) (dss_one (ds_raise rfl (takes_of rfl rfl rfl rfl) M.e_InvalidDrill)) dss_nil)
  (dss_cons (ds_expr (dl_call (ok_need_beginning M) (hr.mono (by decide)) M.g_need_beginning M.F_need_beginning.kp M.b_need_beginning (takes_of rfl rfl rfl rfl) (da_cons (dl_dat (de_var 1)) (da_cons (dl_dat (de_var 2)) da_nil))))
  (dss_cons (ds_fldO M.I_Lane M.na_Lane_space (dl_var 0) (de_var 1))
  (dss_cons (ds_fldO M.I_Lane M.na_Lane_now (dl_var 0) (de_tup (da_cons (dl_dat (de_var 2)) (da_cons (dl_dat (de_tup da_nil)) da_nil))))
  (dss_one (ds_fldO M.I_Lane M.na_Lane_past (dl_var 0) (de_tup da_nil)))))))) h_Lane_init_u
theorem ini_Lane {X : Cx} {K : PySem.W.Frag} {mg : Str → Option Value} (M : Md K mg) (hK : X.K = K := by rfl) (hm : X.mg = mg := by rfl) : IniF X M.C_Lane M.f_Lane_init_u 4 (fixF 3 S_Lane_init_u) := by
  subst hK hm
  exact IniF.of M.mk_Lane_init_u (ok_Lane_init_u M) M.b_Lane_init_u
theorem ok_parts_here (M : Md K mg) : FnOk P w K mg base (L2.CX P w) 4 M.f_parts_here M.d_parts_here ["drill", "many", "sheep"] (spD K 3 S_parts_here) :=
  fn_D M.F_parts_here sc_parts_here rfl (fun cdv A outer s H E hr => (dss_cons (ds_set 3 sc_parts_here.nd (dl_dat (de_val (dl_call (ok_map_of M) (hr.mono (by decide)) M.g_map_of M.F_map_of.kp M.b_map_of (takes_of rfl rfl rfl rfl) (da_cons (dl_dat (de_var 0)) (da_cons (dl_dat (de_var 1)) da_nil))))))
  (dss_cons (ds_to (de_tup (da_cons (dl_dat (de_ix (de_var 3) (de_var 2))) (da_cons (dl_dat (de_ix (de_var 3) (de_bin op_addA g_add (de_var 2) de_int))) da_nil))) (dg_tup rfl (dgs_cons (dg_name 4 sc_parts_here.nd) (dgs_cons (dg_name 5 sc_parts_here.nd) dgs_nil))))
  (dss_cons (ds_if (dt_cmp op_gt g_gt (de_ix (de_val (dl_call (ok_terms_of M) (hr.mono (by decide)) M.g_terms_of M.F_terms_of.kp M.b_terms_of (takes_of rfl rfl rfl rfl) (da_cons (dl_dat (de_var 5)) da_nil))) de_int) (de_ix (de_val (dl_call (ok_terms_of M) (hr.mono (by decide)) M.g_terms_of M.F_terms_of.kp M.b_terms_of (takes_of rfl rfl rfl rfl) (da_cons (dl_dat (de_var 4)) da_nil))) de_int) (nomark _)) (dss_one (ds_ret (dl_dat de_bl))) dss_nil)
  (dss_one (ds_ret (dl_dat (de_cmp (op_neP hr.units) g_ne (de_comp (own := [("at", 6), ("more", 7)]) rfl sc_parts_here.nd (di_enum M.z_enumerate (da_cons (dl_dat (de_ix (de_var 4) de_int)) da_nil)) (by kernel_rfl) (fun _ _ _ _ _ => (dg_tup rfl (dgs_cons (dg_name 6 sc_parts_here.nd) (dgs_cons (dg_name 7 sc_parts_here.nd) dgs_nil)))) (fun _ _ _ _ _ => (dts_one (dt_cmp op_gt g_gt (de_ix (de_ix (de_var 5) de_int) (de_var 6)) (de_var 7) (nomark _)))) (fun _ _ _ _ _ => de_int)) (de_lst da_nil) (nomark _))))))))) h_parts_here
theorem ok_bounds_of (M : Md K mg) : FnOk P w K mg base (L2.CX P w) 4 M.f_bounds_of M.d_bounds_of ["drill", "ends"] (spD K 2 S_bounds_of) :=
  fn_D M.F_bounds_of sc_bounds_of rfl (fun cdv A outer s H E hr => (dss_cons (ds_to (de_tup (da_cons (dl_dat (de_val (dl_call (ok_map_of M) (hr.mono (by decide)) M.g_map_of M.F_map_of.kp M.b_map_of (takes_of rfl rfl rfl rfl) (da_cons (dl_dat (de_var 0)) (da_cons (dl_dat (de_len M.z_len (da_cons (dl_dat (de_var 1)) da_nil))) da_nil))))) (da_cons (dl_dat (de_val (dl_call (ok_rooms_of M) (hr.mono (by decide)) M.g_rooms_of M.F_rooms_of.kp M.b_rooms_of (takes_of rfl rfl rfl rfl) (da_cons (dl_dat (de_ix (de_var 0) de_int)) (da_cons (dl_dat (de_var 1)) da_nil))))) da_nil))) (dg_tup rfl (dgs_cons (dg_name 3 sc_bounds_of.nd) (dgs_cons (dg_name 4 sc_bounds_of.nd) dgs_nil))))
  (dss_cons (ds_set 2 sc_bounds_of.nd (dl_dat (de_val (dl_call (ok_greatest M) (hr.mono (by decide)) M.g_greatest M.F_greatest.kp M.b_greatest (takes_of rfl rfl rfl rfl) (da_cons (dl_dat (de_var 3)) (da_cons (dl_dat (de_var 4)) da_nil))))))
  (dss_cons (ds_if (dw (dw_or (dt_cmp op_lt g_lt (de_cb (cr_min rfl) c_min M.z_min bt_min (da_cons (dl_dat (de_var 2)) da_nil)) de_int (nomark _)) (dw_or1 (dt_not (dt_of (de_val (dl_call (ok_leads M) (hr.mono (by decide)) M.g_leads M.F_leads.kp M.b_leads (takes_of rfl rfl rfl rfl) (da_cons (dl_dat (de_var 3)) (da_cons (dl_dat (de_var 2)) (da_cons (dl_dat (de_var 4)) da_nil)))))))))) (dss_one (ds_ret (dl_dat de_non))) dss_nil)
  (dss_one (ds_ret (dl_dat (de_comp (own := [("sheep", 5)]) rfl sc_bounds_of.nd (di_range1 M.z_range (da_cons (dl_dat (de_len M.z_len (da_cons (dl_dat (de_var 2)) da_nil))) da_nil)) (by kernel_rfl) (fun _ _ _ _ _ => (dg_name 5 sc_bounds_of.nd)) (fun _ _ _ _ _ => dts_nil) (fun _ _ _ _ _ => (de_tup (da_cons (dl_dat (de_val (dl_call (ok_least_room M) (hr.mono (by decide)) M.g_least_room M.F_least_room.kp M.b_least_room takes0' (da_cons (dl_dat (de_var 3)) (da_cons (dl_dat (de_var 2)) (da_cons (dl_dat (de_var 4)) (da_cons (dl_dat (de_var 5)) da_nil))))))) (da_cons (dl_dat (de_ix (de_var 2) (de_var 5))) da_nil)))))))))))) h_bounds_of
theorem ok_l_deeds (M : Md K mg) : FnOk P w K mg base (L2.CX P w) 4 M.f_l_deeds M.d_l_deeds ["_law_cart", "_law_most", "_law_wide"] (spD K 3 S_l_deeds) :=
  fn_D M.F_l_deeds sc_l_deeds rfl (fun cdv A outer s H E hr => (dss_one (ds_ret (dl_dat (de_cty call_tuple_of c_tuple M.z_tuple bt_tuple (da_cons (dl_dat (de_comp (own := [("_law_turn", 3)]) rfl sc_l_deeds.nd (di_range1 M.z_range (da_cons (dl_dat (de_val (dl_call (ok_l_take M) (hr.mono (by decide)) M.g_l_take M.F_l_take.kp M.b_l_take (takes_of rfl rfl rfl rfl) (da_cons (dl_var 0) (da_cons (dl_dat (de_bin op_addA g_add (de_var 1) de_int)) da_nil))))) da_nil)) (by kernel_rfl) (fun _ _ _ _ _ => (dg_name 3 sc_l_deeds.nd)) (fun _ _ _ _ _ => dts_nil) (fun _ _ _ _ _ => (de_val (dl_call (ok_l_deed M) (hr.mono (by decide)) M.g_l_deed M.F_l_deed.kp M.b_l_deed takes0' (da_cons (dl_var 0) (da_cons (dl_dat (de_var 2)) da_nil))))))) da_nil)))))) h_l_deeds
theorem ok_is_beginning (M : Md K mg) : FnOk P w K mg base (L2.CX P w) 5 M.f_is_beginning M.d_is_beginning ["drill", "value"] (spD K 2 S_is_beginning) :=
  fn_D M.F_is_beginning sc_is_beginning rfl (fun cdv A outer s H E hr => (dss_cons (ds_expr (dl_call (ok_need_drill M) (hr.mono (by decide)) M.g_need_drill M.F_need_drill.kp M.b_need_drill (takes_of rfl rfl rfl rfl) (da_cons (dl_dat (de_var 0)) da_nil)))
  dss_never)) h_is_beginning
theorem ok_form (M : Md K mg) : FnOk P w K mg base (L2.CX P w) 5 M.f_form M.d_form ["drill", "many", "sheep"] (spD K 3 S_form) :=
  fn_D M.F_form sc_form rfl (fun cdv A outer s H E hr => (dss_cons (ds_expr (dl_call (ok_need_drill M) (hr.mono (by decide)) M.g_need_drill M.F_need_drill.kp M.b_need_drill (takes_of rfl rfl rfl rfl) (da_cons (dl_dat (de_var 0)) da_nil)))
  (dss_cons (ds_expr (dl_call (ok_need_many M) (hr.mono (by decide)) M.g_need_many M.F_need_many.kp M.b_need_many (takes_of rfl rfl rfl rfl) (da_cons (dl_dat (de_var 1)) da_nil)))
  (dss_cons (ds_expr (dl_call (ok_need_sheep M) (hr.mono (by decide)) M.g_need_sheep M.F_need_sheep.kp M.b_need_sheep (takes_of rfl rfl rfl rfl) (da_cons (dl_dat (de_var 1)) (da_cons (dl_dat (de_var 2)) da_nil))))
  (dss_one (ds_ret (dl_dat (de_val (dl_call (ok_pair_of M) (hr.mono (by decide)) M.g_pair_of M.F_pair_of.kp M.b_pair_of (takes_of rfl rfl rfl rfl) (da_cons (dl_dat (de_var 0)) (da_cons (dl_dat (de_var 1)) (da_cons (dl_dat (de_var 2)) da_nil)))))))))))) h_form
theorem ok_moves (M : Md K mg) : FnOk P w K mg base (L2.CX P w) 5 M.f_moves M.d_moves ["drill", "many", "sheep"] (spD K 3 S_moves) :=
  fn_D M.F_moves sc_moves rfl (fun cdv A outer s H E hr => (dss_cons (ds_expr (dl_call (ok_need_drill M) (hr.mono (by decide)) M.g_need_drill M.F_need_drill.kp M.b_need_drill (takes_of rfl rfl rfl rfl) (da_cons (dl_dat (de_var 0)) da_nil)))
  (dss_cons (ds_expr (dl_call (ok_need_many M) (hr.mono (by decide)) M.g_need_many M.F_need_many.kp M.b_need_many (takes_of rfl rfl rfl rfl) (da_cons (dl_dat (de_var 1)) da_nil)))
  (dss_cons (ds_expr (dl_call (ok_need_sheep M) (hr.mono (by decide)) M.g_need_sheep M.F_need_sheep.kp M.b_need_sheep (takes_of rfl rfl rfl rfl) (da_cons (dl_dat (de_var 1)) (da_cons (dl_dat (de_var 2)) da_nil))))
  (dss_cons (ds_to (de_val (dl_call (ok_pair_of M) (hr.mono (by decide)) M.g_pair_of M.F_pair_of.kp M.b_pair_of (takes_of rfl rfl rfl rfl) (da_cons (dl_dat (de_var 0)) (da_cons (dl_dat (de_var 1)) (da_cons (dl_dat (de_var 2)) da_nil))))) (dg_tup rfl (dgs_cons (dg_name 3 sc_moves.nd) (dgs_cons (dg_name 4 sc_moves.nd) dgs_nil))))
  (dss_one (ds_ret (dl_dat (de_tup (da_cons (dl_dat (de_ix (de_ix (de_var 4) (de_neg de_int)) de_int)) (da_cons (dl_dat (de_var 3)) da_nil))))))))))) h_moves
theorem ok_least_place (M : Md K mg) : FnOk P w K mg base (L2.CX P w) 5 M.f_least_place M.d_least_place ["drill", "many", "sheep"] (spD K 3 S_least_place) :=
  fn_D M.F_least_place sc_least_place rfl (fun cdv A outer s H E hr => (dss_cons (ds_expr (dl_call (ok_need_drill M) (hr.mono (by decide)) M.g_need_drill M.F_need_drill.kp M.b_need_drill (takes_of rfl rfl rfl rfl) (da_cons (dl_dat (de_var 0)) da_nil)))
  (dss_cons (ds_expr (dl_call (ok_need_many M) (hr.mono (by decide)) M.g_need_many M.F_need_many.kp M.b_need_many (takes_of rfl rfl rfl rfl) (da_cons (dl_dat (de_var 1)) da_nil)))
  (dss_cons (ds_expr (dl_call (ok_need_sheep M) (hr.mono (by decide)) M.g_need_sheep M.F_need_sheep.kp M.b_need_sheep (takes_of rfl rfl rfl rfl) (da_cons (dl_dat (de_var 1)) (da_cons (dl_dat (de_var 2)) da_nil))))
  (dss_cons (ds_set 3 sc_least_place.nd (dl_dat (de_if (dt_cmp op_lt g_lt (de_var 2) de_int (nomark _)) (de_bin op_addA g_add (de_var 2) (de_var 1)) (de_var 2))))
  (dss_one (ds_ret (dl_dat (de_bin op_addA g_add (de_ix (de_val (dl_call (ok_pair_of M) (hr.mono (by decide)) M.g_pair_of M.F_pair_of.kp M.b_pair_of (takes_of rfl rfl rfl rfl) (da_cons (dl_dat (de_var 0)) (da_cons (dl_dat (de_var 1)) (da_cons (dl_dat (de_var 2)) da_nil))))) de_int) (de_bin op_mulB g_mulB (de_var 3) (de_ix (de_var 0) de_int))))))))))) h_least_place
theorem ok_course (M : Md K mg) : FnOk P w K mg base (L2.CX P w) 5 M.f_course M.d_course ["drill", "beginning"] (spD K 2 S_course) :=
  fn_D M.F_course sc_course rfl (fun cdv A outer s H E hr => (dss_cons (ds_expr (dl_call (ok_need_drill M) (hr.mono (by decide)) M.g_need_drill M.F_need_drill.kp M.b_need_drill (takes_of rfl rfl rfl rfl) (da_cons (dl_dat (de_var 0)) da_nil)))
  (dss_cons (ds_expr (dl_call (ok_need_beginning M) (hr.mono (by decide)) M.g_need_beginning M.F_need_beginning.kp M.b_need_beginning (takes_of rfl rfl rfl rfl) (da_cons (dl_dat (de_ix (de_var 0) de_int)) (da_cons (dl_dat (de_var 1)) da_nil))))
  (dss_one (ds_ret (dl_dat (de_val (dl_call (ok_course_of M) (hr.mono (by decide)) M.g_course_of M.F_course_of.kp M.b_course_of (takes_of rfl rfl rfl rfl) (da_cons (dl_dat (de_var 0)) (da_cons (dl_dat (de_var 1)) da_nil)))))))))) h_course
theorem ok_ends (M : Md K mg) : FnOk P w K mg base (L2.CX P w) 5 M.f_ends M.d_ends ["drill", "beginning"] (spD K 2 S_ends) :=
  fn_D M.F_ends sc_ends rfl (fun cdv A outer s H E hr => (dss_cons (ds_expr (dl_call (ok_need_drill M) (hr.mono (by decide)) M.g_need_drill M.F_need_drill.kp M.b_need_drill (takes_of rfl rfl rfl rfl) (da_cons (dl_dat (de_var 0)) da_nil)))
  (dss_cons (ds_expr (dl_call (ok_need_beginning M) (hr.mono (by decide)) M.g_need_beginning M.F_need_beginning.kp M.b_need_beginning (takes_of rfl rfl rfl rfl) (da_cons (dl_dat (de_ix (de_var 0) de_int)) (da_cons (dl_dat (de_var 1)) da_nil))))
  (dss_one (ds_ret (dl_dat (de_ix (de_bin op_addA g_add (de_lst (da_cons (dl_dat (de_var 1)) da_nil)) (de_val (dl_call (ok_course_of M) (hr.mono (by decide)) M.g_course_of M.F_course_of.kp M.b_course_of (takes_of rfl rfl rfl rfl) (da_cons (dl_dat (de_var 0)) (da_cons (dl_dat (de_var 1)) da_nil))))) (de_neg de_int)))))))) h_ends
theorem ok_need_both (M : Md K mg) : FnOk P w K mg base (L2.CX P w) 5 M.f_need_both M.d_need_both ["one", "other"] (spD K 2 S_need_both) :=
  fn_D M.F_need_both sc_need_both rfl (fun cdv A outer s H E hr => (dss_cons (ds_expr (dl_call (ok_need_drill M) (hr.mono (by decide)) M.g_need_drill M.F_need_drill.kp M.b_need_drill (takes_of rfl rfl rfl rfl) (da_cons (dl_dat (de_var 0)) da_nil)))
  (dss_cons (ds_expr (dl_call (ok_need_drill M) (hr.mono (by decide)) M.g_need_drill M.F_need_drill.kp M.b_need_drill (takes_of rfl rfl rfl rfl) (da_cons (dl_dat (de_var 1)) da_nil)))
  (dss_one (ds_if (dt_cmp (op_neP hr.units) g_ne (de_ix (de_var 0) de_int) (de_ix (de_var 1) de_int) (nomark _)) (dss_one (ds_raise rfl (takes_of rfl rfl rfl rfl) M.e_Unlike)) dss_nil))))) h_need_both
theorem ok_past_rows (M : Md K mg) : FnOk P w K mg base (L2.CX P w) 5 M.f_past_rows M.d_past_rows ["drill", "post"] (spD K 2 S_past_rows) :=
  fn_D M.F_past_rows sc_past_rows rfl (fun cdv A outer s H E hr => (dss_cons (ds_expr (dl_call (ok_need_drill M) (hr.mono (by decide)) M.g_need_drill M.F_need_drill.kp M.b_need_drill (takes_of rfl rfl rfl rfl) (da_cons (dl_dat (de_var 0)) da_nil)))
  (dss_cons (ds_if (dt_not (dt_of (de_val (dl_call (ok_is_int M) (hr.mono (by decide)) M.g_is_int M.F_is_int.kp M.b_is_int (takes_of rfl rfl rfl rfl) (da_cons (dl_dat (de_var 1)) (da_cons (dl_dat de_int) (da_cons (dl_dat (de_gint M.g_GREAT)) da_nil))))))) (dss_one (ds_raise rfl (takes_of rfl rfl rfl rfl) M.e_InvalidPlace)) dss_nil)
  (dss_one (ds_ret (dl_dat (de_val (dl_call (ok_shortened M) (hr.mono (by decide)) M.g_shortened M.F_shortened.kp M.b_shortened (takes_of rfl rfl rfl rfl) (da_cons (dl_dat (de_comp (own := [("many", 2)]) rfl sc_past_rows.nd (di_range2 M.z_range (da_cons (dl_dat de_int) (da_cons (dl_dat (de_bin op_addA g_add (de_val (dl_call (ok_enough M) (hr.mono (by decide)) M.g_enough M.F_enough.kp M.b_enough (takes_of rfl rfl rfl rfl) (da_cons (dl_dat (de_var 0)) (da_cons (dl_dat (de_var 0)) da_nil)))) de_int)) da_nil))) (by kernel_rfl) (fun _ _ _ _ _ => (dg_name 2 sc_past_rows.nd)) (fun _ _ _ _ _ => dts_nil) (fun _ _ _ _ _ => (de_cmp op_ge g_ge (de_ix (de_val (dl_call (ok_terms_of M) (hr.mono (by decide)) M.g_terms_of M.F_terms_of.kp M.b_terms_of takes0' (da_cons (dl_dat (de_ix (de_val (dl_call (ok_map_of M) (hr.mono (by decide)) M.g_map_of M.F_map_of.kp M.b_map_of takes0' (da_cons (dl_dat (de_var 0)) (da_cons (dl_dat (de_var 2)) da_nil)))) de_int)) da_nil))) de_int) (de_var 1) (nomark _))))) da_nil))))))))) h_past_rows
theorem ok_parted_of (M : Md K mg) : FnOk P w K mg base (L2.CX P w) 5 M.f_parted_of M.d_parted_of ["drill", "many"] (spD K 2 S_parted_of) :=
  fn_D M.F_parted_of sc_parted_of rfl (fun cdv A outer s H E hr => (dss_one (ds_ret (dl_dat (de_comp (own := [("sheep", 2)]) rfl sc_parted_of.nd (di_range1 M.z_range (da_cons (dl_dat (de_bin op_sub g_sub (de_var 1) de_int)) da_nil)) (by kernel_rfl) (fun _ _ _ _ _ => (dg_name 2 sc_parted_of.nd)) (fun _ _ _ _ _ => (dts_one (dt_of (de_val (dl_call (ok_parts_here M) (hr.mono (by decide)) M.g_parts_here M.F_parts_here.kp M.b_parts_here takes0' (da_cons (dl_dat (de_var 0)) (da_cons (dl_dat (de_var 1)) (da_cons (dl_dat (de_var 2)) da_nil)))))))) (fun _ _ _ _ _ => (de_var 2))))))) h_parted_of
theorem ok_never_parted (M : Md K mg) : FnOk P w K mg base (L2.CX P w) 5 M.f_never_parted M.d_never_parted ["drill"] (spD K 1 S_never_parted) :=
  fn_D M.F_never_parted sc_never_parted rfl (fun cdv A outer s H E hr => (dss_cons (ds_expr (dl_call (ok_need_drill M) (hr.mono (by decide)) M.g_need_drill M.F_need_drill.kp M.b_need_drill (takes_of rfl rfl rfl rfl) (da_cons (dl_dat (de_var 0)) da_nil)))
  dss_never)) h_never_parted
theorem ok_idle (M : Md K mg) : FnOk P w K mg base (L2.CX P w) 5 M.f_idle M.d_idle ["drill"] (spD K 1 S_idle) :=
  fn_D M.F_idle sc_idle rfl (fun cdv A outer s H E hr => (dss_cons (ds_expr (dl_call (ok_need_drill M) (hr.mono (by decide)) M.g_need_drill M.F_need_drill.kp M.b_need_drill (takes_of rfl rfl rfl rfl) (da_cons (dl_dat (de_var 0)) da_nil)))
  dss_never)) h_idle
theorem ok_swaps (M : Md K mg) : FnOk P w K mg base (L2.CX P w) 5 M.f_swaps M.d_swaps ["drill"] (spD K 1 S_swaps) :=
  fn_D M.F_swaps sc_swaps rfl (fun cdv A outer s H E hr => (dss_cons (ds_expr (dl_call (ok_need_drill M) (hr.mono (by decide)) M.g_need_drill M.F_need_drill.kp M.b_need_drill (takes_of rfl rfl rfl rfl) (da_cons (dl_dat (de_var 0)) da_nil)))
  dss_never)) h_swaps
theorem ok_shortest (M : Md K mg) : FnOk P w K mg base (L2.CX P w) 5 M.f_shortest M.d_shortest ["drill"] (spD K 1 S_shortest) :=
  fn_D M.F_shortest sc_shortest rfl (fun cdv A outer s H E hr => (dss_cons (ds_expr (dl_call (ok_need_drill M) (hr.mono (by decide)) M.g_need_drill M.F_need_drill.kp M.b_need_drill (takes_of rfl rfl rfl rfl) (da_cons (dl_dat (de_var 0)) da_nil)))
  dss_never)) h_shortest
theorem ok_bounds (M : Md K mg) : FnOk P w K mg base (L2.CX P w) 5 M.f_bounds M.d_bounds ["drill", "ends"] (spD K 2 S_bounds) :=
  fn_D M.F_bounds sc_bounds rfl (fun cdv A outer s H E hr => (dss_cons (ds_expr (dl_call (ok_need_drill M) (hr.mono (by decide)) M.g_need_drill M.F_need_drill.kp M.b_need_drill (takes_of rfl rfl rfl rfl) (da_cons (dl_dat (de_var 0)) da_nil)))
  (dss_cons (ds_expr (dl_call (ok_need_beginning M) (hr.mono (by decide)) M.g_need_beginning M.F_need_beginning.kp M.b_need_beginning (takes_of rfl rfl rfl rfl) (da_cons (dl_dat (de_ix (de_var 0) de_int)) (da_cons (dl_dat (de_var 1)) da_nil))))
  (dss_cons (ds_to (de_tup (da_cons (dl_dat (de_val (dl_call (ok_bounds_of M) (hr.mono (by decide)) M.g_bounds_of M.F_bounds_of.kp M.b_bounds_of (takes_of rfl rfl rfl rfl) (da_cons (dl_dat (de_var 0)) (da_cons (dl_dat (de_var 1)) da_nil))))) (da_cons (dl_dat (de_ix (de_var 0) de_int)) da_nil))) (dg_tup rfl (dgs_cons (dg_name 2 sc_bounds.nd) (dgs_cons (dg_name 3 sc_bounds.nd) dgs_nil))))
  (dss_cons (ds_if (dt_cmp op_isN g_isN (de_var 2) de_non (nomark _)) (dss_one (ds_ret (dl_dat de_non))) dss_nil)
  (dss_one (ds_ret (dl_dat (de_cty call_tuple_of c_tuple M.z_tuple bt_tuple (da_cons (dl_dat (de_comp (own := [("at", 4), ("low", 5), ("high", 6)]) rfl sc_bounds.nd (di_enum M.z_enumerate (da_cons (dl_dat (de_var 2)) da_nil)) (by kernel_rfl) (fun _ _ _ _ _ => (dg_tup rfl (dgs_cons (dg_name 4 sc_bounds.nd) (dgs_cons (dg_tup rfl (dgs_cons (dg_name 5 sc_bounds.nd) (dgs_cons (dg_name 6 sc_bounds.nd) dgs_nil))) dgs_nil)))) (fun _ _ _ _ _ => dts_nil) (fun _ _ _ _ _ => (de_tup (da_cons (dl_dat (de_bin op_addA g_add (de_var 5) (de_bin op_mulB g_mulB (de_var 4) (de_var 3)))) (da_cons (dl_dat (de_bin op_addA g_add (de_var 6) (de_bin op_mulB g_mulB (de_var 4) (de_var 3)))) da_nil)))))) da_nil)))))))))) h_bounds
theorem ok_greatest_beginning (M : Md K mg) : FnOk P w K mg base (L2.CX P w) 5 M.f_greatest_beginning M.d_greatest_beginning ["drill", "ends"] (spD K 2 S_greatest_beginning) :=
  fn_D M.F_greatest_beginning sc_greatest_beginning rfl (fun cdv A outer s H E hr => (dss_cons (ds_expr (dl_call (ok_need_drill M) (hr.mono (by decide)) M.g_need_drill M.F_need_drill.kp M.b_need_drill (takes_of rfl rfl rfl rfl) (da_cons (dl_dat (de_var 0)) da_nil)))
  (dss_cons (ds_expr (dl_call (ok_need_beginning M) (hr.mono (by decide)) M.g_need_beginning M.F_need_beginning.kp M.b_need_beginning (takes_of rfl rfl rfl rfl) (da_cons (dl_dat (de_ix (de_var 0) de_int)) (da_cons (dl_dat (de_var 1)) da_nil))))
  (dss_cons (ds_to (de_tup (da_cons (dl_dat (de_val (dl_call (ok_bounds_of M) (hr.mono (by decide)) M.g_bounds_of M.F_bounds_of.kp M.b_bounds_of (takes_of rfl rfl rfl rfl) (da_cons (dl_dat (de_var 0)) (da_cons (dl_dat (de_var 1)) da_nil))))) (da_cons (dl_dat (de_ix (de_var 0) de_int)) da_nil))) (dg_tup rfl (dgs_cons (dg_name 2 sc_greatest_beginning.nd) (dgs_cons (dg_name 3 sc_greatest_beginning.nd) dgs_nil))))
  (dss_one (ds_ret (dl_dat (de_if (dt_cmp op_isN g_isN (de_var 2) de_non (nomark _)) de_non (de_cty call_tuple_of c_tuple M.z_tuple bt_tuple (da_cons (dl_dat (de_comp (own := [("at", 4), ("pair", 5)]) rfl sc_greatest_beginning.nd (di_enum M.z_enumerate (da_cons (dl_dat (de_var 2)) da_nil)) (by kernel_rfl) (fun _ _ _ _ _ => (dg_tup rfl (dgs_cons (dg_name 4 sc_greatest_beginning.nd) (dgs_cons (dg_name 5 sc_greatest_beginning.nd) dgs_nil)))) (fun _ _ _ _ _ => dts_nil) (fun _ _ _ _ _ => (de_bin op_addA g_add (de_ix (de_var 5) de_int) (de_bin op_mulB g_mulB (de_var 4) (de_var 3)))))) da_nil)))))))))) h_greatest_beginning
theorem ok_drill_text (M : Md K mg) : FnOk P w K mg base (L2.CX P w) 5 M.f_drill_text M.d_drill_text ["drill"] (spD K 1 S_drill_text) :=
  fn_D M.F_drill_text sc_drill_text rfl (fun cdv A outer s H E hr => (dss_cons (ds_expr (dl_call (ok_need_drill M) (hr.mono (by decide)) M.g_need_drill M.F_need_drill.kp M.b_need_drill (takes_of rfl rfl rfl rfl) (da_cons (dl_dat (de_var 0)) da_nil)))
  dss_never)) h_drill_text
theorem ok_l_work (M : Md K mg) : FnOk P w K mg base (L2.CX P w) 5 M.f_l_work M.d_l_work ["_law_cart", "_law_most"] (spD K 2 S_l_work) :=
  fn_D M.F_l_work sc_l_work rfl (fun cdv A outer s H E hr => (dss_one (ds_ret (dl_dat (de_tup (da_cons (dl_dat (de_bin op_addA g_add de_int (de_val (dl_call (ok_l_take M) (hr.mono (by decide)) M.g_l_take M.F_l_take.kp M.b_l_take (takes_of rfl rfl rfl rfl) (da_cons (dl_var 0) (da_cons (dl_dat de_int) da_nil)))))) (da_cons (dl_dat (de_val (dl_call (ok_l_deeds M) (hr.mono (by decide)) M.g_l_deeds M.F_l_deeds.kp M.b_l_deeds (takes_of rfl rfl rfl rfl) (da_cons (dl_var 0) (da_cons (dl_dat (de_var 1)) (da_cons (dl_dat (de_val (dl_call (ok_l_any M) (hr.mono (by decide)) M.g_l_any M.F_l_any.kp M.b_l_any (takes_of rfl rfl rfl rfl) (da_cons (dl_var 0) (da_cons (dl_dat (de_lst (da_cons (dl_dat de_int) (da_cons (dl_dat de_int) (da_cons (dl_dat (de_bin op_pow g_pow de_int de_int)) da_nil))))) da_nil))))) da_nil)))))) da_nil))))))) h_l_work
theorem ok_alike (M : Md K mg) : FnOk P w K mg base (L2.CX P w) 6 M.f_alike M.d_alike ["one", "other"] (spD K 2 S_alike) :=
  fn_D M.F_alike sc_alike rfl (fun cdv A outer s H E hr => (dss_cons (ds_expr (dl_call (ok_need_both M) (hr.mono (by decide)) M.g_need_both M.F_need_both.kp M.b_need_both (takes_of rfl rfl rfl rfl) (da_cons (dl_dat (de_var 0)) (da_cons (dl_dat (de_var 1)) da_nil))))
  dss_never)) h_alike
theorem ok_parting (M : Md K mg) : FnOk P w K mg base (L2.CX P w) 6 M.f_parting M.d_parting ["one", "other"] (spD K 2 S_parting) :=
  fn_D M.F_parting sc_parting rfl (fun cdv A outer s H E hr => (dss_cons (ds_expr (dl_call (ok_need_both M) (hr.mono (by decide)) M.g_need_both M.F_need_both.kp M.b_need_both (takes_of rfl rfl rfl rfl) (da_cons (dl_dat (de_var 0)) (da_cons (dl_dat (de_var 1)) da_nil))))
  dss_never)) h_parting
theorem ok_never_behind (M : Md K mg) : FnOk P w K mg base (L2.CX P w) 6 M.f_never_behind M.d_never_behind ["one", "other"] (spD K 2 S_never_behind) :=
  fn_D M.F_never_behind sc_never_behind rfl (fun cdv A outer s H E hr => (dss_cons (ds_expr (dl_call (ok_need_both M) (hr.mono (by decide)) M.g_need_both M.F_need_both.kp M.b_need_both (takes_of rfl rfl rfl rfl) (da_cons (dl_dat (de_var 0)) (da_cons (dl_dat (de_var 1)) da_nil))))
  dss_never)) h_never_behind
theorem ok_first_behind (M : Md K mg) : FnOk P w K mg base (L2.CX P w) 6 M.f_first_behind M.d_first_behind ["one", "other"] (spD K 2 S_first_behind) :=
  fn_D M.F_first_behind sc_first_behind rfl (fun cdv A outer s H E hr => (dss_cons (ds_expr (dl_call (ok_need_both M) (hr.mono (by decide)) M.g_need_both M.F_need_both.kp M.b_need_both (takes_of rfl rfl rfl rfl) (da_cons (dl_dat (de_var 0)) (da_cons (dl_dat (de_var 1)) da_nil))))
  dss_never)) h_first_behind
theorem ok_parted (M : Md K mg) : FnOk P w K mg base (L2.CX P w) 6 M.f_parted M.d_parted ["drill", "many"] (spD K 2 S_parted) :=
  fn_D M.F_parted sc_parted rfl (fun cdv A outer s H E hr => (dss_cons (ds_expr (dl_call (ok_need_drill M) (hr.mono (by decide)) M.g_need_drill M.F_need_drill.kp M.b_need_drill (takes_of rfl rfl rfl rfl) (da_cons (dl_dat (de_var 0)) da_nil)))
  (dss_cons (ds_if (dt_not (dt_of (de_val (dl_call (ok_is_int M) (hr.mono (by decide)) M.g_is_int M.F_is_int.kp M.b_is_int (takes_of rfl rfl rfl rfl) (da_cons (dl_dat (de_var 1)) (da_cons (dl_dat de_int) (da_cons (dl_dat (de_gint M.g_MOST_SHEEP)) da_nil))))))) (dss_one (ds_raise rfl (takes_of rfl rfl rfl rfl) M.e_InvalidMany)) dss_nil)
  (dss_one (ds_ret (dl_dat (de_val (dl_call (ok_parted_of M) (hr.mono (by decide)) M.g_parted_of M.F_parted_of.kp M.b_parted_of (takes_of rfl rfl rfl rfl) (da_cons (dl_dat (de_var 0)) (da_cons (dl_dat (de_var 1)) da_nil)))))))))) h_parted
theorem lam_l_first_calls_0 (M : Md K mg) : LamB P w K mg base 5 LR_l_first_calls_0 (lamS LB_l_first_calls_0) :=
  lamB_of (fun A outer s H E f c' cl hr => (dl_dat (de_val (dl_call (ok_is_beginning M) (hr.mono (by decide)) M.g_is_beginning M.F_is_beginning.kp M.b_is_beginning (takes_of rfl rfl rfl rfl) (da_cons (dl_dat (de_var 0)) (da_cons (dl_dat de_non) da_nil))))))
theorem lam_l_first_calls_1 (M : Md K mg) : LamB P w K mg base 5 LR_l_first_calls_1 (lamS LB_l_first_calls_1) :=
  lamB_of (fun A outer s H E f c' cl hr => (dl_dat (de_val (dl_call (ok_course M) (hr.mono (by decide)) M.g_course M.F_course.kp M.b_course (takes_of rfl rfl rfl rfl) (da_cons (dl_dat (de_var 0)) (da_cons (dl_dat de_non) da_nil))))))
theorem lam_l_first_calls_2 (M : Md K mg) : LamB P w K mg base 5 LR_l_first_calls_2 (lamS LB_l_first_calls_2) :=
  lamB_of (fun A outer s H E f c' cl hr => (dl_dat (de_val (dl_call (ok_ends M) (hr.mono (by decide)) M.g_ends M.F_ends.kp M.b_ends (takes_of rfl rfl rfl rfl) (da_cons (dl_dat (de_var 0)) (da_cons (dl_dat de_non) da_nil))))))
theorem lam_l_first_calls_3 (M : Md K mg) : LamB P w K mg base 5 LR_l_first_calls_3 (lamS LB_l_first_calls_3) :=
  lamB_of (fun A outer s H E f c' cl hr => (dl_dat (de_val (dl_call (ok_form M) (hr.mono (by decide)) M.g_form M.F_form.kp M.b_form (takes_of rfl rfl rfl rfl) (da_cons (dl_dat (de_var 0)) (da_cons (dl_dat de_non) (da_cons (dl_dat de_non) da_nil)))))))
theorem lam_l_first_calls_4 (M : Md K mg) : LamB P w K mg base 5 LR_l_first_calls_4 (lamS LB_l_first_calls_4) :=
  lamB_of (fun A outer s H E f c' cl hr => (dl_dat (de_val (dl_call (ok_moves M) (hr.mono (by decide)) M.g_moves M.F_moves.kp M.b_moves (takes_of rfl rfl rfl rfl) (da_cons (dl_dat (de_var 0)) (da_cons (dl_dat de_non) (da_cons (dl_dat de_non) da_nil)))))))
theorem lam_l_first_calls_5 (M : Md K mg) : LamB P w K mg base 5 LR_l_first_calls_5 (lamS LB_l_first_calls_5) :=
  lamB_of (fun A outer s H E f c' cl hr => (dl_dat (de_val (dl_call (ok_least_place M) (hr.mono (by decide)) M.g_least_place M.F_least_place.kp M.b_least_place (takes_of rfl rfl rfl rfl) (da_cons (dl_dat (de_var 0)) (da_cons (dl_dat de_non) (da_cons (dl_dat de_non) da_nil)))))))
theorem lam_l_first_calls_6 (M : Md K mg) : LamB P w K mg base 5 LR_l_first_calls_6 (lamS LB_l_first_calls_6) :=
  lamB_of (fun A outer s H E f c' cl hr => (dl_dat (de_val (dl_call (ok_past_rows M) (hr.mono (by decide)) M.g_past_rows M.F_past_rows.kp M.b_past_rows (takes_of rfl rfl rfl rfl) (da_cons (dl_dat (de_var 0)) (da_cons (dl_dat de_non) da_nil))))))
theorem lam_l_first_calls_7 (M : Md K mg) : LamB P w K mg base 5 LR_l_first_calls_7 (lamS LB_l_first_calls_7) :=
  lamB_of (fun A outer s H E f c' cl hr => (dl_dat (de_val (dl_call (ok_never_parted M) (hr.mono (by decide)) M.g_never_parted M.F_never_parted.kp M.b_never_parted (takes_of rfl rfl rfl rfl) (da_cons (dl_dat (de_var 0)) da_nil)))))
theorem lam_l_first_calls_8 (M : Md K mg) : LamB P w K mg base 6 LR_l_first_calls_8 (lamS LB_l_first_calls_8) :=
  lamB_of (fun A outer s H E f c' cl hr => (dl_dat (de_val (dl_call (ok_parted M) (hr.mono (by decide)) M.g_parted M.F_parted.kp M.b_parted (takes_of rfl rfl rfl rfl) (da_cons (dl_dat (de_var 0)) (da_cons (dl_dat de_non) da_nil))))))
theorem lam_l_first_calls_9 (M : Md K mg) : LamB P w K mg base 5 LR_l_first_calls_9 (lamS LB_l_first_calls_9) :=
  lamB_of (fun A outer s H E f c' cl hr => (dl_dat (de_val (dl_call (ok_idle M) (hr.mono (by decide)) M.g_idle M.F_idle.kp M.b_idle (takes_of rfl rfl rfl rfl) (da_cons (dl_dat (de_var 0)) da_nil)))))
theorem lam_l_first_calls_10 (M : Md K mg) : LamB P w K mg base 5 LR_l_first_calls_10 (lamS LB_l_first_calls_10) :=
  lamB_of (fun A outer s H E f c' cl hr => (dl_dat (de_val (dl_call (ok_swaps M) (hr.mono (by decide)) M.g_swaps M.F_swaps.kp M.b_swaps (takes_of rfl rfl rfl rfl) (da_cons (dl_dat (de_var 0)) da_nil)))))
theorem lam_l_first_calls_11 (M : Md K mg) : LamB P w K mg base 5 LR_l_first_calls_11 (lamS LB_l_first_calls_11) :=
  lamB_of (fun A outer s H E f c' cl hr => (dl_dat (de_val (dl_call (ok_shortest M) (hr.mono (by decide)) M.g_shortest M.F_shortest.kp M.b_shortest (takes_of rfl rfl rfl rfl) (da_cons (dl_dat (de_var 0)) da_nil)))))
theorem lam_l_first_calls_12 (M : Md K mg) : LamB P w K mg base 5 LR_l_first_calls_12 (lamS LB_l_first_calls_12) :=
  lamB_of (fun A outer s H E f c' cl hr => (dl_dat (de_val (dl_call (ok_bounds M) (hr.mono (by decide)) M.g_bounds M.F_bounds.kp M.b_bounds (takes_of rfl rfl rfl rfl) (da_cons (dl_dat (de_var 0)) (da_cons (dl_dat de_non) da_nil))))))
theorem lam_l_first_calls_13 (M : Md K mg) : LamB P w K mg base 5 LR_l_first_calls_13 (lamS LB_l_first_calls_13) :=
  lamB_of (fun A outer s H E f c' cl hr => (dl_dat (de_val (dl_call (ok_greatest_beginning M) (hr.mono (by decide)) M.g_greatest_beginning M.F_greatest_beginning.kp M.b_greatest_beginning (takes_of rfl rfl rfl rfl) (da_cons (dl_dat (de_var 0)) (da_cons (dl_dat de_non) da_nil))))))
theorem lam_l_first_calls_14 (M : Md K mg) : LamB P w K mg base 5 LR_l_first_calls_14 (lamS LB_l_first_calls_14) :=
  lamB_of (fun A outer s H E f c' cl hr => (dl_dat (de_val (dl_call (ok_drill_text M) (hr.mono (by decide)) M.g_drill_text M.F_drill_text.kp M.b_drill_text (takes_of rfl rfl rfl rfl) (da_cons (dl_dat (de_var 0)) da_nil)))))
theorem ok_l_first_calls (M : Md K mg) (TB_l_first_calls : LamX.TabB base mg M.c_l_first_calls M.P_l_first_calls) : FnOk P w K mg base (L2.CX P w) 7 M.f_l_first_calls M.d_l_first_calls ["_law_work_here"] (spD K 1 (S_l_first_calls (FZ K))) := by
  rw [M.db_l_first_calls]
  exact fn_DZ (F := S_l_first_calls (FZ K)) (B := B_l_first_calls) M.lk_l_first_calls M.cd_l_first_calls sc_l_first_calls rfl [LR_l_first_calls_0, LR_l_first_calls_1, LR_l_first_calls_2, LR_l_first_calls_3, LR_l_first_calls_4, LR_l_first_calls_5, LR_l_first_calls_6, LR_l_first_calls_7, LR_l_first_calls_8, LR_l_first_calls_9, LR_l_first_calls_10, LR_l_first_calls_11, LR_l_first_calls_12, LR_l_first_calls_13, LR_l_first_calls_14] LR_l_first_calls_0 [[0], [0], [0], [0], [0], [0], [0], [0], [0], [0], [0], [0], [0], [0], [0]] (LsOk.at (N := ["_law_work_here", "_law_rows"]) ⟨⟨ls_l_first_calls_0, rfl⟩, ⟨ls_l_first_calls_1, rfl⟩, ⟨ls_l_first_calls_2, rfl⟩, ⟨ls_l_first_calls_3, rfl⟩, ⟨ls_l_first_calls_4, rfl⟩, ⟨ls_l_first_calls_5, rfl⟩, ⟨ls_l_first_calls_6, rfl⟩, ⟨ls_l_first_calls_7, rfl⟩, ⟨ls_l_first_calls_8, rfl⟩, ⟨ls_l_first_calls_9, rfl⟩, ⟨ls_l_first_calls_10, rfl⟩, ⟨ls_l_first_calls_11, rfl⟩, ⟨ls_l_first_calls_12, rfl⟩, ⟨ls_l_first_calls_13, rfl⟩, ⟨ls_l_first_calls_14, rfl⟩, trivial⟩) rfl (fun A outer s H E hr => (dz_cons (ds_set 1 sc_l_first_calls.nd (dl_new (da_cons (dl_mk (L := LR_l_first_calls_0) TB_l_first_calls rfl M.tm_l_first_calls M.tu_l_first_calls ls_l_first_calls_0) da_nil)))
  (dz_cons (ds_app 1 (de_val (dl_mk (L := LR_l_first_calls_1) TB_l_first_calls rfl M.tm_l_first_calls M.tu_l_first_calls ls_l_first_calls_1)))
  (dz_cons (ds_app 1 (de_val (dl_mk (L := LR_l_first_calls_2) TB_l_first_calls rfl M.tm_l_first_calls M.tu_l_first_calls ls_l_first_calls_2)))
  (dz_cons (ds_app 1 (de_val (dl_mk (L := LR_l_first_calls_3) TB_l_first_calls rfl M.tm_l_first_calls M.tu_l_first_calls ls_l_first_calls_3)))
  (dz_cons (ds_app 1 (de_val (dl_mk (L := LR_l_first_calls_4) TB_l_first_calls rfl M.tm_l_first_calls M.tu_l_first_calls ls_l_first_calls_4)))
  (dz_cons (ds_app 1 (de_val (dl_mk (L := LR_l_first_calls_5) TB_l_first_calls rfl M.tm_l_first_calls M.tu_l_first_calls ls_l_first_calls_5)))
  (dz_cons (ds_app 1 (de_val (dl_mk (L := LR_l_first_calls_6) TB_l_first_calls rfl M.tm_l_first_calls M.tu_l_first_calls ls_l_first_calls_6)))
  (dz_cons (ds_app 1 (de_val (dl_mk (L := LR_l_first_calls_7) TB_l_first_calls rfl M.tm_l_first_calls M.tu_l_first_calls ls_l_first_calls_7)))
  (dz_cons (ds_app 1 (de_val (dl_mk (L := LR_l_first_calls_8) TB_l_first_calls rfl M.tm_l_first_calls M.tu_l_first_calls ls_l_first_calls_8)))
  (dz_cons (ds_app 1 (de_val (dl_mk (L := LR_l_first_calls_9) TB_l_first_calls rfl M.tm_l_first_calls M.tu_l_first_calls ls_l_first_calls_9)))
  (dz_cons (ds_app 1 (de_val (dl_mk (L := LR_l_first_calls_10) TB_l_first_calls rfl M.tm_l_first_calls M.tu_l_first_calls ls_l_first_calls_10)))
  (dz_cons (ds_app 1 (de_val (dl_mk (L := LR_l_first_calls_11) TB_l_first_calls rfl M.tm_l_first_calls M.tu_l_first_calls ls_l_first_calls_11)))
  (dz_cons (ds_app 1 (de_val (dl_mk (L := LR_l_first_calls_12) TB_l_first_calls rfl M.tm_l_first_calls M.tu_l_first_calls ls_l_first_calls_12)))
  (dz_cons (ds_app 1 (de_val (dl_mk (L := LR_l_first_calls_13) TB_l_first_calls rfl M.tm_l_first_calls M.tu_l_first_calls ls_l_first_calls_13)))
  (dz_cons (ds_app 1 (de_val (dl_mk (L := LR_l_first_calls_14) TB_l_first_calls rfl M.tm_l_first_calls M.tu_l_first_calls ls_l_first_calls_14)))
  (dz_ret (dl_dat (de_var 1))) (fun _ _ h => h)) (fun _ _ h => h)) (fun _ _ h => h)) (fun _ _ h => h)) (fun _ _ h => h)) (fun _ _ h => h)) (fun _ _ h => h)) (fun _ _ h => h)) (fun _ _ h => h)) (fun _ _ h => h)) (fun _ _ h => h)) (fun _ _ h => h)) (fun _ _ h => h)) (fun _ _ h => h)) (fun _ _ h => h))) (fun Lm ss T Q QX hl h => by
    have z := h_l_first_calls Lm (FZ K) ss T Q QX hl h
    simp only [fz_0, fz_1, fz_2, fz_3, fz_4, fz_5, fz_6, fz_7, fz_8, fz_9, fz_10, fz_11, fz_12, fz_13, fz_14] at z
    exact z)
theorem lam_l_pair_calls_0 (M : Md K mg) : LamB P w K mg base 6 LR_l_pair_calls_0 (lamS LB_l_pair_calls_0) :=
  lamB_of (fun A outer s H E f c' cl hr => (dl_dat (de_val (dl_call (ok_alike M) (hr.mono (by decide)) M.g_alike M.F_alike.kp M.b_alike (takes_of rfl rfl rfl rfl) (da_cons (dl_var 0) (da_cons (dl_var 1) da_nil))))))
theorem lam_l_pair_calls_1 (M : Md K mg) : LamB P w K mg base 6 LR_l_pair_calls_1 (lamS LB_l_pair_calls_1) :=
  lamB_of (fun A outer s H E f c' cl hr => (dl_dat (de_val (dl_call (ok_parting M) (hr.mono (by decide)) M.g_parting M.F_parting.kp M.b_parting (takes_of rfl rfl rfl rfl) (da_cons (dl_var 0) (da_cons (dl_var 1) da_nil))))))
theorem lam_l_pair_calls_2 (M : Md K mg) : LamB P w K mg base 6 LR_l_pair_calls_2 (lamS LB_l_pair_calls_2) :=
  lamB_of (fun A outer s H E f c' cl hr => (dl_dat (de_val (dl_call (ok_never_behind M) (hr.mono (by decide)) M.g_never_behind M.F_never_behind.kp M.b_never_behind (takes_of rfl rfl rfl rfl) (da_cons (dl_var 0) (da_cons (dl_var 1) da_nil))))))
theorem lam_l_pair_calls_3 (M : Md K mg) : LamB P w K mg base 6 LR_l_pair_calls_3 (lamS LB_l_pair_calls_3) :=
  lamB_of (fun A outer s H E f c' cl hr => (dl_dat (de_val (dl_call (ok_first_behind M) (hr.mono (by decide)) M.g_first_behind M.F_first_behind.kp M.b_first_behind (takes_of rfl rfl rfl rfl) (da_cons (dl_var 0) (da_cons (dl_var 1) da_nil))))))
theorem ok_l_pair_calls (M : Md K mg) (TB_l_pair_calls : LamX.TabB base mg M.c_l_pair_calls M.P_l_pair_calls) : FnOk P w K mg base (L2.CX P w) 7 M.f_l_pair_calls M.d_l_pair_calls ["_law_one", "_law_other"] (spD K 2 (S_l_pair_calls (FZ K))) := by
  rw [M.db_l_pair_calls]
  exact fn_DZ (F := S_l_pair_calls (FZ K)) (B := B_l_pair_calls) M.lk_l_pair_calls M.cd_l_pair_calls sc_l_pair_calls rfl [LR_l_pair_calls_0, LR_l_pair_calls_1, LR_l_pair_calls_2, LR_l_pair_calls_3] LR_l_pair_calls_0 [[0, 1], [0, 1], [0, 1], [0, 1]] (LsOk.at (N := ["_law_one", "_law_other", "_law_rows"]) ⟨⟨ls_l_pair_calls_0, rfl⟩, ⟨ls_l_pair_calls_1, rfl⟩, ⟨ls_l_pair_calls_2, rfl⟩, ⟨ls_l_pair_calls_3, rfl⟩, trivial⟩) rfl (fun A outer s H E hr => (dz_cons (ds_set 2 sc_l_pair_calls.nd (dl_new (da_cons (dl_mk (L := LR_l_pair_calls_0) TB_l_pair_calls rfl M.tm_l_pair_calls M.tu_l_pair_calls ls_l_pair_calls_0) da_nil)))
  (dz_cons (ds_app 2 (de_val (dl_mk (L := LR_l_pair_calls_1) TB_l_pair_calls rfl M.tm_l_pair_calls M.tu_l_pair_calls ls_l_pair_calls_1)))
  (dz_cons (ds_app 2 (de_val (dl_mk (L := LR_l_pair_calls_2) TB_l_pair_calls rfl M.tm_l_pair_calls M.tu_l_pair_calls ls_l_pair_calls_2)))
  (dz_cons (ds_app 2 (de_val (dl_mk (L := LR_l_pair_calls_3) TB_l_pair_calls rfl M.tm_l_pair_calls M.tu_l_pair_calls ls_l_pair_calls_3)))
  (dz_ret (dl_dat (de_var 2))) (fun _ _ h => h)) (fun _ _ h => h)) (fun _ _ h => h)) (fun _ _ h => h))) (fun Lm ss T Q QX hl h => by
    have z := h_l_pair_calls Lm (FZ K) ss T Q QX hl h
    simp only [fz_15, fz_16, fz_17, fz_18] at z
    exact z)
theorem lam_l_place_calls_0 (M : Md K mg) : LamB P w K mg base 5 LR_l_place_calls_0 (lamS LB_l_place_calls_0) :=
  lamB_of (fun A outer s H E f c' cl hr => (dl_dat (de_val (dl_call (ok_course M) (hr.mono (by decide)) M.g_course M.F_course.kp M.b_course (takes_of rfl rfl rfl rfl) (da_cons (dl_dat (de_var 0)) (da_cons (dl_dat (de_var 1)) da_nil))))))
theorem lam_l_place_calls_1 (M : Md K mg) : LamB P w K mg base 5 LR_l_place_calls_1 (lamS LB_l_place_calls_1) :=
  lamB_of (fun A outer s H E f c' cl hr => (dl_dat (de_val (dl_call (ok_ends M) (hr.mono (by decide)) M.g_ends M.F_ends.kp M.b_ends (takes_of rfl rfl rfl rfl) (da_cons (dl_dat (de_var 0)) (da_cons (dl_dat (de_var 1)) da_nil))))))
theorem lam_l_place_calls_2 (M : Md K mg) : LamB P w K mg base 5 LR_l_place_calls_2 (lamS LB_l_place_calls_2) :=
  lamB_of (fun A outer s H E f c' cl hr => (dl_dat (de_val (dl_call (ok_bounds M) (hr.mono (by decide)) M.g_bounds M.F_bounds.kp M.b_bounds (takes_of rfl rfl rfl rfl) (da_cons (dl_dat (de_var 0)) (da_cons (dl_dat (de_var 1)) da_nil))))))
theorem lam_l_place_calls_3 (M : Md K mg) : LamB P w K mg base 5 LR_l_place_calls_3 (lamS LB_l_place_calls_3) :=
  lamB_of (fun A outer s H E f c' cl hr => (dl_dat (de_val (dl_call (ok_greatest_beginning M) (hr.mono (by decide)) M.g_greatest_beginning M.F_greatest_beginning.kp M.b_greatest_beginning (takes_of rfl rfl rfl rfl) (da_cons (dl_dat (de_var 0)) (da_cons (dl_dat (de_var 1)) da_nil))))))
theorem lam_l_place_calls_4 (M : Md K mg) : LamB P w K mg base 6 LR_l_place_calls_4 (lamS LB_l_place_calls_4) :=
  lamB_of (fun A outer s H E f c' cl hr => (dl_make M.I_Lane (ini_Lane M) (hr.mono (by decide)) (takes_of rfl rfl rfl rfl) M.gc_Lane (da_cons (dl_dat (de_ix (de_var 0) de_int)) (da_cons (dl_dat (de_var 1)) da_nil))))
theorem ok_l_place_calls (M : Md K mg) (TB_l_place_calls : LamX.TabB base mg M.c_l_place_calls M.P_l_place_calls) : FnOk P w K mg base (L2.CX P w) 7 M.f_l_place_calls M.d_l_place_calls ["_law_work_here", "_law_places"] (spD K 2 (S_l_place_calls (FZ K))) := by
  rw [M.db_l_place_calls]
  exact fn_DZ (F := S_l_place_calls (FZ K)) (B := B_l_place_calls) M.lk_l_place_calls M.cd_l_place_calls sc_l_place_calls rfl [LR_l_place_calls_0, LR_l_place_calls_1, LR_l_place_calls_2, LR_l_place_calls_3, LR_l_place_calls_4] LR_l_place_calls_0 [[0, 1], [0, 1], [0, 1], [0, 1], [0, 1]] (LsOk.at (N := ["_law_work_here", "_law_places", "_law_rows"]) ⟨⟨ls_l_place_calls_0, rfl⟩, ⟨ls_l_place_calls_1, rfl⟩, ⟨ls_l_place_calls_2, rfl⟩, ⟨ls_l_place_calls_3, rfl⟩, ⟨ls_l_place_calls_4, rfl⟩, trivial⟩) rfl (fun A outer s H E hr => (dz_cons (ds_set 2 sc_l_place_calls.nd (dl_new (da_cons (dl_mk (L := LR_l_place_calls_0) TB_l_place_calls rfl M.tm_l_place_calls M.tu_l_place_calls ls_l_place_calls_0) da_nil)))
  (dz_cons (ds_app 2 (de_val (dl_mk (L := LR_l_place_calls_1) TB_l_place_calls rfl M.tm_l_place_calls M.tu_l_place_calls ls_l_place_calls_1)))
  (dz_cons (ds_app 2 (de_val (dl_mk (L := LR_l_place_calls_2) TB_l_place_calls rfl M.tm_l_place_calls M.tu_l_place_calls ls_l_place_calls_2)))
  (dz_cons (ds_app 2 (de_val (dl_mk (L := LR_l_place_calls_3) TB_l_place_calls rfl M.tm_l_place_calls M.tu_l_place_calls ls_l_place_calls_3)))
  (dz_cons (ds_app 2 (de_val (dl_mk (L := LR_l_place_calls_4) TB_l_place_calls rfl M.tm_l_place_calls M.tu_l_place_calls ls_l_place_calls_4)))
  (dz_ret (dl_dat (de_var 2))) (fun _ _ h => h)) (fun _ _ h => h)) (fun _ _ h => h)) (fun _ _ h => h)) (fun _ _ h => h))) (fun Lm ss T Q QX hl h => by
    have z := h_l_place_calls Lm (FZ K) ss T Q QX hl h
    simp only [fz_19, fz_20, fz_21, fz_22, fz_23] at z
    exact z)
theorem lam_l_many_calls_0 (M : Md K mg) : LamB P w K mg base 5 LR_l_many_calls_0 (lamS LB_l_many_calls_0) :=
  lamB_of (fun A outer s H E f c' cl hr => (dl_dat (de_val (dl_call (ok_form M) (hr.mono (by decide)) M.g_form M.F_form.kp M.b_form (takes_of rfl rfl rfl rfl) (da_cons (dl_dat (de_var 0)) (da_cons (dl_dat (de_var 1)) (da_cons (dl_dat (de_var 2)) da_nil)))))))
theorem lam_l_many_calls_1 (M : Md K mg) : LamB P w K mg base 5 LR_l_many_calls_1 (lamS LB_l_many_calls_1) :=
  lamB_of (fun A outer s H E f c' cl hr => (dl_dat (de_val (dl_call (ok_moves M) (hr.mono (by decide)) M.g_moves M.F_moves.kp M.b_moves (takes_of rfl rfl rfl rfl) (da_cons (dl_dat (de_var 0)) (da_cons (dl_dat (de_var 1)) (da_cons (dl_dat (de_var 2)) da_nil)))))))
theorem lam_l_many_calls_2 (M : Md K mg) : LamB P w K mg base 5 LR_l_many_calls_2 (lamS LB_l_many_calls_2) :=
  lamB_of (fun A outer s H E f c' cl hr => (dl_dat (de_val (dl_call (ok_least_place M) (hr.mono (by decide)) M.g_least_place M.F_least_place.kp M.b_least_place (takes_of rfl rfl rfl rfl) (da_cons (dl_dat (de_var 0)) (da_cons (dl_dat (de_var 1)) (da_cons (dl_dat (de_var 2)) da_nil)))))))
theorem ok_l_many_calls (M : Md K mg) (TB_l_many_calls : LamX.TabB base mg M.c_l_many_calls M.P_l_many_calls) : FnOk P w K mg base (L2.CX P w) 7 M.f_l_many_calls M.d_l_many_calls ["_law_work_here", "_law_many", "_law_sheep"] (spD K 3 (S_l_many_calls (FZ K))) := by
  rw [M.db_l_many_calls]
  exact fn_DZ (F := S_l_many_calls (FZ K)) (B := B_l_many_calls) M.lk_l_many_calls M.cd_l_many_calls sc_l_many_calls rfl [LR_l_many_calls_0, LR_l_many_calls_1, LR_l_many_calls_2] LR_l_many_calls_0 [[0, 1, 2], [0, 1, 2], [0, 1, 2]] (LsOk.at (N := ["_law_work_here", "_law_many", "_law_sheep", "_law_rows"]) ⟨⟨ls_l_many_calls_0, rfl⟩, ⟨ls_l_many_calls_1, rfl⟩, ⟨ls_l_many_calls_2, rfl⟩, trivial⟩) rfl (fun A outer s H E hr => (dz_cons (ds_set 3 sc_l_many_calls.nd (dl_new (da_cons (dl_mk (L := LR_l_many_calls_0) TB_l_many_calls rfl M.tm_l_many_calls M.tu_l_many_calls ls_l_many_calls_0) da_nil)))
  (dz_cons (ds_app 3 (de_val (dl_mk (L := LR_l_many_calls_1) TB_l_many_calls rfl M.tm_l_many_calls M.tu_l_many_calls ls_l_many_calls_1)))
  (dz_cons (ds_app 3 (de_val (dl_mk (L := LR_l_many_calls_2) TB_l_many_calls rfl M.tm_l_many_calls M.tu_l_many_calls ls_l_many_calls_2)))
  (dz_ret (dl_dat (de_var 3))) (fun _ _ h => h)) (fun _ _ h => h)) (fun _ _ h => h))) (fun Lm ss T Q QX hl h => by
    have z := h_l_many_calls Lm (FZ K) ss T Q QX hl h
    simp only [fz_24, fz_25, fz_26] at z
    exact z)
theorem ok_l_all_words (M : Md K mg) (es : List EntZ) (hes : ∀ e ∈ es, EntC P w K mg base 7 e) : FnOk P w K mg base (L2.CX P w) 9 M.f_l_all_words M.d_l_all_words ["_law_calls", "_law_word_here"] (spD K 2 (S_l_all_words es)) :=
  fn_D M.F_l_all_words sc_l_all_words rfl (fun cdv A outer s H E hr => (dss_one (ds_ret (dl_dat (de_cmp (op_eqP hr.units) g_eq (de_compZ (own := [("_law_call", 2)]) 2 rfl sc_l_all_words.nd (di_seq (de_var 0)) (by kernel_rfl) (fun _ _ _ _ _ _ => (dg_name 2 sc_l_all_words.nd)) hes (fun bp c up hc _ _ _ _ _ => (dts_one (dt_cmp (op_neP hr.units) g_ne (de_val (dl_call (ok_l_word M c hc) (hr.mono (by decide)) M.g_l_word M.F_l_word.kp M.b_l_word takes0' (da_cons (dl_var 2) da_nil))) (de_var 1) (nomark _))))) (de_lst da_nil) (nomark _)))))) (h_l_all_words es)
theorem fz_ok {X : Cx} {K : PySem.W.Frag} {mg : Str → Option Value} (M : Md K mg) (t : FzE) (ht : t ∈ tfs (FZ K)) (hK : X.K = K := by rfl) (hm : X.mg = mg := by rfl) : FzEOk X 6 t := by
  subst hK hm
  have z : ∀ t ∈ tfs (FZ X.K), FzEOk X 6 t := (ftab ⟨⟨LR_l_first_calls_0, _, fz_0 _, ls_l_first_calls_0, rfl, fun bp up => (lam_l_first_calls_0 M).mono (by decide)⟩⟩ (ftab ⟨⟨LR_l_first_calls_1, _, fz_1 _, ls_l_first_calls_1, rfl, fun bp up => (lam_l_first_calls_1 M).mono (by decide)⟩⟩ (ftab ⟨⟨LR_l_first_calls_2, _, fz_2 _, ls_l_first_calls_2, rfl, fun bp up => (lam_l_first_calls_2 M).mono (by decide)⟩⟩ (ftab ⟨⟨LR_l_first_calls_3, _, fz_3 _, ls_l_first_calls_3, rfl, fun bp up => (lam_l_first_calls_3 M).mono (by decide)⟩⟩ (ftab ⟨⟨LR_l_first_calls_4, _, fz_4 _, ls_l_first_calls_4, rfl, fun bp up => (lam_l_first_calls_4 M).mono (by decide)⟩⟩ (ftab ⟨⟨LR_l_first_calls_5, _, fz_5 _, ls_l_first_calls_5, rfl, fun bp up => (lam_l_first_calls_5 M).mono (by decide)⟩⟩ (ftab ⟨⟨LR_l_first_calls_6, _, fz_6 _, ls_l_first_calls_6, rfl, fun bp up => (lam_l_first_calls_6 M).mono (by decide)⟩⟩ (ftab ⟨⟨LR_l_first_calls_7, _, fz_7 _, ls_l_first_calls_7, rfl, fun bp up => (lam_l_first_calls_7 M).mono (by decide)⟩⟩ (ftab ⟨⟨LR_l_first_calls_8, _, fz_8 _, ls_l_first_calls_8, rfl, fun bp up => (lam_l_first_calls_8 M).mono (by decide)⟩⟩ (ftab ⟨⟨LR_l_first_calls_9, _, fz_9 _, ls_l_first_calls_9, rfl, fun bp up => (lam_l_first_calls_9 M).mono (by decide)⟩⟩ (ftab ⟨⟨LR_l_first_calls_10, _, fz_10 _, ls_l_first_calls_10, rfl, fun bp up => (lam_l_first_calls_10 M).mono (by decide)⟩⟩ (ftab ⟨⟨LR_l_first_calls_11, _, fz_11 _, ls_l_first_calls_11, rfl, fun bp up => (lam_l_first_calls_11 M).mono (by decide)⟩⟩ (ftab ⟨⟨LR_l_first_calls_12, _, fz_12 _, ls_l_first_calls_12, rfl, fun bp up => (lam_l_first_calls_12 M).mono (by decide)⟩⟩ (ftab ⟨⟨LR_l_first_calls_13, _, fz_13 _, ls_l_first_calls_13, rfl, fun bp up => (lam_l_first_calls_13 M).mono (by decide)⟩⟩ (ftab ⟨⟨LR_l_first_calls_14, _, fz_14 _, ls_l_first_calls_14, rfl, fun bp up => (lam_l_first_calls_14 M).mono (by decide)⟩⟩ (ftab ⟨⟨LR_l_pair_calls_0, _, fz_15 _, ls_l_pair_calls_0, rfl, fun bp up => (lam_l_pair_calls_0 M).mono (by decide)⟩⟩ (ftab ⟨⟨LR_l_pair_calls_1, _, fz_16 _, ls_l_pair_calls_1, rfl, fun bp up => (lam_l_pair_calls_1 M).mono (by decide)⟩⟩ (ftab ⟨⟨LR_l_pair_calls_2, _, fz_17 _, ls_l_pair_calls_2, rfl, fun bp up => (lam_l_pair_calls_2 M).mono (by decide)⟩⟩ (ftab ⟨⟨LR_l_pair_calls_3, _, fz_18 _, ls_l_pair_calls_3, rfl, fun bp up => (lam_l_pair_calls_3 M).mono (by decide)⟩⟩ (ftab ⟨⟨LR_l_place_calls_0, _, fz_19 _, ls_l_place_calls_0, rfl, fun bp up => (lam_l_place_calls_0 M).mono (by decide)⟩⟩ (ftab ⟨⟨LR_l_place_calls_1, _, fz_20 _, ls_l_place_calls_1, rfl, fun bp up => (lam_l_place_calls_1 M).mono (by decide)⟩⟩ (ftab ⟨⟨LR_l_place_calls_2, _, fz_21 _, ls_l_place_calls_2, rfl, fun bp up => (lam_l_place_calls_2 M).mono (by decide)⟩⟩ (ftab ⟨⟨LR_l_place_calls_3, _, fz_22 _, ls_l_place_calls_3, rfl, fun bp up => (lam_l_place_calls_3 M).mono (by decide)⟩⟩ (ftab ⟨⟨LR_l_place_calls_4, _, fz_23 _, ls_l_place_calls_4, rfl, fun bp up => (lam_l_place_calls_4 M).mono (by decide)⟩⟩ (ftab ⟨⟨LR_l_many_calls_0, _, fz_24 _, ls_l_many_calls_0, rfl, fun bp up => (lam_l_many_calls_0 M).mono (by decide)⟩⟩ (ftab ⟨⟨LR_l_many_calls_1, _, fz_25 _, ls_l_many_calls_1, rfl, fun bp up => (lam_l_many_calls_1 M).mono (by decide)⟩⟩ (ftab ⟨⟨LR_l_many_calls_2, _, fz_26 _, ls_l_many_calls_2, rfl, fun bp up => (lam_l_many_calls_2 M).mono (by decide)⟩⟩ ftab0)))))))))))))))))))))))))))
  exact z t ht
theorem lam_law_0 (M : Md K mg) : LamB P w K mg base 5 LR_law_0 (lamS LB_law_0) :=
  lamB_of (fun A outer s H E f c' cl hr => (dl_dat (de_val (dl_call (ok_past_rows M) (hr.mono (by decide)) M.g_past_rows M.F_past_rows.kp M.b_past_rows (takes_of rfl rfl rfl rfl) (da_cons (dl_dat (de_var 0)) (da_cons (dl_dat (de_bin op_pow g_pow de_int de_int)) da_nil))))))
theorem lam_law_1 (M : Md K mg) : LamB P w K mg base 6 LR_law_1 (lamS LB_law_1) :=
  lamB_of (fun A outer s H E f c' cl hr => (dl_dat (de_val (dl_call (ok_parted M) (hr.mono (by decide)) M.g_parted M.F_parted.kp M.b_parted (takes_of rfl rfl rfl rfl) (da_cons (dl_dat (de_var 0)) (da_cons (dl_dat de_int) da_nil))))))
theorem lam_law_2 (M : Md K mg) : LamB P w K mg base 6 LR_law_2 (lamS LB_law_2) :=
  lamB_of (fun A outer s H E f c' cl hr => (dl_make M.I_Lane (ini_Lane M) (hr.mono (by decide)) (takes_of rfl rfl rfl rfl) M.gc_Lane (da_cons (dl_dat (de_val (dl_call (ok_l_any M) (hr.mono (by decide)) M.g_l_any M.F_l_any.kp M.b_l_any (takes_of rfl rfl rfl rfl) (da_cons (dl_var 0) (da_cons (dl_dat (de_lst (da_cons (dl_dat de_int) (da_cons (dl_dat de_int) (da_cons (dl_dat de_non) (da_cons (dl_dat de_bl) da_nil)))))) da_nil))))) (da_cons (dl_dat de_non) da_nil))))
theorem lam_law_3 (M : Md K mg) : LamB P w K mg base 6 LR_law_3 (lamS LB_law_3) :=
  lamB_of (fun A outer s H E f c' cl hr => (dl_dat (de_val (dl_call (ok_parted M) (hr.mono (by decide)) M.g_parted M.F_parted.kp M.b_parted (takes_of rfl rfl rfl rfl) (da_cons (dl_dat (de_tup (da_cons (dl_dat de_int) (da_cons (dl_dat (de_tup da_nil)) da_nil)))) (da_cons (dl_dat de_int) da_nil))))))
theorem lam_law_4 (M : Md K mg) : LamB P w K mg base 6 LR_law_4 (lamS LB_law_4) :=
  lamB_of (fun A outer s H E f c' cl hr => (dl_dat (de_val (dl_call (ok_alike M) (hr.mono (by decide)) M.g_alike M.F_alike.kp M.b_alike (takes_of rfl rfl rfl rfl) (da_cons (dl_dat (de_tup (da_cons (dl_dat de_int) (da_cons (dl_dat (de_tup da_nil)) da_nil)))) (da_cons (dl_dat (de_tup (da_cons (dl_dat de_int) (da_cons (dl_dat (de_tup da_nil)) da_nil)))) da_nil))))))
theorem ok_law (M : Md K mg) (TB_l_first_calls : LamX.TabB base mg M.c_l_first_calls M.P_l_first_calls) (TB_l_pair_calls : LamX.TabB base mg M.c_l_pair_calls M.P_l_pair_calls) (TB_l_place_calls : LamX.TabB base mg M.c_l_place_calls M.P_l_place_calls) (TB_l_many_calls : LamX.TabB base mg M.c_l_many_calls M.P_l_many_calls) (TB_law : LamX.TabB base mg M.c_law M.P_law) : FnOk P w K mg base (L2.CX P w) 11 M.f_law (PySem.W.fnOf "law" "law" (defArgs s_law) (defBody s_law) (defScope s_law) .none M.o2_law M.o3_law M.o4_law M.u2_law (.ref M.c_law) M.o5_law) ["_law_script"] (spD K 1 S_law) := by
  exact fn_DL (F := S_law) (B := (fun Lm => B_law Lm (FZ K))) M.lk_law M.cd_law sc_law rfl [LR_law_0, LR_law_1, LR_law_2, LR_law_3, LR_law_4] LR_law_0 (fun A outer s H E hr => (dss_cons (ds_for (passes_of rfl) rfl (di_range1 M.z_range (da_cons (dl_dat (de_bin op_addA g_add de_int (de_cb (call_min2 rfl) c_min2 M.z_min bt_min (da_cons (dl_dat (de_len M.z_len (da_cons (dl_dat (de_var 0)) da_nil))) (da_cons (dl_dat de_int) da_nil))))) da_nil)) (dg_name 1 sc_law.nd) (dss_cons (ds_set 2 sc_law.nd (dl_call (ok_l_cart_of M) (hr.mono (by decide)) M.g_l_cart_of M.F_l_cart_of.kp M.b_l_cart_of (takes_of rfl rfl rfl rfl) (da_cons (dl_dat (de_var 0)) (da_cons (dl_dat (de_var 1)) da_nil))))
  (dss_cons (ds_set 3 sc_law.nd (dl_dat (de_val (dl_call (ok_l_work M) (hr.mono (by decide)) M.g_l_work M.F_l_work.kp M.b_l_work (takes_of rfl rfl rfl rfl) (da_cons (dl_var 2) (da_cons (dl_dat de_int) da_nil))))))
  (dss_cons (ds_set 4 sc_law.nd (dl_dat (de_val (dl_call (ok_l_any M) (hr.mono (by decide)) M.g_l_any M.F_l_any.kp M.b_l_any (takes_of rfl rfl rfl rfl) (da_cons (dl_var 2) (da_cons (dl_dat (de_lst (da_cons (dl_dat de_non) (da_cons (dl_dat (de_tup da_nil)) (da_cons (dl_dat de_str) (da_cons (dl_dat de_int) (da_cons (dl_dat de_bl) (da_cons (dl_dat (de_lst (da_cons (dl_dat de_int) (da_cons (dl_dat (de_tup da_nil)) da_nil)))) (da_cons (dl_dat (de_tup (da_cons (dl_dat de_int) (da_cons (dl_dat (de_tup da_nil)) da_nil)))) (da_cons (dl_dat (de_tup (da_cons (dl_dat de_int) da_nil))) da_nil)))))))))) da_nil))))))
  (dss_cons (ds_set 4 sc_law.nd (dl_dat (de_val (dl_call (ok_l_any M) (hr.mono (by decide)) M.g_l_any M.F_l_any.kp M.b_l_any (takes_of rfl rfl rfl rfl) (da_cons (dl_var 2) (da_cons (dl_dat (de_lst (da_cons (dl_dat (de_var 4)) (da_cons (dl_dat (de_var 4)) (da_cons (dl_dat (de_tup (da_cons (dl_dat de_int) (da_cons (dl_dat (de_lst (da_cons (dl_dat (de_tup (da_cons (dl_dat de_str) (da_cons (dl_dat de_int) da_nil)))) da_nil))) da_nil)))) (da_cons (dl_dat (de_tup (da_cons (dl_dat de_int) (da_cons (dl_dat (de_tup (da_cons (dl_dat (de_tup (da_cons (dl_dat de_str) (da_cons (dl_dat (de_neg de_int)) da_nil)))) da_nil))) da_nil)))) da_nil)))))) da_nil))))))
  (dss_cons (ds_set 5 sc_law.nd (dl_addN (de_bin op_addA g_add (de_val (dl_call (ok_l_first_calls M TB_l_first_calls) (hr.mono (by decide)) M.g_l_first_calls M.F_l_first_calls.kp M.b_l_first_calls (takes_of rfl rfl rfl rfl) (da_cons (dl_dat (de_var 4)) da_nil))) (de_val (dl_call (ok_l_pair_calls M TB_l_pair_calls) (hr.mono (by decide)) M.g_l_pair_calls M.F_l_pair_calls.kp M.b_l_pair_calls (takes_of rfl rfl rfl rfl) (da_cons (dl_dat (de_var 4)) (da_cons (dl_dat de_non) da_nil))))) (de_val (dl_call (ok_l_pair_calls M TB_l_pair_calls) (hr.mono (by decide)) M.g_l_pair_calls M.F_l_pair_calls.kp M.b_l_pair_calls (takes_of rfl rfl rfl rfl) (da_cons (dl_dat (de_var 3)) (da_cons (dl_dat (de_var 4)) da_nil))))))
  (dss_cons (ds_if (dt_not (dt_of (de_val (dl_callZ (k := 6) (kf := 9) (by intro t ht; exact fz_ok M t ht) (ltab ⟨⟨LR_law_0, rfl, ls_law_0, rfl, rfl, fun bp up => (lam_law_0 M).mono (by decide)⟩⟩ (ltab ⟨⟨LR_law_1, rfl, ls_law_1, rfl, rfl, fun bp up => (lam_law_1 M).mono (by decide)⟩⟩ ltab0)) (fun bp es up hes => fnr_of (ok_l_all_words M es hes) M.b_l_all_words) (hr.mono (by decide)) M.g_l_all_words M.F_l_all_words.kp (da_cons (dl_dat (de_var 5)) (da_cons (dl_dat de_str) da_nil)))))) (dss_one (ds_ret (dl_dat de_bl))) dss_nil)
  (dss_cons (ds_set 6 sc_law.nd (dl_dat (de_val (dl_call (ok_l_any M) (hr.mono (by decide)) M.g_l_any M.F_l_any.kp M.b_l_any (takes_of rfl rfl rfl rfl) (da_cons (dl_var 2) (da_cons (dl_dat (de_lst (da_cons (dl_dat de_non) (da_cons (dl_dat (de_tup da_nil)) (da_cons (dl_dat (de_tup (da_cons (dl_dat (de_neg de_int)) da_nil))) (da_cons (dl_dat (de_lst (da_cons (dl_dat de_int) da_nil))) (da_cons (dl_dat (de_tup (da_cons (dl_dat de_int) (da_cons (dl_dat de_int) da_nil)))) (da_cons (dl_dat (de_tup (da_cons (dl_dat (de_bin op_addA g_add (de_bin op_pow g_pow de_int de_int) de_int)) da_nil))) (da_cons (dl_dat de_int) (da_cons (dl_dat (de_tup (da_cons (dl_dat de_bl) da_nil))) da_nil)))))))))) da_nil))))))
  (dss_cons (ds_if (dt_not (dt_of (de_val (dl_callZ (k := 6) (kf := 9) (by intro t ht; exact fz_ok M t ht) (ltab ⟨⟨LR_law_0, rfl, ls_law_0, rfl, rfl, fun bp up => (lam_law_0 M).mono (by decide)⟩⟩ (ltab ⟨⟨LR_law_1, rfl, ls_law_1, rfl, rfl, fun bp up => (lam_law_1 M).mono (by decide)⟩⟩ ltab0)) (fun bp es up hes => fnr_of (ok_l_all_words M es hes) M.b_l_all_words) (hr.mono (by decide)) M.g_l_all_words M.F_l_all_words.kp (da_cons (dl_dat (de_val (dl_call (ok_l_place_calls M TB_l_place_calls) (hr.mono (by decide)) M.g_l_place_calls M.F_l_place_calls.kp M.b_l_place_calls (takes_of rfl rfl rfl rfl) (da_cons (dl_dat (de_var 3)) (da_cons (dl_dat (de_var 6)) da_nil))))) (da_cons (dl_dat de_str) da_nil)))))) (dss_one (ds_ret (dl_dat de_bl))) dss_nil)
  (dss_cons (ds_set 6 sc_law.nd (dl_dat (de_val (dl_call (ok_l_any M) (hr.mono (by decide)) M.g_l_any M.F_l_any.kp M.b_l_any (takes_of rfl rfl rfl rfl) (da_cons (dl_var 2) (da_cons (dl_dat (de_lst (da_cons (dl_dat de_int) (da_cons (dl_dat (de_neg de_int)) (da_cons (dl_dat (de_bin op_addA g_add (de_bin op_pow g_pow de_int de_int) de_int)) (da_cons (dl_dat de_non) (da_cons (dl_dat de_bl) (da_cons (dl_dat de_str) da_nil)))))))) da_nil))))))
  (dss_cons (ds_if (dt_not (dt_of (de_val (dl_callZ (k := 6) (kf := 9) (by intro t ht; exact fz_ok M t ht) (ltab ⟨⟨LR_law_0, rfl, ls_law_0, rfl, rfl, fun bp up => (lam_law_0 M).mono (by decide)⟩⟩ (ltab ⟨⟨LR_law_1, rfl, ls_law_1, rfl, rfl, fun bp up => (lam_law_1 M).mono (by decide)⟩⟩ ltab0)) (fun bp es up hes => fnr_of (ok_l_all_words M es hes) M.b_l_all_words) (hr.mono (by decide)) M.g_l_all_words M.F_l_all_words.kp (da_cons (dl_dat (de_val (dl_call (ok_l_many_calls M TB_l_many_calls) (hr.mono (by decide)) M.g_l_many_calls M.F_l_many_calls.kp M.b_l_many_calls (takes_of rfl rfl rfl rfl) (da_cons (dl_dat (de_var 3)) (da_cons (dl_dat (de_var 6)) (da_cons (dl_dat de_non) da_nil)))))) (da_cons (dl_dat de_str) da_nil)))))) (dss_one (ds_ret (dl_dat de_bl))) dss_nil)
  (dss_cons (ds_set 7 sc_law.nd (dl_dat (de_val (dl_call (ok_l_any M) (hr.mono (by decide)) M.g_l_any M.F_l_any.kp M.b_l_any (takes_of rfl rfl rfl rfl) (da_cons (dl_var 2) (da_cons (dl_dat (de_lst (da_cons (dl_dat de_int) (da_cons (dl_dat de_int) (da_cons (dl_dat (de_bin op_pow g_pow de_int de_int)) da_nil))))) da_nil))))))
  (dss_cons (ds_set 6 sc_law.nd (dl_dat (de_val (dl_call (ok_l_any M) (hr.mono (by decide)) M.g_l_any M.F_l_any.kp M.b_l_any (takes_of rfl rfl rfl rfl) (da_cons (dl_var 2) (da_cons (dl_dat (de_lst (da_cons (dl_dat (de_var 7)) (da_cons (dl_dat (de_bin op_sub g_sub (de_bin op_sub g_sub de_int (de_var 7)) de_int)) (da_cons (dl_dat de_non) (da_cons (dl_dat de_bl) (da_cons (dl_dat de_str) da_nil))))))) da_nil))))))
  (dss_cons (ds_if (dt_not (dt_of (de_val (dl_callZ (k := 6) (kf := 9) (by intro t ht; exact fz_ok M t ht) (ltab ⟨⟨LR_law_0, rfl, ls_law_0, rfl, rfl, fun bp up => (lam_law_0 M).mono (by decide)⟩⟩ (ltab ⟨⟨LR_law_1, rfl, ls_law_1, rfl, rfl, fun bp up => (lam_law_1 M).mono (by decide)⟩⟩ ltab0)) (fun bp es up hes => fnr_of (ok_l_all_words M es hes) M.b_l_all_words) (hr.mono (by decide)) M.g_l_all_words M.F_l_all_words.kp (da_cons (dl_dat (de_val (dl_call (ok_l_many_calls M TB_l_many_calls) (hr.mono (by decide)) M.g_l_many_calls M.F_l_many_calls.kp M.b_l_many_calls (takes_of rfl rfl rfl rfl) (da_cons (dl_dat (de_var 3)) (da_cons (dl_dat (de_var 7)) (da_cons (dl_dat (de_var 6)) da_nil)))))) (da_cons (dl_dat de_str) da_nil)))))) (dss_one (ds_ret (dl_dat de_bl))) dss_nil)
  (dss_cons (ds_set 5 sc_law.nd (dl_addN (de_val (dl_call (ok_l_many_calls M TB_l_many_calls) (hr.mono (by decide)) M.g_l_many_calls M.F_l_many_calls.kp M.b_l_many_calls (takes_of rfl rfl rfl rfl) (da_cons (dl_dat (de_var 3)) (da_cons (dl_dat (de_var 7)) (da_cons (dl_dat (de_bin op_sub g_sub (de_var 7) de_int)) da_nil))))) (de_val (dl_call (ok_l_many_calls M TB_l_many_calls) (hr.mono (by decide)) M.g_l_many_calls M.F_l_many_calls.kp M.b_l_many_calls (takes_of rfl rfl rfl rfl) (da_cons (dl_dat (de_var 3)) (da_cons (dl_dat (de_var 7)) (da_cons (dl_dat (de_bin op_sub g_sub de_int (de_var 7))) da_nil)))))))
  (dss_cons (ds_set 5 sc_law.nd (dl_addN (de_bin op_addA g_add (de_var 5) (de_val (dl_call (ok_l_place_calls M TB_l_place_calls) (hr.mono (by decide)) M.g_l_place_calls M.F_l_place_calls.kp M.b_l_place_calls (takes_of rfl rfl rfl rfl) (da_cons (dl_dat (de_var 3)) (da_cons (dl_dat (de_tup (da_cons (dl_dat (de_bin op_pow g_pow de_int de_int)) da_nil))) da_nil))))) (de_val (dl_call (ok_l_place_calls M TB_l_place_calls) (hr.mono (by decide)) M.g_l_place_calls M.F_l_place_calls.kp M.b_l_place_calls (takes_of rfl rfl rfl rfl) (da_cons (dl_dat (de_var 3)) (da_cons (dl_dat (de_val (dl_call (ok_l_at M) (hr.mono (by decide)) M.g_l_at M.F_l_at.kp M.b_l_at (takes_of rfl rfl rfl rfl) (da_cons (dl_dat (de_ix (de_var 3) de_int)) (da_cons (dl_dat (de_bin op_mulB g_mulB (de_tup (da_cons (dl_dat de_int) da_nil)) de_int)) da_nil))))) da_nil))))))
  (dss_cons (ds_app 5 (de_val (dl_mk (L := LR_law_0) TB_law rfl M.tm_law M.tu_law ls_law_0)))
  (dss_cons (ds_app 5 (de_val (dl_mk (L := LR_law_1) TB_law rfl M.tm_law M.tu_law ls_law_1)))
  (dss_cons (ds_if (dt_not (dt_of (de_val (dl_callZ (k := 6) (kf := 9) (by intro t ht; exact fz_ok M t ht) (ltab ⟨⟨LR_law_0, rfl, ls_law_0, rfl, rfl, fun bp up => (lam_law_0 M).mono (by decide)⟩⟩ (ltab ⟨⟨LR_law_1, rfl, ls_law_1, rfl, rfl, fun bp up => (lam_law_1 M).mono (by decide)⟩⟩ ltab0)) (fun bp es up hes => fnr_of (ok_l_all_words M es hes) M.b_l_all_words) (hr.mono (by decide)) M.g_l_all_words M.F_l_all_words.kp (da_cons (dl_dat (de_var 5)) (da_cons (dl_dat de_str) da_nil)))))) (dss_one (ds_ret (dl_dat de_bl))) dss_nil)
  (dss_one (ds_if (dt_cmp (op_neP hr.units) g_ne (de_val (dl_callG (kc := 7) (kf := 8) (gives_P (k := 6) (hT := (ltab ⟨⟨LR_law_2, rfl, ls_law_2, rfl, rfl, fun bp up => (lam_law_2 M).mono (by decide)⟩⟩ ltab0))) (fun bp c up hc => fnr_of (ok_l_word M c hc) M.b_l_word) (hr.mono (by decide)) M.g_l_word M.F_l_word.kp (takes_of rfl rfl rfl rfl) (dl_mk (L := LR_law_2) TB_law rfl M.tm_law M.tu_law ls_law_2))) de_str (nomark _)) (dss_one (ds_ret (dl_dat de_bl))) dss_nil)))))))))))))))))))))
  (dss_cons (ds_if (dt_cmp (op_neP hr.units) g_ne (de_val (dl_callG (kc := 7) (kf := 8) (gives_P (k := 6) (hT := (ltab ⟨⟨LR_law_3, rfl, ls_law_3, rfl, rfl, fun bp up => (lam_law_3 M).mono (by decide)⟩⟩ ltab0))) (fun bp c up hc => fnr_of (ok_l_word M c hc) M.b_l_word) (hr.mono (by decide)) M.g_l_word M.F_l_word.kp (takes_of rfl rfl rfl rfl) (dl_mk (L := LR_law_3) TB_law rfl M.tm_law M.tu_law ls_law_3))) de_str (nomark _)) (dss_one (ds_ret (dl_dat de_bl))) dss_nil)
  (dss_one (ds_ret (dl_dat (de_cmp (op_eqP hr.units) g_eq (de_val (dl_callG (kc := 7) (kf := 8) (gives_P (k := 6) (hT := (ltab ⟨⟨LR_law_4, rfl, ls_law_4, rfl, rfl, fun bp up => (lam_law_4 M).mono (by decide)⟩⟩ ltab0))) (fun bp c up hc => fnr_of (ok_l_word M c hc) M.b_l_word) (hr.mono (by decide)) M.g_l_word M.F_l_word.kp (takes_of rfl rfl rfl rfl) (dl_mk (L := LR_law_4) TB_law rfl M.tm_law M.tu_law ls_law_4))) de_str (nomark _)))))))) (fun Lm => h_law Lm (FZ K))
end
theorem law_in (ns : List Int) (T : List Ob) (Q : Sl → List Ob → Prop) (QX : Xn → List Ob → Prop) (h : ns.length ≤ 63) (hT : T = []) (q : ∀ T', Q (.dat (.bl true)) T') : S_law [.dat (.scr ns)] T Q QX := by
  subst hT
  refine ⟨ns, rfl, h, ?_⟩
  first | exact ⟨rfl, q⟩ | exact q | exact ⟨by decide, q⟩ | exact ⟨by decide, by decide, q⟩ | exact ⟨by decide, by decide, by decide, q⟩ | exact ⟨by decide, by decide, by decide, by decide, q⟩
set_option maxHeartbeats 0 in
theorem all_mk {l : PySem.W.OpenLaw} {w : World} {K : PySem.W.Frag} {h : Heap} {mg mb : Str → Option Value} {q : Program} {lo : List Str} {mean : ExcName → Option Value} {fa f0 f1 f2 f3 f4 f5 f6 f7 f8 f9 f10 f11 f12 f13 f14 f15 f16 f17 f18 f19 f20 f21 f22 f23 f24 f25 f26 f27 f28 f29 f30 f31 f32 f33 f34 f35 f36 f37 f38 f39 f40 f41 f42 f43 f44 f45 f46 f47 f48 f49 f50 f51 f52 f53 f54 f55 f56 f57 f58 f59 f60 f61 f62 f63 f64 cc64 cc59 cc60 cc61 cc62 pp64 pp59 pp60 pp61 pp62 C_InvalidDrill C_InvalidBeginning C_InvalidMany C_InvalidSheep C_Unlike C_InvalidPlace C_InvalidRun C_InvalidIndex C_NothingToUndo C_DogError C_TooMany C_InvalidText C_Lane : Addr} (X : K.In h) (T : Top q lo mean mg mb h) (hfa : mg "law" = some (.ref fa))
    {od0 od1 od2 od3 od4 od5 od6 od7 od8 od9 od10 od11 od12 od13 od14 od15 od16 od17 od18 od19 od20 od21 od22 od23 od24 od25 od26 od27 od28 od29 od30 od31 od32 od33 od34 od35 od36 od37 od38 od39 od40 od41 od42 od43 od44 od45 od46 od47 od48 od49 od50 od51 od52 od53 od54 od55 od56 od57 od58 od59 od60 od61 od62 od63 od64 an0 an1 an2 an3 an4 an5 an6 an7 an8 an9 an10 an11 an12 an13 an14 an15 an16 an17 an18 an19 an20 an21 an22 an23 an24 an25 an26 an27 an28 an29 an30 an31 an32 an33 an34 an35 an36 an37 an38 an39 an40 an41 an42 an43 an44 an45 an46 an47 an48 an49 an50 an51 an52 an53 an54 an55 an56 an57 an58 an59 an60 an61 an62 an63 an64 yd64 yd59 yd60 yd61 yd62 : Option Addr} {sl0 sl1 sl2 sl3 sl4 sl5 sl6 sl7 sl8 sl9 sl10 sl11 sl12 sl13 sl14 sl15 sl16 sl17 sl18 sl19 sl20 sl21 sl22 sl23 sl24 sl25 sl26 sl27 sl28 sl29 sl30 sl31 sl32 sl33 sl34 sl35 sl36 sl37 sl38 sl39 sl40 sl41 sl42 sl43 sl44 sl45 sl46 sl47 sl48 sl49 sl50 sl51 sl52 sl53 sl54 sl55 sl56 sl57 sl58 sl59 sl60 sl61 sl62 sl63 sl64 ys64 ys59 ys60 ys61 ys62 : Array (Option Value)} {yv64 yv59 yv60 yv61 yv62 : Array Value} {oc0 oc1 oc2 oc3 oc4 oc5 oc6 oc7 oc8 oc9 oc10 oc11 oc12 oc13 oc14 oc15 oc16 oc17 oc18 oc19 oc20 oc21 oc22 oc23 oc24 oc25 oc26 oc27 oc28 oc29 oc30 oc31 oc32 oc33 oc34 oc35 oc36 oc37 oc38 oc39 oc40 oc41 oc42 oc43 oc44 oc45 oc46 oc47 oc48 oc49 oc50 oc51 oc52 oc53 oc54 oc55 oc56 oc57 oc58 oc59 oc60 oc61 oc62 oc63 oc64 kV0 kV1 kV2 kV3 kV4 kV5 kV6 kV7 kV8 kV9 kV10 kV11 kV12 kV13 kV14 kV15 kV16 kV17 kV18 kV19 kV20 kV21 kV22 kV23 kV24 kV25 kV26 kV27 kV28 kV29 kV30 kV31 kV32 kV33 kV34 kV35 kV36 kV37 kV38 kV39 kV40 kV41 kV42 kV43 kV44 kV45 kV46 kV47 kV48 kV49 kV50 kV51 kV52 kV53 kV54 kV55 kV56 kV57 kV58 kV59 kV60 kV61 kV62 kV63 kV64 dc0 dc1 dc2 dc3 dc4 dc5 dc6 dc7 dc8 dc9 dc10 dc11 dc12 dc13 dc14 dc15 dc16 dc17 dc18 dc19 dc20 dc21 dc22 dc23 dc24 dc25 dc26 dc27 dc28 dc29 dc30 dc31 dc32 dc33 dc34 dc35 dc36 dc37 dc38 dc39 dc40 dc41 dc42 dc43 dc44 dc45 dc46 dc47 dc48 dc49 dc50 dc51 dc52 dc53 dc54 dc55 dc56 dc57 dc58 dc59 dc60 dc61 dc62 dc63 dc64 pm0 pm1 pm2 pm3 pm4 pm5 pm6 pm7 pm8 pm9 pm10 pm11 pm12 pm13 pm14 pm15 pm16 pm17 pm18 pm19 pm20 pm21 pm22 pm23 pm24 pm25 pm26 pm27 pm28 pm29 pm30 pm31 pm32 pm33 pm34 pm35 pm36 pm37 pm38 pm39 pm40 pm41 pm42 pm43 pm44 pm45 pm46 pm47 pm48 pm49 pm50 pm51 pm52 pm53 pm54 pm55 pm56 pm57 pm58 pm59 pm60 pm61 pm62 pm63 pm64 cd0 cd1 cd2 cd3 cd4 cd5 cd6 cd7 cd8 cd9 cd10 cd11 cd12 cd13 cd14 cd15 cd16 cd17 cd18 cd19 cd20 cd21 cd22 cd23 cd24 cd25 cd26 cd27 cd28 cd29 cd30 cd31 cd32 cd33 cd34 cd35 cd36 cd37 cd38 cd39 cd40 cd41 cd42 cd43 cd44 cd45 cd46 cd47 cd48 cd49 cd50 cd51 cd52 cd53 cd54 cd55 cd56 cd57 cd58 cd63 ct0 ct1 ct2 ct3 ct4 ct5 ct6 ct7 ct8 ct9 ct10 ct11 ct12 ct13 ct14 ct15 ct16 ct17 ct18 ct19 ct20 ct21 ct22 ct23 ct24 ct25 ct26 ct27 ct28 ct29 ct30 ct31 ct32 ct33 ct34 ct35 ct36 ct37 ct38 ct39 ct40 ct41 ct42 ct43 ct44 ct45 ct46 ct47 ct48 ct49 ct50 ct51 ct52 ct53 ct54 ct55 ct56 ct57 ct58 ct59 ct60 ct61 ct62 ct63 ct64 yc64 yc59 yc60 yc61 yc62 : Value} {qd64 qd59 qd60 qd61 qd62 : DefRec} {t_GREAT t_FAR t_MOST_RUNS t_MOST_SHEEP t_WIDEST t_DEEPEST t_Lane_MOST : Tok}
    (eg_Lane : PySem.W.nsIn K mainGlobals "Lane" = some (some (.ref C_Lane)))
    (eg_InvalidDrill : PySem.W.nsIn K mainGlobals "InvalidDrill" = some (some (.ref C_InvalidDrill)))
    (eg_InvalidBeginning : PySem.W.nsIn K mainGlobals "InvalidBeginning" = some (some (.ref C_InvalidBeginning)))
    (eg_InvalidMany : PySem.W.nsIn K mainGlobals "InvalidMany" = some (some (.ref C_InvalidMany)))
    (eg_InvalidSheep : PySem.W.nsIn K mainGlobals "InvalidSheep" = some (some (.ref C_InvalidSheep)))
    (eg_Unlike : PySem.W.nsIn K mainGlobals "Unlike" = some (some (.ref C_Unlike)))
    (eg_InvalidPlace : PySem.W.nsIn K mainGlobals "InvalidPlace" = some (some (.ref C_InvalidPlace)))
    (eg_InvalidRun : PySem.W.nsIn K mainGlobals "InvalidRun" = some (some (.ref C_InvalidRun)))
    (eg_InvalidIndex : PySem.W.nsIn K mainGlobals "InvalidIndex" = some (some (.ref C_InvalidIndex)))
    (eg_NothingToUndo : PySem.W.nsIn K mainGlobals "NothingToUndo" = some (some (.ref C_NothingToUndo)))
    (eg_DogError : PySem.W.nsIn K mainGlobals "DogError" = some (some (.ref C_DogError)))
    (eg_TooMany : PySem.W.nsIn K mainGlobals "TooMany" = some (some (.ref C_TooMany)))
    (eg_InvalidText : PySem.W.nsIn K mainGlobals "InvalidText" = some (some (.ref C_InvalidText)))
    (a0 : PySem.W.nsIn K mainGlobals "is_int" = some (some (.ref f0)))
    (l0 : K.lookup f0 = some ⟨oc0, od0, .func (PySem.W.fnOf "is_int" "is_int" (defArgs s_is_int) (defBody s_is_int) (defScope s_is_int) .none kV0 dc0 pm0 an0 cd0 ct0), sl0⟩)
    (c0 : PySem.W.codeIn K cd0 "is_int" = true)
    (k0 : PySem.W.keepIn K (.ref f0) = true)
    (a1 : PySem.W.nsIn K mainGlobals "is_a_run" = some (some (.ref f1)))
    (l1 : K.lookup f1 = some ⟨oc1, od1, .func (PySem.W.fnOf "is_a_run" "is_a_run" (defArgs s_is_a_run) (defBody s_is_a_run) (defScope s_is_a_run) .none kV1 dc1 pm1 an1 cd1 ct1), sl1⟩)
    (c1 : PySem.W.codeIn K cd1 "is_a_run" = true)
    (k1 : PySem.W.keepIn K (.ref f1) = true)
    (a2 : PySem.W.nsIn K mainGlobals "fits" = some (some (.ref f2)))
    (l2 : K.lookup f2 = some ⟨oc2, od2, .func (PySem.W.fnOf "fits" "fits" (defArgs s_fits) (defBody s_fits) (defScope s_fits) .none kV2 dc2 pm2 an2 cd2 ct2), sl2⟩)
    (c2 : PySem.W.codeIn K cd2 "fits" = true)
    (k2 : PySem.W.keepIn K (.ref f2) = true)
    (a3 : PySem.W.nsIn K mainGlobals "begins" = some (some (.ref f3)))
    (l3 : K.lookup f3 = some ⟨oc3, od3, .func (PySem.W.fnOf "begins" "begins" (defArgs s_begins) (defBody s_begins) (defScope s_begins) .none kV3 dc3 pm3 an3 cd3 ct3), sl3⟩)
    (c3 : PySem.W.codeIn K cd3 "begins" = true)
    (k3 : PySem.W.keepIn K (.ref f3) = true)
    (a4 : PySem.W.nsIn K mainGlobals "need_drill" = some (some (.ref f4)))
    (l4 : K.lookup f4 = some ⟨oc4, od4, .func (PySem.W.fnOf "need_drill" "need_drill" (defArgs s_need_drill) (defBody s_need_drill) (defScope s_need_drill) .none kV4 dc4 pm4 an4 cd4 ct4), sl4⟩)
    (c4 : PySem.W.codeIn K cd4 "need_drill" = true)
    (k4 : PySem.W.keepIn K (.ref f4) = true)
    (a5 : PySem.W.nsIn K mainGlobals "need_beginning" = some (some (.ref f5)))
    (l5 : K.lookup f5 = some ⟨oc5, od5, .func (PySem.W.fnOf "need_beginning" "need_beginning" (defArgs s_need_beginning) (defBody s_need_beginning) (defScope s_need_beginning) .none kV5 dc5 pm5 an5 cd5 ct5), sl5⟩)
    (c5 : PySem.W.codeIn K cd5 "need_beginning" = true)
    (k5 : PySem.W.keepIn K (.ref f5) = true)
    (a6 : PySem.W.nsIn K mainGlobals "need_many" = some (some (.ref f6)))
    (l6 : K.lookup f6 = some ⟨oc6, od6, .func (PySem.W.fnOf "need_many" "need_many" (defArgs s_need_many) (defBody s_need_many) (defScope s_need_many) .none kV6 dc6 pm6 an6 cd6 ct6), sl6⟩)
    (c6 : PySem.W.codeIn K cd6 "need_many" = true)
    (k6 : PySem.W.keepIn K (.ref f6) = true)
    (a7 : PySem.W.nsIn K mainGlobals "need_sheep" = some (some (.ref f7)))
    (l7 : K.lookup f7 = some ⟨oc7, od7, .func (PySem.W.fnOf "need_sheep" "need_sheep" (defArgs s_need_sheep) (defBody s_need_sheep) (defScope s_need_sheep) .none kV7 dc7 pm7 an7 cd7 ct7), sl7⟩)
    (c7 : PySem.W.codeIn K cd7 "need_sheep" = true)
    (k7 : PySem.W.keepIn K (.ref f7) = true)
    (a8 : PySem.W.nsIn K mainGlobals "is_beginning" = some (some (.ref f8)))
    (l8 : K.lookup f8 = some ⟨oc8, od8, .func (PySem.W.fnOf "is_beginning" "is_beginning" (defArgs s_is_beginning) (defBody s_is_beginning) (defScope s_is_beginning) .none kV8 dc8 pm8 an8 cd8 ct8), sl8⟩)
    (c8 : PySem.W.codeIn K cd8 "is_beginning" = true)
    (k8 : PySem.W.keepIn K (.ref f8) = true)
    (a9 : PySem.W.nsIn K mainGlobals "plain" = some (some (.ref f9)))
    (l9 : K.lookup f9 = some ⟨oc9, od9, .func (PySem.W.fnOf "plain" "plain" (defArgs s_plain) (defBody s_plain) (defScope s_plain) .none kV9 dc9 pm9 an9 cd9 ct9), sl9⟩)
    (c9 : PySem.W.codeIn K cd9 "plain" = true)
    (k9 : PySem.W.keepIn K (.ref f9) = true)
    (a10 : PySem.W.nsIn K mainGlobals "raised" = some (some (.ref f10)))
    (l10 : K.lookup f10 = some ⟨oc10, od10, .func (PySem.W.fnOf "raised" "raised" (defArgs s_raised) (defBody s_raised) (defScope s_raised) .none kV10 dc10 pm10 an10 cd10 ct10), sl10⟩)
    (c10 : PySem.W.codeIn K cd10 "raised" = true)
    (k10 : PySem.W.keepIn K (.ref f10) = true)
    (a11 : PySem.W.nsIn K mainGlobals "joined" = some (some (.ref f11)))
    (l11 : K.lookup f11 = some ⟨oc11, od11, .func (PySem.W.fnOf "joined" "joined" (defArgs s_joined) (defBody s_joined) (defScope s_joined) .none kV11 dc11 pm11 an11 cd11 ct11), sl11⟩)
    (c11 : PySem.W.codeIn K cd11 "joined" = true)
    (k11 : PySem.W.keepIn K (.ref f11) = true)
    (a12 : PySem.W.nsIn K mainGlobals "after" = some (some (.ref f12)))
    (l12 : K.lookup f12 = some ⟨oc12, od12, .func (PySem.W.fnOf "after" "after" (defArgs s_after) (defBody s_after) (defScope s_after) .none kV12 dc12 pm12 an12 cd12 ct12), sl12⟩)
    (c12 : PySem.W.codeIn K cd12 "after" = true)
    (k12 : PySem.W.keepIn K (.ref f12) = true)
    (a13 : PySem.W.nsIn K mainGlobals "map_of" = some (some (.ref f13)))
    (l13 : K.lookup f13 = some ⟨oc13, od13, .func (PySem.W.fnOf "map_of" "map_of" (defArgs s_map_of) (defBody s_map_of) (defScope s_map_of) .none kV13 dc13 pm13 an13 cd13 ct13), sl13⟩)
    (c13 : PySem.W.codeIn K cd13 "map_of" = true)
    (k13 : PySem.W.keepIn K (.ref f13) = true)
    (a14 : PySem.W.nsIn K mainGlobals "deep" = some (some (.ref f14)))
    (l14 : K.lookup f14 = some ⟨oc14, od14, .func (PySem.W.fnOf "deep" "deep" (defArgs s_deep) (defBody s_deep) (defScope s_deep) .none kV14 dc14 pm14 an14 cd14 ct14), sl14⟩)
    (c14 : PySem.W.codeIn K cd14 "deep" = true)
    (k14 : PySem.W.keepIn K (.ref f14) = true)
    (a15 : PySem.W.nsIn K mainGlobals "enough" = some (some (.ref f15)))
    (l15 : K.lookup f15 = some ⟨oc15, od15, .func (PySem.W.fnOf "enough" "enough" (defArgs s_enough) (defBody s_enough) (defScope s_enough) .none kV15 dc15 pm15 an15 cd15 ct15), sl15⟩)
    (c15 : PySem.W.codeIn K cd15 "enough" = true)
    (k15 : PySem.W.keepIn K (.ref f15) = true)
    (a16 : PySem.W.nsIn K mainGlobals "room_of" = some (some (.ref f16)))
    (l16 : K.lookup f16 = some ⟨oc16, od16, .func (PySem.W.fnOf "room_of" "room_of" (defArgs s_room_of) (defBody s_room_of) (defScope s_room_of) .none kV16 dc16 pm16 an16 cd16 ct16), sl16⟩)
    (c16 : PySem.W.codeIn K cd16 "room_of" = true)
    (k16 : PySem.W.keepIn K (.ref f16) = true)
    (a17 : PySem.W.nsIn K mainGlobals "terms_of" = some (some (.ref f17)))
    (l17 : K.lookup f17 = some ⟨oc17, od17, .func (PySem.W.fnOf "terms_of" "terms_of" (defArgs s_terms_of) (defBody s_terms_of) (defScope s_terms_of) .none kV17 dc17 pm17 an17 cd17 ct17), sl17⟩)
    (c17 : PySem.W.codeIn K cd17 "terms_of" = true)
    (k17 : PySem.W.keepIn K (.ref f17) = true)
    (a18 : PySem.W.nsIn K mainGlobals "small" = some (some (.ref f18)))
    (l18 : K.lookup f18 = some ⟨oc18, od18, .func (PySem.W.fnOf "small" "small" (defArgs s_small) (defBody s_small) (defScope s_small) .none kV18 dc18 pm18 an18 cd18 ct18), sl18⟩)
    (c18 : PySem.W.codeIn K cd18 "small" = true)
    (k18 : PySem.W.keepIn K (.ref f18) = true)
    (a19 : PySem.W.nsIn K mainGlobals "pair_of" = some (some (.ref f19)))
    (l19 : K.lookup f19 = some ⟨oc19, od19, .func (PySem.W.fnOf "pair_of" "pair_of" (defArgs s_pair_of) (defBody s_pair_of) (defScope s_pair_of) .none kV19 dc19 pm19 an19 cd19 ct19), sl19⟩)
    (c19 : PySem.W.codeIn K cd19 "pair_of" = true)
    (k19 : PySem.W.keepIn K (.ref f19) = true)
    (a20 : PySem.W.nsIn K mainGlobals "form" = some (some (.ref f20)))
    (l20 : K.lookup f20 = some ⟨oc20, od20, .func (PySem.W.fnOf "form" "form" (defArgs s_form) (defBody s_form) (defScope s_form) .none kV20 dc20 pm20 an20 cd20 ct20), sl20⟩)
    (c20 : PySem.W.codeIn K cd20 "form" = true)
    (k20 : PySem.W.keepIn K (.ref f20) = true)
    (a21 : PySem.W.nsIn K mainGlobals "moves" = some (some (.ref f21)))
    (l21 : K.lookup f21 = some ⟨oc21, od21, .func (PySem.W.fnOf "moves" "moves" (defArgs s_moves) (defBody s_moves) (defScope s_moves) .none kV21 dc21 pm21 an21 cd21 ct21), sl21⟩)
    (c21 : PySem.W.codeIn K cd21 "moves" = true)
    (k21 : PySem.W.keepIn K (.ref f21) = true)
    (a22 : PySem.W.nsIn K mainGlobals "least_place" = some (some (.ref f22)))
    (l22 : K.lookup f22 = some ⟨oc22, od22, .func (PySem.W.fnOf "least_place" "least_place" (defArgs s_least_place) (defBody s_least_place) (defScope s_least_place) .none kV22 dc22 pm22 an22 cd22 ct22), sl22⟩)
    (c22 : PySem.W.codeIn K cd22 "least_place" = true)
    (k22 : PySem.W.keepIn K (.ref f22) = true)
    (a23 : PySem.W.nsIn K mainGlobals "pushed" = some (some (.ref f23)))
    (l23 : K.lookup f23 = some ⟨oc23, od23, .func (PySem.W.fnOf "pushed" "pushed" (defArgs s_pushed) (defBody s_pushed) (defScope s_pushed) .none kV23 dc23 pm23 an23 cd23 ct23), sl23⟩)
    (c23 : PySem.W.codeIn K cd23 "pushed" = true)
    (k23 : PySem.W.keepIn K (.ref f23) = true)
    (a24 : PySem.W.nsIn K mainGlobals "ran" = some (some (.ref f24)))
    (l24 : K.lookup f24 = some ⟨oc24, od24, .func (PySem.W.fnOf "ran" "ran" (defArgs s_ran) (defBody s_ran) (defScope s_ran) .none kV24 dc24 pm24 an24 cd24 ct24), sl24⟩)
    (c24 : PySem.W.codeIn K cd24 "ran" = true)
    (k24 : PySem.W.keepIn K (.ref f24) = true)
    (a25 : PySem.W.nsIn K mainGlobals "course_of" = some (some (.ref f25)))
    (l25 : K.lookup f25 = some ⟨oc25, od25, .func (PySem.W.fnOf "course_of" "course_of" (defArgs s_course_of) (defBody s_course_of) (defScope s_course_of) .none kV25 dc25 pm25 an25 cd25 ct25), sl25⟩)
    (c25 : PySem.W.codeIn K cd25 "course_of" = true)
    (k25 : PySem.W.keepIn K (.ref f25) = true)
    (a26 : PySem.W.nsIn K mainGlobals "course" = some (some (.ref f26)))
    (l26 : K.lookup f26 = some ⟨oc26, od26, .func (PySem.W.fnOf "course" "course" (defArgs s_course) (defBody s_course) (defScope s_course) .none kV26 dc26 pm26 an26 cd26 ct26), sl26⟩)
    (c26 : PySem.W.codeIn K cd26 "course" = true)
    (k26 : PySem.W.keepIn K (.ref f26) = true)
    (a27 : PySem.W.nsIn K mainGlobals "ends" = some (some (.ref f27)))
    (l27 : K.lookup f27 = some ⟨oc27, od27, .func (PySem.W.fnOf "ends" "ends" (defArgs s_ends) (defBody s_ends) (defScope s_ends) .none kV27 dc27 pm27 an27 cd27 ct27), sl27⟩)
    (c27 : PySem.W.codeIn K cd27 "ends" = true)
    (k27 : PySem.W.keepIn K (.ref f27) = true)
    (ma28 : PySem.W.findIn K (.ref C_Lane) "__init__" = some (some (.ref f28)))
    (mf28 : PySem.W.isFn K (.ref f28) = true)
    (mi28 : PySem.W.fnIn K f28 = true)
    (l28 : K.lookup f28 = some ⟨oc28, od28, .func (PySem.W.fnOf "__init__" "Lane.__init__" (defArgs s_Lane_init_u) (defBody s_Lane_init_u) (defScope s_Lane_init_u) .none kV28 dc28 pm28 an28 cd28 ct28), sl28⟩)
    (c28 : PySem.W.codeIn K cd28 "Lane.__init__" = true)
    (k28 : PySem.W.keepIn K (.ref f28) = true)
    (a29 : PySem.W.nsIn K mainGlobals "need_both" = some (some (.ref f29)))
    (l29 : K.lookup f29 = some ⟨oc29, od29, .func (PySem.W.fnOf "need_both" "need_both" (defArgs s_need_both) (defBody s_need_both) (defScope s_need_both) .none kV29 dc29 pm29 an29 cd29 ct29), sl29⟩)
    (c29 : PySem.W.codeIn K cd29 "need_both" = true)
    (k29 : PySem.W.keepIn K (.ref f29) = true)
    (a30 : PySem.W.nsIn K mainGlobals "alike" = some (some (.ref f30)))
    (l30 : K.lookup f30 = some ⟨oc30, od30, .func (PySem.W.fnOf "alike" "alike" (defArgs s_alike) (defBody s_alike) (defScope s_alike) .none kV30 dc30 pm30 an30 cd30 ct30), sl30⟩)
    (c30 : PySem.W.codeIn K cd30 "alike" = true)
    (k30 : PySem.W.keepIn K (.ref f30) = true)
    (a31 : PySem.W.nsIn K mainGlobals "parting" = some (some (.ref f31)))
    (l31 : K.lookup f31 = some ⟨oc31, od31, .func (PySem.W.fnOf "parting" "parting" (defArgs s_parting) (defBody s_parting) (defScope s_parting) .none kV31 dc31 pm31 an31 cd31 ct31), sl31⟩)
    (c31 : PySem.W.codeIn K cd31 "parting" = true)
    (k31 : PySem.W.keepIn K (.ref f31) = true)
    (a32 : PySem.W.nsIn K mainGlobals "never_behind" = some (some (.ref f32)))
    (l32 : K.lookup f32 = some ⟨oc32, od32, .func (PySem.W.fnOf "never_behind" "never_behind" (defArgs s_never_behind) (defBody s_never_behind) (defScope s_never_behind) .none kV32 dc32 pm32 an32 cd32 ct32), sl32⟩)
    (c32 : PySem.W.codeIn K cd32 "never_behind" = true)
    (k32 : PySem.W.keepIn K (.ref f32) = true)
    (a33 : PySem.W.nsIn K mainGlobals "first_behind" = some (some (.ref f33)))
    (l33 : K.lookup f33 = some ⟨oc33, od33, .func (PySem.W.fnOf "first_behind" "first_behind" (defArgs s_first_behind) (defBody s_first_behind) (defScope s_first_behind) .none kV33 dc33 pm33 an33 cd33 ct33), sl33⟩)
    (c33 : PySem.W.codeIn K cd33 "first_behind" = true)
    (k33 : PySem.W.keepIn K (.ref f33) = true)
    (a34 : PySem.W.nsIn K mainGlobals "shortened" = some (some (.ref f34)))
    (l34 : K.lookup f34 = some ⟨oc34, od34, .func (PySem.W.fnOf "shortened" "shortened" (defArgs s_shortened) (defBody s_shortened) (defScope s_shortened) .none kV34 dc34 pm34 an34 cd34 ct34), sl34⟩)
    (c34 : PySem.W.codeIn K cd34 "shortened" = true)
    (k34 : PySem.W.keepIn K (.ref f34) = true)
    (a35 : PySem.W.nsIn K mainGlobals "past_rows" = some (some (.ref f35)))
    (l35 : K.lookup f35 = some ⟨oc35, od35, .func (PySem.W.fnOf "past_rows" "past_rows" (defArgs s_past_rows) (defBody s_past_rows) (defScope s_past_rows) .none kV35 dc35 pm35 an35 cd35 ct35), sl35⟩)
    (c35 : PySem.W.codeIn K cd35 "past_rows" = true)
    (k35 : PySem.W.keepIn K (.ref f35) = true)
    (a36 : PySem.W.nsIn K mainGlobals "parts_here" = some (some (.ref f36)))
    (l36 : K.lookup f36 = some ⟨oc36, od36, .func (PySem.W.fnOf "parts_here" "parts_here" (defArgs s_parts_here) (defBody s_parts_here) (defScope s_parts_here) .none kV36 dc36 pm36 an36 cd36 ct36), sl36⟩)
    (c36 : PySem.W.codeIn K cd36 "parts_here" = true)
    (k36 : PySem.W.keepIn K (.ref f36) = true)
    (a37 : PySem.W.nsIn K mainGlobals "parted_of" = some (some (.ref f37)))
    (l37 : K.lookup f37 = some ⟨oc37, od37, .func (PySem.W.fnOf "parted_of" "parted_of" (defArgs s_parted_of) (defBody s_parted_of) (defScope s_parted_of) .none kV37 dc37 pm37 an37 cd37 ct37), sl37⟩)
    (c37 : PySem.W.codeIn K cd37 "parted_of" = true)
    (k37 : PySem.W.keepIn K (.ref f37) = true)
    (a38 : PySem.W.nsIn K mainGlobals "parted" = some (some (.ref f38)))
    (l38 : K.lookup f38 = some ⟨oc38, od38, .func (PySem.W.fnOf "parted" "parted" (defArgs s_parted) (defBody s_parted) (defScope s_parted) .none kV38 dc38 pm38 an38 cd38 ct38), sl38⟩)
    (c38 : PySem.W.codeIn K cd38 "parted" = true)
    (k38 : PySem.W.keepIn K (.ref f38) = true)
    (a39 : PySem.W.nsIn K mainGlobals "never_parted" = some (some (.ref f39)))
    (l39 : K.lookup f39 = some ⟨oc39, od39, .func (PySem.W.fnOf "never_parted" "never_parted" (defArgs s_never_parted) (defBody s_never_parted) (defScope s_never_parted) .none kV39 dc39 pm39 an39 cd39 ct39), sl39⟩)
    (c39 : PySem.W.codeIn K cd39 "never_parted" = true)
    (k39 : PySem.W.keepIn K (.ref f39) = true)
    (a40 : PySem.W.nsIn K mainGlobals "idle" = some (some (.ref f40)))
    (l40 : K.lookup f40 = some ⟨oc40, od40, .func (PySem.W.fnOf "idle" "idle" (defArgs s_idle) (defBody s_idle) (defScope s_idle) .none kV40 dc40 pm40 an40 cd40 ct40), sl40⟩)
    (c40 : PySem.W.codeIn K cd40 "idle" = true)
    (k40 : PySem.W.keepIn K (.ref f40) = true)
    (a41 : PySem.W.nsIn K mainGlobals "swaps" = some (some (.ref f41)))
    (l41 : K.lookup f41 = some ⟨oc41, od41, .func (PySem.W.fnOf "swaps" "swaps" (defArgs s_swaps) (defBody s_swaps) (defScope s_swaps) .none kV41 dc41 pm41 an41 cd41 ct41), sl41⟩)
    (c41 : PySem.W.codeIn K cd41 "swaps" = true)
    (k41 : PySem.W.keepIn K (.ref f41) = true)
    (a42 : PySem.W.nsIn K mainGlobals "shortest" = some (some (.ref f42)))
    (l42 : K.lookup f42 = some ⟨oc42, od42, .func (PySem.W.fnOf "shortest" "shortest" (defArgs s_shortest) (defBody s_shortest) (defScope s_shortest) .none kV42 dc42 pm42 an42 cd42 ct42), sl42⟩)
    (c42 : PySem.W.codeIn K cd42 "shortest" = true)
    (k42 : PySem.W.keepIn K (.ref f42) = true)
    (a43 : PySem.W.nsIn K mainGlobals "rooms_of" = some (some (.ref f43)))
    (l43 : K.lookup f43 = some ⟨oc43, od43, .func (PySem.W.fnOf "rooms_of" "rooms_of" (defArgs s_rooms_of) (defBody s_rooms_of) (defScope s_rooms_of) .none kV43 dc43 pm43 an43 cd43 ct43), sl43⟩)
    (c43 : PySem.W.codeIn K cd43 "rooms_of" = true)
    (k43 : PySem.W.keepIn K (.ref f43) = true)
    (a44 : PySem.W.nsIn K mainGlobals "leads" = some (some (.ref f44)))
    (l44 : K.lookup f44 = some ⟨oc44, od44, .func (PySem.W.fnOf "leads" "leads" (defArgs s_leads) (defBody s_leads) (defScope s_leads) .none kV44 dc44 pm44 an44 cd44 ct44), sl44⟩)
    (c44 : PySem.W.codeIn K cd44 "leads" = true)
    (k44 : PySem.W.keepIn K (.ref f44) = true)
    (a45 : PySem.W.nsIn K mainGlobals "greatest" = some (some (.ref f45)))
    (l45 : K.lookup f45 = some ⟨oc45, od45, .func (PySem.W.fnOf "greatest" "greatest" (defArgs s_greatest) (defBody s_greatest) (defScope s_greatest) .none kV45 dc45 pm45 an45 cd45 ct45), sl45⟩)
    (c45 : PySem.W.codeIn K cd45 "greatest" = true)
    (k45 : PySem.W.keepIn K (.ref f45) = true)
    (a46 : PySem.W.nsIn K mainGlobals "least_room" = some (some (.ref f46)))
    (l46 : K.lookup f46 = some ⟨oc46, od46, .func (PySem.W.fnOf "least_room" "least_room" (defArgs s_least_room) (defBody s_least_room) (defScope s_least_room) .none kV46 dc46 pm46 an46 cd46 ct46), sl46⟩)
    (c46 : PySem.W.codeIn K cd46 "least_room" = true)
    (k46 : PySem.W.keepIn K (.ref f46) = true)
    (a47 : PySem.W.nsIn K mainGlobals "bounds_of" = some (some (.ref f47)))
    (l47 : K.lookup f47 = some ⟨oc47, od47, .func (PySem.W.fnOf "bounds_of" "bounds_of" (defArgs s_bounds_of) (defBody s_bounds_of) (defScope s_bounds_of) .none kV47 dc47 pm47 an47 cd47 ct47), sl47⟩)
    (c47 : PySem.W.codeIn K cd47 "bounds_of" = true)
    (k47 : PySem.W.keepIn K (.ref f47) = true)
    (a48 : PySem.W.nsIn K mainGlobals "bounds" = some (some (.ref f48)))
    (l48 : K.lookup f48 = some ⟨oc48, od48, .func (PySem.W.fnOf "bounds" "bounds" (defArgs s_bounds) (defBody s_bounds) (defScope s_bounds) .none kV48 dc48 pm48 an48 cd48 ct48), sl48⟩)
    (c48 : PySem.W.codeIn K cd48 "bounds" = true)
    (k48 : PySem.W.keepIn K (.ref f48) = true)
    (a49 : PySem.W.nsIn K mainGlobals "greatest_beginning" = some (some (.ref f49)))
    (l49 : K.lookup f49 = some ⟨oc49, od49, .func (PySem.W.fnOf "greatest_beginning" "greatest_beginning" (defArgs s_greatest_beginning) (defBody s_greatest_beginning) (defScope s_greatest_beginning) .none kV49 dc49 pm49 an49 cd49 ct49), sl49⟩)
    (c49 : PySem.W.codeIn K cd49 "greatest_beginning" = true)
    (k49 : PySem.W.keepIn K (.ref f49) = true)
    (a50 : PySem.W.nsIn K mainGlobals "drill_text" = some (some (.ref f50)))
    (l50 : K.lookup f50 = some ⟨oc50, od50, .func (PySem.W.fnOf "drill_text" "drill_text" (defArgs s_drill_text) (defBody s_drill_text) (defScope s_drill_text) .none kV50 dc50 pm50 an50 cd50 ct50), sl50⟩)
    (c50 : PySem.W.codeIn K cd50 "drill_text" = true)
    (k50 : PySem.W.keepIn K (.ref f50) = true)
    (a51 : PySem.W.nsIn K mainGlobals "_law_cart_of" = some (some (.ref f51)))
    (l51 : K.lookup f51 = some ⟨oc51, od51, .func (PySem.W.fnOf "_law_cart_of" "_law_cart_of" (defArgs s_l_cart_of) (defBody s_l_cart_of) (defScope s_l_cart_of) .none kV51 dc51 pm51 an51 cd51 ct51), sl51⟩)
    (c51 : PySem.W.codeIn K cd51 "_law_cart_of" = true)
    (k51 : PySem.W.keepIn K (.ref f51) = true)
    (a52 : PySem.W.nsIn K mainGlobals "_law_take" = some (some (.ref f52)))
    (l52 : K.lookup f52 = some ⟨oc52, od52, .func (PySem.W.fnOf "_law_take" "_law_take" (defArgs s_l_take) (defBody s_l_take) (defScope s_l_take) .none kV52 dc52 pm52 an52 cd52 ct52), sl52⟩)
    (c52 : PySem.W.codeIn K cd52 "_law_take" = true)
    (k52 : PySem.W.keepIn K (.ref f52) = true)
    (a53 : PySem.W.nsIn K mainGlobals "_law_any" = some (some (.ref f53)))
    (l53 : K.lookup f53 = some ⟨oc53, od53, .func (PySem.W.fnOf "_law_any" "_law_any" (defArgs s_l_any) (defBody s_l_any) (defScope s_l_any) .none kV53 dc53 pm53 an53 cd53 ct53), sl53⟩)
    (c53 : PySem.W.codeIn K cd53 "_law_any" = true)
    (k53 : PySem.W.keepIn K (.ref f53) = true)
    (a54 : PySem.W.nsIn K mainGlobals "_law_deed" = some (some (.ref f54)))
    (l54 : K.lookup f54 = some ⟨oc54, od54, .func (PySem.W.fnOf "_law_deed" "_law_deed" (defArgs s_l_deed) (defBody s_l_deed) (defScope s_l_deed) .none kV54 dc54 pm54 an54 cd54 ct54), sl54⟩)
    (c54 : PySem.W.codeIn K cd54 "_law_deed" = true)
    (k54 : PySem.W.keepIn K (.ref f54) = true)
    (a55 : PySem.W.nsIn K mainGlobals "_law_deeds" = some (some (.ref f55)))
    (l55 : K.lookup f55 = some ⟨oc55, od55, .func (PySem.W.fnOf "_law_deeds" "_law_deeds" (defArgs s_l_deeds) (defBody s_l_deeds) (defScope s_l_deeds) .none kV55 dc55 pm55 an55 cd55 ct55), sl55⟩)
    (c55 : PySem.W.codeIn K cd55 "_law_deeds" = true)
    (k55 : PySem.W.keepIn K (.ref f55) = true)
    (a56 : PySem.W.nsIn K mainGlobals "_law_work" = some (some (.ref f56)))
    (l56 : K.lookup f56 = some ⟨oc56, od56, .func (PySem.W.fnOf "_law_work" "_law_work" (defArgs s_l_work) (defBody s_l_work) (defScope s_l_work) .none kV56 dc56 pm56 an56 cd56 ct56), sl56⟩)
    (c56 : PySem.W.codeIn K cd56 "_law_work" = true)
    (k56 : PySem.W.keepIn K (.ref f56) = true)
    (a57 : PySem.W.nsIn K mainGlobals "_law_at" = some (some (.ref f57)))
    (l57 : K.lookup f57 = some ⟨oc57, od57, .func (PySem.W.fnOf "_law_at" "_law_at" (defArgs s_l_at) (defBody s_l_at) (defScope s_l_at) .none kV57 dc57 pm57 an57 cd57 ct57), sl57⟩)
    (c57 : PySem.W.codeIn K cd57 "_law_at" = true)
    (k57 : PySem.W.keepIn K (.ref f57) = true)
    (a58 : PySem.W.nsIn K mainGlobals "_law_word" = some (some (.ref f58)))
    (l58 : K.lookup f58 = some ⟨oc58, od58, .func (PySem.W.fnOf "_law_word" "_law_word" (defArgs s_l_word) (defBody s_l_word) (defScope s_l_word) .none kV58 dc58 pm58 an58 cd58 ct58), sl58⟩)
    (c58 : PySem.W.codeIn K cd58 "_law_word" = true)
    (k58 : PySem.W.keepIn K (.ref f58) = true)
    (a59 : PySem.W.nsIn K mainGlobals "_law_first_calls" = some (some (.ref f59)))
    (l59 : K.lookup f59 = some ⟨oc59, od59, .func (PySem.W.fnOf "_law_first_calls" "_law_first_calls" (defArgs s_l_first_calls) (defBody s_l_first_calls) (defScope s_l_first_calls) .none kV59 dc59 pm59 an59 (.ref cc59) ct59), sl59⟩)
    (c59 : PySem.W.codeIn K (.ref cc59) "_law_first_calls" = true)
    (k59 : PySem.W.keepIn K (.ref f59) = true)
    (y59 : K.lookup cc59 = some ⟨yc59, yd59, .fields yv59, ys59⟩)
    (p59 : yv59[11]? = some (.ref pp59))
    (r59 : K.lookup pp59 = none)
    (q59 : (recsOf q).find? (fun e => e.name == ("_law_first_calls" : Str)) = some qd59)
    (a60 : PySem.W.nsIn K mainGlobals "_law_pair_calls" = some (some (.ref f60)))
    (l60 : K.lookup f60 = some ⟨oc60, od60, .func (PySem.W.fnOf "_law_pair_calls" "_law_pair_calls" (defArgs s_l_pair_calls) (defBody s_l_pair_calls) (defScope s_l_pair_calls) .none kV60 dc60 pm60 an60 (.ref cc60) ct60), sl60⟩)
    (c60 : PySem.W.codeIn K (.ref cc60) "_law_pair_calls" = true)
    (k60 : PySem.W.keepIn K (.ref f60) = true)
    (y60 : K.lookup cc60 = some ⟨yc60, yd60, .fields yv60, ys60⟩)
    (p60 : yv60[11]? = some (.ref pp60))
    (r60 : K.lookup pp60 = none)
    (q60 : (recsOf q).find? (fun e => e.name == ("_law_pair_calls" : Str)) = some qd60)
    (a61 : PySem.W.nsIn K mainGlobals "_law_place_calls" = some (some (.ref f61)))
    (l61 : K.lookup f61 = some ⟨oc61, od61, .func (PySem.W.fnOf "_law_place_calls" "_law_place_calls" (defArgs s_l_place_calls) (defBody s_l_place_calls) (defScope s_l_place_calls) .none kV61 dc61 pm61 an61 (.ref cc61) ct61), sl61⟩)
    (c61 : PySem.W.codeIn K (.ref cc61) "_law_place_calls" = true)
    (k61 : PySem.W.keepIn K (.ref f61) = true)
    (y61 : K.lookup cc61 = some ⟨yc61, yd61, .fields yv61, ys61⟩)
    (p61 : yv61[11]? = some (.ref pp61))
    (r61 : K.lookup pp61 = none)
    (q61 : (recsOf q).find? (fun e => e.name == ("_law_place_calls" : Str)) = some qd61)
    (a62 : PySem.W.nsIn K mainGlobals "_law_many_calls" = some (some (.ref f62)))
    (l62 : K.lookup f62 = some ⟨oc62, od62, .func (PySem.W.fnOf "_law_many_calls" "_law_many_calls" (defArgs s_l_many_calls) (defBody s_l_many_calls) (defScope s_l_many_calls) .none kV62 dc62 pm62 an62 (.ref cc62) ct62), sl62⟩)
    (c62 : PySem.W.codeIn K (.ref cc62) "_law_many_calls" = true)
    (k62 : PySem.W.keepIn K (.ref f62) = true)
    (y62 : K.lookup cc62 = some ⟨yc62, yd62, .fields yv62, ys62⟩)
    (p62 : yv62[11]? = some (.ref pp62))
    (r62 : K.lookup pp62 = none)
    (q62 : (recsOf q).find? (fun e => e.name == ("_law_many_calls" : Str)) = some qd62)
    (a63 : PySem.W.nsIn K mainGlobals "_law_all_words" = some (some (.ref f63)))
    (l63 : K.lookup f63 = some ⟨oc63, od63, .func (PySem.W.fnOf "_law_all_words" "_law_all_words" (defArgs s_l_all_words) (defBody s_l_all_words) (defScope s_l_all_words) .none kV63 dc63 pm63 an63 cd63 ct63), sl63⟩)
    (c63 : PySem.W.codeIn K cd63 "_law_all_words" = true)
    (k63 : PySem.W.keepIn K (.ref f63) = true)
    (a64 : PySem.W.nsIn K mainGlobals "law" = some (some (.ref f64)))
    (l64 : K.lookup f64 = some ⟨oc64, od64, .func (PySem.W.fnOf "law" "law" (defArgs s_law) (defBody s_law) (defScope s_law) .none kV64 dc64 pm64 an64 (.ref cc64) ct64), sl64⟩)
    (c64 : PySem.W.codeIn K (.ref cc64) "law" = true)
    (k64 : PySem.W.keepIn K (.ref f64) = true)
    (y64 : K.lookup cc64 = some ⟨yc64, yd64, .fields yv64, ys64⟩)
    (p64 : yv64[11]? = some (.ref pp64))
    (r64 : K.lookup pp64 = none)
    (q64 : (recsOf q).find? (fun e => e.name == ("law" : Str)) = some qd64)
    (j64_59 : pp64 ≠ pp59)
    (j64_60 : pp64 ≠ pp60)
    (j64_61 : pp64 ≠ pp61)
    (j64_62 : pp64 ≠ pp62)
    (j59_60 : pp59 ≠ pp60)
    (j59_61 : pp59 ≠ pp61)
    (j59_62 : pp59 ≠ pp62)
    (j60_61 : pp60 ≠ pp61)
    (j60_62 : pp60 ≠ pp62)
    (j61_62 : pp61 ≠ pp62)
    (kpg_Lane : PySem.W.plainGet K C_Lane Str.empty = true)
    (khd_Lane : PySem.W.hasDictIn K C_Lane = true)
    (kpo_Lane : PySem.W.plainOver K C_Lane = true)
    (ksa_Lane : PySem.W.findIn K (.ref C_Lane) "__setattr__" = some (some (.builtin "object.__setattr__")))
    (ksf_Lane : PySem.W.selfFirst K C_Lane = true)
    (kmo_Lane : PySem.W.mroIn K C_Lane (.type "object") = some true)
    (kca_Lane : PySem.W.findIn K (.ref C_Lane) "__class__" = some (some (.builtin "object.__class__")))
    (kic_Lane : PySem.W.isClsIn K C_Lane = true)
    (kty_Lane : PySem.W.typeIn K (.ref C_Lane) = some (.type "type"))
    (ksNoneType_Lane : PySem.W.subIn K (.type "NoneType") (.ref C_Lane) = some false)
    (ksbool_Lane : PySem.W.subIn K (.type "bool") (.ref C_Lane) = some false)
    (ksint_Lane : PySem.W.subIn K (.type "int") (.ref C_Lane) = some false)
    (ksstr_Lane : PySem.W.subIn K (.type "str") (.ref C_Lane) = some false)
    (kstuple_Lane : PySem.W.subIn K (.type "tuple") (.ref C_Lane) = some false)
    (kslist_Lane : PySem.W.subIn K (.type "list") (.ref C_Lane) = some false)
    (kn_now_Lane : PySem.W.findIn K (.ref C_Lane) "now" = some none)
    (kn_past_Lane : PySem.W.findIn K (.ref C_Lane) "past" = some none)
    (kn_space_Lane : PySem.W.findIn K (.ref C_Lane) "space" = some none)
    (kmk_Lane : PySem.W.makesIn K C_Lane = true)
    (kkp_Lane : PySem.W.keepIn K (.ref C_Lane) = true)
    (krd_Lane : PySem.W.readsIn K C_Lane (.type "type") = true)
    (kga_Lane : PySem.W.specialIn K (.ref C_Lane) "__getattribute__" = some (some (.builtin "type.__getattribute__")))
    (kv_MOST_Lane : PySem.W.findCls K (.ref C_Lane) (.type "type") "MOST" = some (.val (.int 50 t_Lane_MOST)))
    (u__law_lots : PySem.W.nsIn K mainGlobals "_law_lots" = some none)
    (u__law_tried : PySem.W.nsIn K mainGlobals "_law_tried" = some none)
    (u__law_signs_right : PySem.W.nsIn K mainGlobals "_law_signs_right" = some none)
    (u__law_refused : PySem.W.nsIn K mainGlobals "_law_refused" = some none)
    (u__law_called : PySem.W.nsIn K mainGlobals "_law_called" = some none)
    (u__law_shows : PySem.W.nsIn K mainGlobals "_law_shows" = some none)
    (u__law_nested : PySem.W.nsIn K mainGlobals "_law_nested" = some none)
    (u__law_ended : PySem.W.nsIn K mainGlobals "_law_ended" = some none)
    (u__law_back : PySem.W.nsIn K mainGlobals "_law_back" = some none)
    (u__law_full_right : PySem.W.nsIn K mainGlobals "_law_full_right" = some none)
    (ex_InvalidDrill : PySem.W.excIn K C_InvalidDrill [.type "ValueError", .type "Exception", .type "BaseException", .type "object"] "ValueError.__new__" = true)
    (ek_InvalidDrill : PySem.W.keepIn K (.ref C_InvalidDrill) = true)
    (eb_InvalidDrill : PySem.W.subIn K (.ref C_InvalidDrill) (.type "BaseException") = some true)
    (et_InvalidDrill : PySem.W.typeIn K (.ref C_InvalidDrill) = some (.type "type"))
    (ex_InvalidBeginning : PySem.W.excIn K C_InvalidBeginning [.type "ValueError", .type "Exception", .type "BaseException", .type "object"] "ValueError.__new__" = true)
    (ek_InvalidBeginning : PySem.W.keepIn K (.ref C_InvalidBeginning) = true)
    (eb_InvalidBeginning : PySem.W.subIn K (.ref C_InvalidBeginning) (.type "BaseException") = some true)
    (et_InvalidBeginning : PySem.W.typeIn K (.ref C_InvalidBeginning) = some (.type "type"))
    (ex_InvalidMany : PySem.W.excIn K C_InvalidMany [.type "ValueError", .type "Exception", .type "BaseException", .type "object"] "ValueError.__new__" = true)
    (ek_InvalidMany : PySem.W.keepIn K (.ref C_InvalidMany) = true)
    (eb_InvalidMany : PySem.W.subIn K (.ref C_InvalidMany) (.type "BaseException") = some true)
    (et_InvalidMany : PySem.W.typeIn K (.ref C_InvalidMany) = some (.type "type"))
    (ex_InvalidSheep : PySem.W.excIn K C_InvalidSheep [.type "ValueError", .type "Exception", .type "BaseException", .type "object"] "ValueError.__new__" = true)
    (ek_InvalidSheep : PySem.W.keepIn K (.ref C_InvalidSheep) = true)
    (eb_InvalidSheep : PySem.W.subIn K (.ref C_InvalidSheep) (.type "BaseException") = some true)
    (et_InvalidSheep : PySem.W.typeIn K (.ref C_InvalidSheep) = some (.type "type"))
    (ex_Unlike : PySem.W.excIn K C_Unlike [.type "ValueError", .type "Exception", .type "BaseException", .type "object"] "ValueError.__new__" = true)
    (ek_Unlike : PySem.W.keepIn K (.ref C_Unlike) = true)
    (eb_Unlike : PySem.W.subIn K (.ref C_Unlike) (.type "BaseException") = some true)
    (et_Unlike : PySem.W.typeIn K (.ref C_Unlike) = some (.type "type"))
    (ex_InvalidPlace : PySem.W.excIn K C_InvalidPlace [.type "ValueError", .type "Exception", .type "BaseException", .type "object"] "ValueError.__new__" = true)
    (ek_InvalidPlace : PySem.W.keepIn K (.ref C_InvalidPlace) = true)
    (eb_InvalidPlace : PySem.W.subIn K (.ref C_InvalidPlace) (.type "BaseException") = some true)
    (et_InvalidPlace : PySem.W.typeIn K (.ref C_InvalidPlace) = some (.type "type"))
    (ex_InvalidRun : PySem.W.excIn K C_InvalidRun [.type "ValueError", .type "Exception", .type "BaseException", .type "object"] "ValueError.__new__" = true)
    (ek_InvalidRun : PySem.W.keepIn K (.ref C_InvalidRun) = true)
    (eb_InvalidRun : PySem.W.subIn K (.ref C_InvalidRun) (.type "BaseException") = some true)
    (et_InvalidRun : PySem.W.typeIn K (.ref C_InvalidRun) = some (.type "type"))
    (ex_InvalidIndex : PySem.W.excIn K C_InvalidIndex [.type "ValueError", .type "Exception", .type "BaseException", .type "object"] "ValueError.__new__" = true)
    (ek_InvalidIndex : PySem.W.keepIn K (.ref C_InvalidIndex) = true)
    (eb_InvalidIndex : PySem.W.subIn K (.ref C_InvalidIndex) (.type "BaseException") = some true)
    (et_InvalidIndex : PySem.W.typeIn K (.ref C_InvalidIndex) = some (.type "type"))
    (ex_NothingToUndo : PySem.W.excIn K C_NothingToUndo [.type "ValueError", .type "Exception", .type "BaseException", .type "object"] "ValueError.__new__" = true)
    (ek_NothingToUndo : PySem.W.keepIn K (.ref C_NothingToUndo) = true)
    (eb_NothingToUndo : PySem.W.subIn K (.ref C_NothingToUndo) (.type "BaseException") = some true)
    (et_NothingToUndo : PySem.W.typeIn K (.ref C_NothingToUndo) = some (.type "type"))
    (ex_DogError : PySem.W.excIn K C_DogError [.type "ValueError", .type "Exception", .type "BaseException", .type "object"] "ValueError.__new__" = true)
    (ek_DogError : PySem.W.keepIn K (.ref C_DogError) = true)
    (eb_DogError : PySem.W.subIn K (.ref C_DogError) (.type "BaseException") = some true)
    (et_DogError : PySem.W.typeIn K (.ref C_DogError) = some (.type "type"))
    (gn : PySem.W.specialIn K (.builtin "object.__class__") "__get__" = some (some (.builtin "getset_descriptor.__get__")))
    (gt : PySem.W.takesIn K (.builtin "object.__class__") = some true)
    (ec_TooMany : PySem.W.findIn K (.ref C_TooMany) "__getattribute__" = some (some (.builtin "BaseException.__getattribute__")))
    (ed_TooMany : PySem.W.findIn K (.ref C_TooMany) "__getattr__" = some none)
    (ee_TooMany : PySem.W.subIn K (.ref C_TooMany) (.type "BaseException") = some true)
    (ec_InvalidText : PySem.W.findIn K (.ref C_InvalidText) "__getattribute__" = some (some (.builtin "BaseException.__getattribute__")))
    (ed_InvalidText : PySem.W.findIn K (.ref C_InvalidText) "__getattr__" = some none)
    (ee_InvalidText : PySem.W.subIn K (.ref C_InvalidText) (.type "BaseException") = some true)
    (hd_TooMany : PySem.W.hasDictIn K C_TooMany = true)
    (hf_TooMany : PySem.W.findIn K (.ref C_TooMany) "limit" = some none)
    (hd_InvalidText : PySem.W.hasDictIn K C_InvalidText = true)
    (hf_InvalidText : PySem.W.findIn K (.ref C_InvalidText) "line" = some none)
    (eb_TooMany : PySem.W.subIn K (.ref C_TooMany) (.type "BaseException") = some true)
    (et_TooMany : PySem.W.typeIn K (.ref C_TooMany) = some (.type "type"))
    (eb_InvalidText : PySem.W.subIn K (.ref C_InvalidText) (.type "BaseException") = some true)
    (et_InvalidText : PySem.W.typeIn K (.ref C_InvalidText) = some (.type "type"))
    (ei_InvalidDrill : PySem.W.isClsIn K C_InvalidDrill = true)
    (es_InvalidDrill_InvalidDrill : PySem.W.subIn K (.ref C_InvalidDrill) (.ref C_InvalidDrill) = some true)
    (es_InvalidBeginning_InvalidDrill : PySem.W.subIn K (.ref C_InvalidBeginning) (.ref C_InvalidDrill) = some false)
    (es_InvalidMany_InvalidDrill : PySem.W.subIn K (.ref C_InvalidMany) (.ref C_InvalidDrill) = some false)
    (es_InvalidSheep_InvalidDrill : PySem.W.subIn K (.ref C_InvalidSheep) (.ref C_InvalidDrill) = some false)
    (es_Unlike_InvalidDrill : PySem.W.subIn K (.ref C_Unlike) (.ref C_InvalidDrill) = some false)
    (ei_InvalidBeginning : PySem.W.isClsIn K C_InvalidBeginning = true)
    (es_InvalidDrill_InvalidBeginning : PySem.W.subIn K (.ref C_InvalidDrill) (.ref C_InvalidBeginning) = some false)
    (es_InvalidBeginning_InvalidBeginning : PySem.W.subIn K (.ref C_InvalidBeginning) (.ref C_InvalidBeginning) = some true)
    (es_InvalidMany_InvalidBeginning : PySem.W.subIn K (.ref C_InvalidMany) (.ref C_InvalidBeginning) = some false)
    (es_InvalidSheep_InvalidBeginning : PySem.W.subIn K (.ref C_InvalidSheep) (.ref C_InvalidBeginning) = some false)
    (es_Unlike_InvalidBeginning : PySem.W.subIn K (.ref C_Unlike) (.ref C_InvalidBeginning) = some false)
    (ei_InvalidMany : PySem.W.isClsIn K C_InvalidMany = true)
    (es_InvalidDrill_InvalidMany : PySem.W.subIn K (.ref C_InvalidDrill) (.ref C_InvalidMany) = some false)
    (es_InvalidBeginning_InvalidMany : PySem.W.subIn K (.ref C_InvalidBeginning) (.ref C_InvalidMany) = some false)
    (es_InvalidMany_InvalidMany : PySem.W.subIn K (.ref C_InvalidMany) (.ref C_InvalidMany) = some true)
    (es_InvalidSheep_InvalidMany : PySem.W.subIn K (.ref C_InvalidSheep) (.ref C_InvalidMany) = some false)
    (es_Unlike_InvalidMany : PySem.W.subIn K (.ref C_Unlike) (.ref C_InvalidMany) = some false)
    (ei_InvalidSheep : PySem.W.isClsIn K C_InvalidSheep = true)
    (es_InvalidDrill_InvalidSheep : PySem.W.subIn K (.ref C_InvalidDrill) (.ref C_InvalidSheep) = some false)
    (es_InvalidBeginning_InvalidSheep : PySem.W.subIn K (.ref C_InvalidBeginning) (.ref C_InvalidSheep) = some false)
    (es_InvalidMany_InvalidSheep : PySem.W.subIn K (.ref C_InvalidMany) (.ref C_InvalidSheep) = some false)
    (es_InvalidSheep_InvalidSheep : PySem.W.subIn K (.ref C_InvalidSheep) (.ref C_InvalidSheep) = some true)
    (es_Unlike_InvalidSheep : PySem.W.subIn K (.ref C_Unlike) (.ref C_InvalidSheep) = some false)
    (ei_InvalidPlace : PySem.W.isClsIn K C_InvalidPlace = true)
    (es_InvalidDrill_InvalidPlace : PySem.W.subIn K (.ref C_InvalidDrill) (.ref C_InvalidPlace) = some false)
    (es_InvalidBeginning_InvalidPlace : PySem.W.subIn K (.ref C_InvalidBeginning) (.ref C_InvalidPlace) = some false)
    (es_InvalidMany_InvalidPlace : PySem.W.subIn K (.ref C_InvalidMany) (.ref C_InvalidPlace) = some false)
    (es_InvalidSheep_InvalidPlace : PySem.W.subIn K (.ref C_InvalidSheep) (.ref C_InvalidPlace) = some false)
    (es_Unlike_InvalidPlace : PySem.W.subIn K (.ref C_Unlike) (.ref C_InvalidPlace) = some false)
    (ei_InvalidRun : PySem.W.isClsIn K C_InvalidRun = true)
    (es_InvalidDrill_InvalidRun : PySem.W.subIn K (.ref C_InvalidDrill) (.ref C_InvalidRun) = some false)
    (es_InvalidBeginning_InvalidRun : PySem.W.subIn K (.ref C_InvalidBeginning) (.ref C_InvalidRun) = some false)
    (es_InvalidMany_InvalidRun : PySem.W.subIn K (.ref C_InvalidMany) (.ref C_InvalidRun) = some false)
    (es_InvalidSheep_InvalidRun : PySem.W.subIn K (.ref C_InvalidSheep) (.ref C_InvalidRun) = some false)
    (es_Unlike_InvalidRun : PySem.W.subIn K (.ref C_Unlike) (.ref C_InvalidRun) = some false)
    (ei_InvalidIndex : PySem.W.isClsIn K C_InvalidIndex = true)
    (es_InvalidDrill_InvalidIndex : PySem.W.subIn K (.ref C_InvalidDrill) (.ref C_InvalidIndex) = some false)
    (es_InvalidBeginning_InvalidIndex : PySem.W.subIn K (.ref C_InvalidBeginning) (.ref C_InvalidIndex) = some false)
    (es_InvalidMany_InvalidIndex : PySem.W.subIn K (.ref C_InvalidMany) (.ref C_InvalidIndex) = some false)
    (es_InvalidSheep_InvalidIndex : PySem.W.subIn K (.ref C_InvalidSheep) (.ref C_InvalidIndex) = some false)
    (es_Unlike_InvalidIndex : PySem.W.subIn K (.ref C_Unlike) (.ref C_InvalidIndex) = some false)
    (ei_Unlike : PySem.W.isClsIn K C_Unlike = true)
    (es_InvalidDrill_Unlike : PySem.W.subIn K (.ref C_InvalidDrill) (.ref C_Unlike) = some false)
    (es_InvalidBeginning_Unlike : PySem.W.subIn K (.ref C_InvalidBeginning) (.ref C_Unlike) = some false)
    (es_InvalidMany_Unlike : PySem.W.subIn K (.ref C_InvalidMany) (.ref C_Unlike) = some false)
    (es_InvalidSheep_Unlike : PySem.W.subIn K (.ref C_InvalidSheep) (.ref C_Unlike) = some false)
    (es_Unlike_Unlike : PySem.W.subIn K (.ref C_Unlike) (.ref C_Unlike) = some true)
    (ei_NothingToUndo : PySem.W.isClsIn K C_NothingToUndo = true)
    (es_InvalidDrill_NothingToUndo : PySem.W.subIn K (.ref C_InvalidDrill) (.ref C_NothingToUndo) = some false)
    (es_InvalidBeginning_NothingToUndo : PySem.W.subIn K (.ref C_InvalidBeginning) (.ref C_NothingToUndo) = some false)
    (es_InvalidMany_NothingToUndo : PySem.W.subIn K (.ref C_InvalidMany) (.ref C_NothingToUndo) = some false)
    (es_InvalidSheep_NothingToUndo : PySem.W.subIn K (.ref C_InvalidSheep) (.ref C_NothingToUndo) = some false)
    (es_Unlike_NothingToUndo : PySem.W.subIn K (.ref C_Unlike) (.ref C_NothingToUndo) = some false)
    (ei_DogError : PySem.W.isClsIn K C_DogError = true)
    (es_InvalidDrill_DogError : PySem.W.subIn K (.ref C_InvalidDrill) (.ref C_DogError) = some true)
    (es_InvalidBeginning_DogError : PySem.W.subIn K (.ref C_InvalidBeginning) (.ref C_DogError) = some true)
    (es_InvalidMany_DogError : PySem.W.subIn K (.ref C_InvalidMany) (.ref C_DogError) = some true)
    (es_InvalidSheep_DogError : PySem.W.subIn K (.ref C_InvalidSheep) (.ref C_DogError) = some true)
    (es_Unlike_DogError : PySem.W.subIn K (.ref C_Unlike) (.ref C_DogError) = some true)
    (ei_TooMany : PySem.W.isClsIn K C_TooMany = true)
    (es_InvalidDrill_TooMany : PySem.W.subIn K (.ref C_InvalidDrill) (.ref C_TooMany) = some false)
    (es_InvalidBeginning_TooMany : PySem.W.subIn K (.ref C_InvalidBeginning) (.ref C_TooMany) = some false)
    (es_InvalidMany_TooMany : PySem.W.subIn K (.ref C_InvalidMany) (.ref C_TooMany) = some false)
    (es_InvalidSheep_TooMany : PySem.W.subIn K (.ref C_InvalidSheep) (.ref C_TooMany) = some false)
    (es_Unlike_TooMany : PySem.W.subIn K (.ref C_Unlike) (.ref C_TooMany) = some false)
    (ei_InvalidText : PySem.W.isClsIn K C_InvalidText = true)
    (es_InvalidDrill_InvalidText : PySem.W.subIn K (.ref C_InvalidDrill) (.ref C_InvalidText) = some false)
    (es_InvalidBeginning_InvalidText : PySem.W.subIn K (.ref C_InvalidBeginning) (.ref C_InvalidText) = some false)
    (es_InvalidMany_InvalidText : PySem.W.subIn K (.ref C_InvalidMany) (.ref C_InvalidText) = some false)
    (es_InvalidSheep_InvalidText : PySem.W.subIn K (.ref C_InvalidSheep) (.ref C_InvalidText) = some false)
    (es_Unlike_InvalidText : PySem.W.subIn K (.ref C_Unlike) (.ref C_InvalidText) = some false)
    (v_GREAT : PySem.W.nsIn K mainGlobals "GREAT" = some (some (.int 1000000000000000000000000000000 t_GREAT)))
    (v_FAR : PySem.W.nsIn K mainGlobals "FAR" = some (some (.int 1000000000000 t_FAR)))
    (v_MOST_RUNS : PySem.W.nsIn K mainGlobals "MOST_RUNS" = some (some (.int 8 t_MOST_RUNS)))
    (v_MOST_SHEEP : PySem.W.nsIn K mainGlobals "MOST_SHEEP" = some (some (.int 40 t_MOST_SHEEP)))
    (v_WIDEST : PySem.W.nsIn K mainGlobals "WIDEST" = some (some (.int 9 t_WIDEST)))
    (v_DEEPEST : PySem.W.nsIn K mainGlobals "DEEPEST" = some (some (.int 3 t_DEEPEST)))
    (z_abs : PySem.W.nsIn K mainGlobals "abs" = some none)
    (z_bool : PySem.W.nsIn K mainGlobals "bool" = some none)
    (z_enumerate : PySem.W.nsIn K mainGlobals "enumerate" = some none)
    (z_int : PySem.W.nsIn K mainGlobals "int" = some none)
    (z_isinstance : PySem.W.nsIn K mainGlobals "isinstance" = some none)
    (z_len : PySem.W.nsIn K mainGlobals "len" = some none)
    (z_list : PySem.W.nsIn K mainGlobals "list" = some none)
    (z_max : PySem.W.nsIn K mainGlobals "max" = some none)
    (z_min : PySem.W.nsIn K mainGlobals "min" = some none)
    (z_range : PySem.W.nsIn K mainGlobals "range" = some none)
    (z_str : PySem.W.nsIn K mainGlobals "str" = some none)
    (z_tuple : PySem.W.nsIn K mainGlobals "tuple" = some none)
    (z_zip : PySem.W.nsIn K mainGlobals "zip" = some none) :
    LamX.LawAtS l w K (L2.CX l.prog w) 11 63 "_law_script" mg fa h := by
  have G := T.g
  have e := hfa.symm.trans (PySem.W.mg_of X G a64)
  cases e
  have F0 := fun_mk (st := s_is_int) l0 c0 k0
  have F1 := fun_mk (st := s_is_a_run) l1 c1 k1
  have F2 := fun_mk (st := s_fits) l2 c2 k2
  have F3 := fun_mk (st := s_begins) l3 c3 k3
  have F4 := fun_mk (st := s_need_drill) l4 c4 k4
  have F5 := fun_mk (st := s_need_beginning) l5 c5 k5
  have F6 := fun_mk (st := s_need_many) l6 c6 k6
  have F7 := fun_mk (st := s_need_sheep) l7 c7 k7
  have F8 := fun_mk (st := s_is_beginning) l8 c8 k8
  have F9 := fun_mk (st := s_plain) l9 c9 k9
  have F10 := fun_mk (st := s_raised) l10 c10 k10
  have F11 := fun_mk (st := s_joined) l11 c11 k11
  have F12 := fun_mk (st := s_after) l12 c12 k12
  have F13 := fun_mk (st := s_map_of) l13 c13 k13
  have F14 := fun_mk (st := s_deep) l14 c14 k14
  have F15 := fun_mk (st := s_enough) l15 c15 k15
  have F16 := fun_mk (st := s_room_of) l16 c16 k16
  have F17 := fun_mk (st := s_terms_of) l17 c17 k17
  have F18 := fun_mk (st := s_small) l18 c18 k18
  have F19 := fun_mk (st := s_pair_of) l19 c19 k19
  have F20 := fun_mk (st := s_form) l20 c20 k20
  have F21 := fun_mk (st := s_moves) l21 c21 k21
  have F22 := fun_mk (st := s_least_place) l22 c22 k22
  have F23 := fun_mk (st := s_pushed) l23 c23 k23
  have F24 := fun_mk (st := s_ran) l24 c24 k24
  have F25 := fun_mk (st := s_course_of) l25 c25 k25
  have F26 := fun_mk (st := s_course) l26 c26 k26
  have F27 := fun_mk (st := s_ends) l27 c27 k27
  have F28 := fun_mk (st := s_Lane_init_u) l28 c28 k28
  have F29 := fun_mk (st := s_need_both) l29 c29 k29
  have F30 := fun_mk (st := s_alike) l30 c30 k30
  have F31 := fun_mk (st := s_parting) l31 c31 k31
  have F32 := fun_mk (st := s_never_behind) l32 c32 k32
  have F33 := fun_mk (st := s_first_behind) l33 c33 k33
  have F34 := fun_mk (st := s_shortened) l34 c34 k34
  have F35 := fun_mk (st := s_past_rows) l35 c35 k35
  have F36 := fun_mk (st := s_parts_here) l36 c36 k36
  have F37 := fun_mk (st := s_parted_of) l37 c37 k37
  have F38 := fun_mk (st := s_parted) l38 c38 k38
  have F39 := fun_mk (st := s_never_parted) l39 c39 k39
  have F40 := fun_mk (st := s_idle) l40 c40 k40
  have F41 := fun_mk (st := s_swaps) l41 c41 k41
  have F42 := fun_mk (st := s_shortest) l42 c42 k42
  have F43 := fun_mk (st := s_rooms_of) l43 c43 k43
  have F44 := fun_mk (st := s_leads) l44 c44 k44
  have F45 := fun_mk (st := s_greatest) l45 c45 k45
  have F46 := fun_mk (st := s_least_room) l46 c46 k46
  have F47 := fun_mk (st := s_bounds_of) l47 c47 k47
  have F48 := fun_mk (st := s_bounds) l48 c48 k48
  have F49 := fun_mk (st := s_greatest_beginning) l49 c49 k49
  have F50 := fun_mk (st := s_drill_text) l50 c50 k50
  have F51 := fun_mk (st := s_l_cart_of) l51 c51 k51
  have F52 := fun_mk (st := s_l_take) l52 c52 k52
  have F53 := fun_mk (st := s_l_any) l53 c53 k53
  have F54 := fun_mk (st := s_l_deed) l54 c54 k54
  have F55 := fun_mk (st := s_l_deeds) l55 c55 k55
  have F56 := fun_mk (st := s_l_work) l56 c56 k56
  have F57 := fun_mk (st := s_l_at) l57 c57 k57
  have F58 := fun_mk (st := s_l_word) l58 c58 k58
  have F59 := fun_mk (st := s_l_first_calls) l59 c59 k59
  have F60 := fun_mk (st := s_l_pair_calls) l60 c60 k60
  have F61 := fun_mk (st := s_l_place_calls) l61 c61 k61
  have F62 := fun_mk (st := s_l_many_calls) l62 c62 k62
  have F63 := fun_mk (st := s_l_all_words) l63 c63 k63
  have F64 := fun_mk (st := s_law) l64 c64 k64
  have tt64 := tab_mk a64 l64 rfl y64 p64
  have tt59 := tab_mk a59 l59 rfl y59 p59
  have tt60 := tab_mk a60 l60 rfl y60 p60
  have tt61 := tab_mk a61 l61 rfl y61 p61
  have tt62 := tab_mk a62 l62 rfl y62 p62
  have tabs : tabsOf K = [(pp64, (("law" : Str) ++ ".<locals>." ++ "<lambda>")), (pp59, (("_law_first_calls" : Str) ++ ".<locals>." ++ "<lambda>")), (pp60, (("_law_pair_calls" : Str) ++ ".<locals>." ++ "<lambda>")), (pp61, (("_law_place_calls" : Str) ++ ".<locals>." ++ "<lambda>")), (pp62, (("_law_many_calls" : Str) ++ ".<locals>." ++ "<lambda>"))] := by
    simp only [tabsOf, lamDefs, List.filterMap_cons, List.filterMap_nil, Option.map_some, Option.map_none, tt64, tt59, tt60, tt61, tt62, tab_no u__law_lots, tab_no u__law_tried, tab_no u__law_signs_right, tab_no u__law_refused, tab_no u__law_called, tab_no u__law_shows, tab_no u__law_nested, tab_no u__law_ended, tab_no u__law_back, tab_no u__law_full_right]
  let M : Md K mg := {
    f_is_int := _, d_is_int := _, F_is_int := F0, g_is_int := PySem.W.mg_of X G a0, n_is_int := a0, b_is_int := F0.binds (ps := ["value", "low", "high"]) (fun _ _ _ _ _ _ us hl => match us, hl with | [_, _, _], _ => rfl),
    f_is_a_run := _, d_is_a_run := _, F_is_a_run := F1, g_is_a_run := PySem.W.mg_of X G a1, n_is_a_run := a1, b_is_a_run := F1.binds (ps := ["value"]) (fun _ _ _ _ _ _ us hl => match us, hl with | [_], _ => rfl),
    f_fits := _, d_fits := _, F_fits := F2, g_fits := PySem.W.mg_of X G a2, n_fits := a2, b_fits := F2.binds (ps := ["value"]) (fun _ _ _ _ _ _ us hl => match us, hl with | [_], _ => rfl),
    f_begins := _, d_begins := _, F_begins := F3, g_begins := PySem.W.mg_of X G a3, n_begins := a3, b_begins := F3.binds (ps := ["gap", "value"]) (fun _ _ _ _ _ _ us hl => match us, hl with | [_, _], _ => rfl),
    f_need_drill := _, d_need_drill := _, F_need_drill := F4, g_need_drill := PySem.W.mg_of X G a4, n_need_drill := a4, b_need_drill := F4.binds (ps := ["value"]) (fun _ _ _ _ _ _ us hl => match us, hl with | [_], _ => rfl),
    f_need_beginning := _, d_need_beginning := _, F_need_beginning := F5, g_need_beginning := PySem.W.mg_of X G a5, n_need_beginning := a5, b_need_beginning := F5.binds (ps := ["gap", "value"]) (fun _ _ _ _ _ _ us hl => match us, hl with | [_, _], _ => rfl),
    f_need_many := _, d_need_many := _, F_need_many := F6, g_need_many := PySem.W.mg_of X G a6, n_need_many := a6, b_need_many := F6.binds (ps := ["value"]) (fun _ _ _ _ _ _ us hl => match us, hl with | [_], _ => rfl),
    f_need_sheep := _, d_need_sheep := _, F_need_sheep := F7, g_need_sheep := PySem.W.mg_of X G a7, n_need_sheep := a7, b_need_sheep := F7.binds (ps := ["many", "value"]) (fun _ _ _ _ _ _ us hl => match us, hl with | [_, _], _ => rfl),
    f_is_beginning := _, d_is_beginning := _, F_is_beginning := F8, g_is_beginning := PySem.W.mg_of X G a8, n_is_beginning := a8, b_is_beginning := F8.binds (ps := ["drill", "value"]) (fun _ _ _ _ _ _ us hl => match us, hl with | [_, _], _ => rfl),
    f_plain := _, d_plain := _, F_plain := F9, g_plain := PySem.W.mg_of X G a9, n_plain := a9, b_plain := F9.binds (ps := ["many"]) (fun _ _ _ _ _ _ us hl => match us, hl with | [_], _ => rfl),
    f_raised := _, d_raised := _, F_raised := F10, g_raised := PySem.W.mg_of X G a10, n_raised := a10, b_raised := F10.binds (ps := ["pair", "steps"]) (fun _ _ _ _ _ _ us hl => match us, hl with | [_, _], _ => rfl),
    f_joined := _, d_joined := _, F_joined := F11, g_joined := PySem.W.mg_of X G a11, n_joined := a11, b_joined := F11.binds (ps := ["pair", "other"]) (fun _ _ _ _ _ _ us hl => match us, hl with | [_, _], _ => rfl),
    f_after := _, d_after := _, F_after := F12, g_after := PySem.W.mg_of X G a12, n_after := a12, b_after := F12.binds (ps := ["found", "run", "many"]) (fun _ _ _ _ _ _ us hl => match us, hl with | [_, _, _], _ => rfl),
    f_map_of := _, d_map_of := _, F_map_of := F13, g_map_of := PySem.W.mg_of X G a13, n_map_of := a13, b_map_of := F13.binds (ps := ["drill", "many"]) (fun _ _ _ _ _ _ us hl => match us, hl with | [_, _], _ => rfl),
    f_deep := _, d_deep := _, F_deep := F14, g_deep := PySem.W.mg_of X G a14, n_deep := a14, b_deep := F14.binds (ps := ["drill", "word"]) (fun _ _ _ _ _ _ us hl => match us, hl with | [_, _], _ => rfl),
    f_enough := _, d_enough := _, F_enough := F15, g_enough := PySem.W.mg_of X G a15, n_enough := a15, b_enough := F15.binds (ps := ["drill", "other"]) (fun _ _ _ _ _ _ us hl => match us, hl with | [_, _], _ => rfl),
    f_room_of := _, d_room_of := _, F_room_of := F16, g_room_of := PySem.W.mg_of X G a16, n_room_of := a16, b_room_of := F16.binds (ps := ["pair", "rooms"]) (fun _ _ _ _ _ _ us hl => match us, hl with | [_, _], _ => rfl),
    f_terms_of := _, d_terms_of := _, F_terms_of := F17, g_terms_of := PySem.W.mg_of X G a17, n_terms_of := a17, b_terms_of := F17.binds (ps := ["pair"]) (fun _ _ _ _ _ _ us hl => match us, hl with | [_], _ => rfl),
    f_small := _, d_small := _, F_small := F18, g_small := PySem.W.mg_of X G a18, n_small := a18, b_small := F18.binds (ps := ["drill", "many", "sheep"]) (fun _ _ _ _ _ _ us hl => match us, hl with | [_, _, _], _ => rfl),
    f_pair_of := _, d_pair_of := _, F_pair_of := F19, g_pair_of := PySem.W.mg_of X G a19, n_pair_of := a19, b_pair_of := F19.binds (ps := ["drill", "many", "sheep"]) (fun _ _ _ _ _ _ us hl => match us, hl with | [_, _, _], _ => rfl),
    f_form := _, d_form := _, F_form := F20, g_form := PySem.W.mg_of X G a20, n_form := a20, b_form := F20.binds (ps := ["drill", "many", "sheep"]) (fun _ _ _ _ _ _ us hl => match us, hl with | [_, _, _], _ => rfl),
    f_moves := _, d_moves := _, F_moves := F21, g_moves := PySem.W.mg_of X G a21, n_moves := a21, b_moves := F21.binds (ps := ["drill", "many", "sheep"]) (fun _ _ _ _ _ _ us hl => match us, hl with | [_, _, _], _ => rfl),
    f_least_place := _, d_least_place := _, F_least_place := F22, g_least_place := PySem.W.mg_of X G a22, n_least_place := a22, b_least_place := F22.binds (ps := ["drill", "many", "sheep"]) (fun _ _ _ _ _ _ us hl => match us, hl with | [_, _, _], _ => rfl),
    f_pushed := _, d_pushed := _, F_pushed := F23, g_pushed := PySem.W.mg_of X G a23, n_pushed := a23, b_pushed := F23.binds (ps := ["gap", "places", "sheep", "steps"]) (fun _ _ _ _ _ _ us hl => match us, hl with | [_, _, _, _], _ => rfl),
    f_ran := _, d_ran := _, F_ran := F24, g_ran := PySem.W.mg_of X G a24, n_ran := a24, b_ran := F24.binds (ps := ["gap", "places", "run"]) (fun _ _ _ _ _ _ us hl => match us, hl with | [_, _, _], _ => rfl),
    f_course_of := _, d_course_of := _, F_course_of := F25, g_course_of := PySem.W.mg_of X G a25, n_course_of := a25, b_course_of := F25.binds (ps := ["drill", "beginning"]) (fun _ _ _ _ _ _ us hl => match us, hl with | [_, _], _ => rfl),
    f_course := _, d_course := _, F_course := F26, g_course := PySem.W.mg_of X G a26, n_course := a26, b_course := F26.binds (ps := ["drill", "beginning"]) (fun _ _ _ _ _ _ us hl => match us, hl with | [_, _], _ => rfl),
    f_ends := _, d_ends := _, F_ends := F27, g_ends := PySem.W.mg_of X G a27, n_ends := a27, b_ends := F27.binds (ps := ["drill", "beginning"]) (fun _ _ _ _ _ _ us hl => match us, hl with | [_, _], _ => rfl),
    f_Lane_init_u := _, d_Lane_init_u := _, F_Lane_init_u := F28, b_Lane_init_u := F28.binds (ps := ["self", "gap", "beginning"]) (fun _ _ _ _ _ _ us hl => match us, hl with | [_, _, _], _ => rfl),
    mk_Lane_init_u := ⟨kmk_Lane, ma28, mf28, kkp_Lane⟩,
    f_need_both := _, d_need_both := _, F_need_both := F29, g_need_both := PySem.W.mg_of X G a29, n_need_both := a29, b_need_both := F29.binds (ps := ["one", "other"]) (fun _ _ _ _ _ _ us hl => match us, hl with | [_, _], _ => rfl),
    f_alike := _, d_alike := _, F_alike := F30, g_alike := PySem.W.mg_of X G a30, n_alike := a30, b_alike := F30.binds (ps := ["one", "other"]) (fun _ _ _ _ _ _ us hl => match us, hl with | [_, _], _ => rfl),
    f_parting := _, d_parting := _, F_parting := F31, g_parting := PySem.W.mg_of X G a31, n_parting := a31, b_parting := F31.binds (ps := ["one", "other"]) (fun _ _ _ _ _ _ us hl => match us, hl with | [_, _], _ => rfl),
    f_never_behind := _, d_never_behind := _, F_never_behind := F32, g_never_behind := PySem.W.mg_of X G a32, n_never_behind := a32, b_never_behind := F32.binds (ps := ["one", "other"]) (fun _ _ _ _ _ _ us hl => match us, hl with | [_, _], _ => rfl),
    f_first_behind := _, d_first_behind := _, F_first_behind := F33, g_first_behind := PySem.W.mg_of X G a33, n_first_behind := a33, b_first_behind := F33.binds (ps := ["one", "other"]) (fun _ _ _ _ _ _ us hl => match us, hl with | [_, _], _ => rfl),
    f_shortened := _, d_shortened := _, F_shortened := F34, g_shortened := PySem.W.mg_of X G a34, n_shortened := a34, b_shortened := F34.binds (ps := ["items"]) (fun _ _ _ _ _ _ us hl => match us, hl with | [_], _ => rfl),
    f_past_rows := _, d_past_rows := _, F_past_rows := F35, g_past_rows := PySem.W.mg_of X G a35, n_past_rows := a35, b_past_rows := F35.binds (ps := ["drill", "post"]) (fun _ _ _ _ _ _ us hl => match us, hl with | [_, _], _ => rfl),
    f_parts_here := _, d_parts_here := _, F_parts_here := F36, g_parts_here := PySem.W.mg_of X G a36, n_parts_here := a36, b_parts_here := F36.binds (ps := ["drill", "many", "sheep"]) (fun _ _ _ _ _ _ us hl => match us, hl with | [_, _, _], _ => rfl),
    f_parted_of := _, d_parted_of := _, F_parted_of := F37, g_parted_of := PySem.W.mg_of X G a37, n_parted_of := a37, b_parted_of := F37.binds (ps := ["drill", "many"]) (fun _ _ _ _ _ _ us hl => match us, hl with | [_, _], _ => rfl),
    f_parted := _, d_parted := _, F_parted := F38, g_parted := PySem.W.mg_of X G a38, n_parted := a38, b_parted := F38.binds (ps := ["drill", "many"]) (fun _ _ _ _ _ _ us hl => match us, hl with | [_, _], _ => rfl),
    f_never_parted := _, d_never_parted := _, F_never_parted := F39, g_never_parted := PySem.W.mg_of X G a39, n_never_parted := a39, b_never_parted := F39.binds (ps := ["drill"]) (fun _ _ _ _ _ _ us hl => match us, hl with | [_], _ => rfl),
    f_idle := _, d_idle := _, F_idle := F40, g_idle := PySem.W.mg_of X G a40, n_idle := a40, b_idle := F40.binds (ps := ["drill"]) (fun _ _ _ _ _ _ us hl => match us, hl with | [_], _ => rfl),
    f_swaps := _, d_swaps := _, F_swaps := F41, g_swaps := PySem.W.mg_of X G a41, n_swaps := a41, b_swaps := F41.binds (ps := ["drill"]) (fun _ _ _ _ _ _ us hl => match us, hl with | [_], _ => rfl),
    f_shortest := _, d_shortest := _, F_shortest := F42, g_shortest := PySem.W.mg_of X G a42, n_shortest := a42, b_shortest := F42.binds (ps := ["drill"]) (fun _ _ _ _ _ _ us hl => match us, hl with | [_], _ => rfl),
    f_rooms_of := _, d_rooms_of := _, F_rooms_of := F43, g_rooms_of := PySem.W.mg_of X G a43, n_rooms_of := a43, b_rooms_of := F43.binds (ps := ["gap", "places"]) (fun _ _ _ _ _ _ us hl => match us, hl with | [_, _], _ => rfl),
    f_leads := _, d_leads := _, F_leads := F44, g_leads := PySem.W.mg_of X G a44, n_leads := a44, b_leads := F44.binds (ps := ["found", "rooms", "due"]) (fun _ _ _ _ _ _ us hl => match us, hl with | [_, _, _], _ => rfl),
    f_greatest := _, d_greatest := _, F_greatest := F45, g_greatest := PySem.W.mg_of X G a45, n_greatest := a45, b_greatest := F45.binds (ps := ["found", "due"]) (fun _ _ _ _ _ _ us hl => match us, hl with | [_, _], _ => rfl),
    f_least_room := _, d_least_room := _, F_least_room := F46, g_least_room := PySem.W.mg_of X G a46, n_least_room := a46, b_least_room := F46.binds (ps := ["found", "rooms", "due", "sheep"]) (fun _ _ _ _ _ _ us hl => match us, hl with | [_, _, _, _], _ => rfl),
    f_bounds_of := _, d_bounds_of := _, F_bounds_of := F47, g_bounds_of := PySem.W.mg_of X G a47, n_bounds_of := a47, b_bounds_of := F47.binds (ps := ["drill", "ends"]) (fun _ _ _ _ _ _ us hl => match us, hl with | [_, _], _ => rfl),
    f_bounds := _, d_bounds := _, F_bounds := F48, g_bounds := PySem.W.mg_of X G a48, n_bounds := a48, b_bounds := F48.binds (ps := ["drill", "ends"]) (fun _ _ _ _ _ _ us hl => match us, hl with | [_, _], _ => rfl),
    f_greatest_beginning := _, d_greatest_beginning := _, F_greatest_beginning := F49, g_greatest_beginning := PySem.W.mg_of X G a49, n_greatest_beginning := a49, b_greatest_beginning := F49.binds (ps := ["drill", "ends"]) (fun _ _ _ _ _ _ us hl => match us, hl with | [_, _], _ => rfl),
    f_drill_text := _, d_drill_text := _, F_drill_text := F50, g_drill_text := PySem.W.mg_of X G a50, n_drill_text := a50, b_drill_text := F50.binds (ps := ["drill"]) (fun _ _ _ _ _ _ us hl => match us, hl with | [_], _ => rfl),
    f_l_cart_of := _, d_l_cart_of := _, F_l_cart_of := F51, g_l_cart_of := PySem.W.mg_of X G a51, n_l_cart_of := a51, b_l_cart_of := F51.binds (ps := ["_law_script", "_law_k"]) (fun _ _ _ _ _ _ us hl => match us, hl with | [_, _], _ => rfl),
    f_l_take := _, d_l_take := _, F_l_take := F52, g_l_take := PySem.W.mg_of X G a52, n_l_take := a52, b_l_take := F52.binds (ps := ["_law_cart", "_law_many"]) (fun _ _ _ _ _ _ us hl => match us, hl with | [_, _], _ => rfl),
    f_l_any := _, d_l_any := _, F_l_any := F53, g_l_any := PySem.W.mg_of X G a53, n_l_any := a53, b_l_any := F53.binds (ps := ["_law_cart", "_law_things"]) (fun _ _ _ _ _ _ us hl => match us, hl with | [_, _], _ => rfl),
    f_l_deed := _, d_l_deed := _, F_l_deed := F54, g_l_deed := PySem.W.mg_of X G a54, n_l_deed := a54, b_l_deed := F54.binds (ps := ["_law_cart", "_law_wide"]) (fun _ _ _ _ _ _ us hl => match us, hl with | [_, _], _ => rfl),
    f_l_deeds := _, d_l_deeds := _, F_l_deeds := F55, g_l_deeds := PySem.W.mg_of X G a55, n_l_deeds := a55, b_l_deeds := F55.binds (ps := ["_law_cart", "_law_most", "_law_wide"]) (fun _ _ _ _ _ _ us hl => match us, hl with | [_, _, _], _ => rfl),
    f_l_work := _, d_l_work := _, F_l_work := F56, g_l_work := PySem.W.mg_of X G a56, n_l_work := a56, b_l_work := F56.binds (ps := ["_law_cart", "_law_most"]) (fun _ _ _ _ _ _ us hl => match us, hl with | [_, _], _ => rfl),
    f_l_at := _, d_l_at := _, F_l_at := F57, g_l_at := PySem.W.mg_of X G a57, n_l_at := a57, b_l_at := F57.binds (ps := ["_law_gap", "_law_rooms"]) (fun _ _ _ _ _ _ us hl => match us, hl with | [_, _], _ => rfl),
    f_l_word := _, d_l_word := _, F_l_word := F58, g_l_word := PySem.W.mg_of X G a58, n_l_word := a58, b_l_word := F58.binds (ps := ["_law_call"]) (fun _ _ _ _ _ _ us hl => match us, hl with | [_], _ => rfl),
    f_l_first_calls := _, d_l_first_calls := _, F_l_first_calls := F59, g_l_first_calls := PySem.W.mg_of X G a59, n_l_first_calls := a59, b_l_first_calls := F59.binds (ps := ["_law_work_here"]) (fun _ _ _ _ _ _ us hl => match us, hl with | [_], _ => rfl),
    c_l_first_calls := _, P_l_first_calls := pp59, o1_l_first_calls := _, o2_l_first_calls := _, o3_l_first_calls := _, o4_l_first_calls := _, o5_l_first_calls := _, u1_l_first_calls := _, u2_l_first_calls := _, us_l_first_calls := _, lk_l_first_calls := l59, cd_l_first_calls := c59, db_l_first_calls := rfl,
    tm_l_first_calls := by rw [tabs]; simp, tu_l_first_calls := by
      rw [tabs]
      intro p hp e
      simp only [List.mem_cons, List.not_mem_nil, or_false] at hp
      rcases hp with rfl | rfl | rfl | rfl | rfl
      · exact absurd (show pp64 = pp59 from e) j64_59
      · rfl
      · exact absurd (show pp60 = pp59 from e).symm j59_60
      · exact absurd (show pp61 = pp59 from e).symm j59_61
      · exact absurd (show pp62 = pp59 from e).symm j59_62,
    f_l_pair_calls := _, d_l_pair_calls := _, F_l_pair_calls := F60, g_l_pair_calls := PySem.W.mg_of X G a60, n_l_pair_calls := a60, b_l_pair_calls := F60.binds (ps := ["_law_one", "_law_other"]) (fun _ _ _ _ _ _ us hl => match us, hl with | [_, _], _ => rfl),
    c_l_pair_calls := _, P_l_pair_calls := pp60, o1_l_pair_calls := _, o2_l_pair_calls := _, o3_l_pair_calls := _, o4_l_pair_calls := _, o5_l_pair_calls := _, u1_l_pair_calls := _, u2_l_pair_calls := _, us_l_pair_calls := _, lk_l_pair_calls := l60, cd_l_pair_calls := c60, db_l_pair_calls := rfl,
    tm_l_pair_calls := by rw [tabs]; simp, tu_l_pair_calls := by
      rw [tabs]
      intro p hp e
      simp only [List.mem_cons, List.not_mem_nil, or_false] at hp
      rcases hp with rfl | rfl | rfl | rfl | rfl
      · exact absurd (show pp64 = pp60 from e) j64_60
      · exact absurd (show pp59 = pp60 from e) j59_60
      · rfl
      · exact absurd (show pp61 = pp60 from e).symm j60_61
      · exact absurd (show pp62 = pp60 from e).symm j60_62,
    f_l_place_calls := _, d_l_place_calls := _, F_l_place_calls := F61, g_l_place_calls := PySem.W.mg_of X G a61, n_l_place_calls := a61, b_l_place_calls := F61.binds (ps := ["_law_work_here", "_law_places"]) (fun _ _ _ _ _ _ us hl => match us, hl with | [_, _], _ => rfl),
    c_l_place_calls := _, P_l_place_calls := pp61, o1_l_place_calls := _, o2_l_place_calls := _, o3_l_place_calls := _, o4_l_place_calls := _, o5_l_place_calls := _, u1_l_place_calls := _, u2_l_place_calls := _, us_l_place_calls := _, lk_l_place_calls := l61, cd_l_place_calls := c61, db_l_place_calls := rfl,
    tm_l_place_calls := by rw [tabs]; simp, tu_l_place_calls := by
      rw [tabs]
      intro p hp e
      simp only [List.mem_cons, List.not_mem_nil, or_false] at hp
      rcases hp with rfl | rfl | rfl | rfl | rfl
      · exact absurd (show pp64 = pp61 from e) j64_61
      · exact absurd (show pp59 = pp61 from e) j59_61
      · exact absurd (show pp60 = pp61 from e) j60_61
      · rfl
      · exact absurd (show pp62 = pp61 from e).symm j61_62,
    f_l_many_calls := _, d_l_many_calls := _, F_l_many_calls := F62, g_l_many_calls := PySem.W.mg_of X G a62, n_l_many_calls := a62, b_l_many_calls := F62.binds (ps := ["_law_work_here", "_law_many", "_law_sheep"]) (fun _ _ _ _ _ _ us hl => match us, hl with | [_, _, _], _ => rfl),
    c_l_many_calls := _, P_l_many_calls := pp62, o1_l_many_calls := _, o2_l_many_calls := _, o3_l_many_calls := _, o4_l_many_calls := _, o5_l_many_calls := _, u1_l_many_calls := _, u2_l_many_calls := _, us_l_many_calls := _, lk_l_many_calls := l62, cd_l_many_calls := c62, db_l_many_calls := rfl,
    tm_l_many_calls := by rw [tabs]; simp, tu_l_many_calls := by
      rw [tabs]
      intro p hp e
      simp only [List.mem_cons, List.not_mem_nil, or_false] at hp
      rcases hp with rfl | rfl | rfl | rfl | rfl
      · exact absurd (show pp64 = pp62 from e) j64_62
      · exact absurd (show pp59 = pp62 from e) j59_62
      · exact absurd (show pp60 = pp62 from e) j60_62
      · exact absurd (show pp61 = pp62 from e) j61_62
      · rfl,
    f_l_all_words := _, d_l_all_words := _, F_l_all_words := F63, g_l_all_words := PySem.W.mg_of X G a63, n_l_all_words := a63, b_l_all_words := F63.binds (ps := ["_law_calls", "_law_word_here"]) (fun _ _ _ _ _ _ us hl => match us, hl with | [_, _], _ => rfl),
    f_law := _, d_law := _, F_law := F64, g_law := PySem.W.mg_of X G a64, n_law := a64, b_law := F64.binds (ps := ["_law_script"]) (fun _ _ _ _ _ _ us hl => match us, hl with | [_], _ => rfl),
    c_law := _, P_law := pp64, o1_law := _, o2_law := _, o3_law := _, o4_law := _, o5_law := _, u1_law := _, u2_law := _, us_law := _, lk_law := l64, cd_law := c64,
    tm_law := by rw [tabs]; simp, tu_law := by
      rw [tabs]
      intro p hp e
      simp only [List.mem_cons, List.not_mem_nil, or_false] at hp
      rcases hp with rfl | rfl | rfl | rfl | rfl
      · rfl
      · exact absurd (show pp59 = pp64 from e).symm j64_59
      · exact absurd (show pp60 = pp64 from e).symm j64_60
      · exact absurd (show pp61 = pp64 from e).symm j64_61
      · exact absurd (show pp62 = pp64 from e).symm j64_62,
    C_Lane := C_Lane, gc_Lane := PySem.W.mg_of X G eg_Lane, cr_Lane := ⟨krd_Lane, kga_Lane⟩,
    I_Lane := ⟨eg_Lane, ⟨kpg_Lane, khd_Lane, kpo_Lane, ksa_Lane⟩, ksf_Lane, kmo_Lane, kca_Lane, gn, gt, kit_self, kit_six ksNoneType_Lane ksbool_Lane ksint_Lane ksstr_Lane kstuple_Lane kslist_Lane kic_Lane kty_Lane⟩,
    na_Lane_now := kn_now_Lane,
    na_Lane_past := kn_past_Lane,
    na_Lane_space := kn_space_Lane,
    u_Lane_MOST := .int 50 t_Lane_MOST, cv_Lane_MOST := ⟨kv_MOST_Lane, _, rfl⟩,
    C_InvalidDrill := C_InvalidDrill, e_InvalidDrill := ⟨PySem.W.mg_of X G eg_InvalidDrill, eg_InvalidDrill, ex_InvalidDrill, ek_InvalidDrill, eb_InvalidDrill, et_InvalidDrill⟩,
    C_InvalidBeginning := C_InvalidBeginning, e_InvalidBeginning := ⟨PySem.W.mg_of X G eg_InvalidBeginning, eg_InvalidBeginning, ex_InvalidBeginning, ek_InvalidBeginning, eb_InvalidBeginning, et_InvalidBeginning⟩,
    C_InvalidMany := C_InvalidMany, e_InvalidMany := ⟨PySem.W.mg_of X G eg_InvalidMany, eg_InvalidMany, ex_InvalidMany, ek_InvalidMany, eb_InvalidMany, et_InvalidMany⟩,
    C_InvalidSheep := C_InvalidSheep, e_InvalidSheep := ⟨PySem.W.mg_of X G eg_InvalidSheep, eg_InvalidSheep, ex_InvalidSheep, ek_InvalidSheep, eb_InvalidSheep, et_InvalidSheep⟩,
    C_Unlike := C_Unlike, e_Unlike := ⟨PySem.W.mg_of X G eg_Unlike, eg_Unlike, ex_Unlike, ek_Unlike, eb_Unlike, et_Unlike⟩,
    C_InvalidPlace := C_InvalidPlace, e_InvalidPlace := ⟨PySem.W.mg_of X G eg_InvalidPlace, eg_InvalidPlace, ex_InvalidPlace, ek_InvalidPlace, eb_InvalidPlace, et_InvalidPlace⟩,
    C_InvalidRun := C_InvalidRun, e_InvalidRun := ⟨PySem.W.mg_of X G eg_InvalidRun, eg_InvalidRun, ex_InvalidRun, ek_InvalidRun, eb_InvalidRun, et_InvalidRun⟩,
    C_InvalidIndex := C_InvalidIndex, e_InvalidIndex := ⟨PySem.W.mg_of X G eg_InvalidIndex, eg_InvalidIndex, ex_InvalidIndex, ek_InvalidIndex, eb_InvalidIndex, et_InvalidIndex⟩,
    C_NothingToUndo := C_NothingToUndo, e_NothingToUndo := ⟨PySem.W.mg_of X G eg_NothingToUndo, eg_NothingToUndo, ex_NothingToUndo, ek_NothingToUndo, eb_NothingToUndo, et_NothingToUndo⟩,
    C_DogError := C_DogError, e_DogError := ⟨PySem.W.mg_of X G eg_DogError, eg_DogError, ex_DogError, ek_DogError, eb_DogError, et_DogError⟩,
    C_TooMany := C_TooMany, c_TooMany := PySem.W.mg_of X G eg_TooMany,
    C_InvalidText := C_InvalidText, c_InvalidText := PySem.W.mg_of X G eg_InvalidText,
    n_TooMany := eg_TooMany,
    n_InvalidText := eg_InvalidText,
    FA := fldAll_mk [(("TooMany", "limit"), C_TooMany), (("InvalidText", "line"), C_InvalidText)] rfl (fm2 eg_TooMany (fm2 eg_InvalidText fm0)) (fm2 ⟨⟨ec_TooMany, ed_TooMany, ee_TooMany, hd_TooMany⟩, hf_TooMany⟩ (fm2 ⟨⟨ec_InvalidText, ed_InvalidText, ee_InvalidText, hd_InvalidText⟩, hf_InvalidText⟩ fm0)),
    x_InvalidDrill_InvalidDrill := exm_mk eb_InvalidDrill ei_InvalidDrill et_InvalidDrill es_InvalidDrill_InvalidDrill,
    x_InvalidBeginning_InvalidDrill := exm_mk eb_InvalidDrill ei_InvalidDrill et_InvalidDrill es_InvalidBeginning_InvalidDrill,
    x_InvalidMany_InvalidDrill := exm_mk eb_InvalidDrill ei_InvalidDrill et_InvalidDrill es_InvalidMany_InvalidDrill,
    x_InvalidSheep_InvalidDrill := exm_mk eb_InvalidDrill ei_InvalidDrill et_InvalidDrill es_InvalidSheep_InvalidDrill,
    x_Unlike_InvalidDrill := exm_mk eb_InvalidDrill ei_InvalidDrill et_InvalidDrill es_Unlike_InvalidDrill,
    x_InvalidDrill_InvalidBeginning := exm_mk eb_InvalidBeginning ei_InvalidBeginning et_InvalidBeginning es_InvalidDrill_InvalidBeginning,
    x_InvalidBeginning_InvalidBeginning := exm_mk eb_InvalidBeginning ei_InvalidBeginning et_InvalidBeginning es_InvalidBeginning_InvalidBeginning,
    x_InvalidMany_InvalidBeginning := exm_mk eb_InvalidBeginning ei_InvalidBeginning et_InvalidBeginning es_InvalidMany_InvalidBeginning,
    x_InvalidSheep_InvalidBeginning := exm_mk eb_InvalidBeginning ei_InvalidBeginning et_InvalidBeginning es_InvalidSheep_InvalidBeginning,
    x_Unlike_InvalidBeginning := exm_mk eb_InvalidBeginning ei_InvalidBeginning et_InvalidBeginning es_Unlike_InvalidBeginning,
    x_InvalidDrill_InvalidMany := exm_mk eb_InvalidMany ei_InvalidMany et_InvalidMany es_InvalidDrill_InvalidMany,
    x_InvalidBeginning_InvalidMany := exm_mk eb_InvalidMany ei_InvalidMany et_InvalidMany es_InvalidBeginning_InvalidMany,
    x_InvalidMany_InvalidMany := exm_mk eb_InvalidMany ei_InvalidMany et_InvalidMany es_InvalidMany_InvalidMany,
    x_InvalidSheep_InvalidMany := exm_mk eb_InvalidMany ei_InvalidMany et_InvalidMany es_InvalidSheep_InvalidMany,
    x_Unlike_InvalidMany := exm_mk eb_InvalidMany ei_InvalidMany et_InvalidMany es_Unlike_InvalidMany,
    x_InvalidDrill_InvalidSheep := exm_mk eb_InvalidSheep ei_InvalidSheep et_InvalidSheep es_InvalidDrill_InvalidSheep,
    x_InvalidBeginning_InvalidSheep := exm_mk eb_InvalidSheep ei_InvalidSheep et_InvalidSheep es_InvalidBeginning_InvalidSheep,
    x_InvalidMany_InvalidSheep := exm_mk eb_InvalidSheep ei_InvalidSheep et_InvalidSheep es_InvalidMany_InvalidSheep,
    x_InvalidSheep_InvalidSheep := exm_mk eb_InvalidSheep ei_InvalidSheep et_InvalidSheep es_InvalidSheep_InvalidSheep,
    x_Unlike_InvalidSheep := exm_mk eb_InvalidSheep ei_InvalidSheep et_InvalidSheep es_Unlike_InvalidSheep,
    x_InvalidDrill_InvalidPlace := exm_mk eb_InvalidPlace ei_InvalidPlace et_InvalidPlace es_InvalidDrill_InvalidPlace,
    x_InvalidBeginning_InvalidPlace := exm_mk eb_InvalidPlace ei_InvalidPlace et_InvalidPlace es_InvalidBeginning_InvalidPlace,
    x_InvalidMany_InvalidPlace := exm_mk eb_InvalidPlace ei_InvalidPlace et_InvalidPlace es_InvalidMany_InvalidPlace,
    x_InvalidSheep_InvalidPlace := exm_mk eb_InvalidPlace ei_InvalidPlace et_InvalidPlace es_InvalidSheep_InvalidPlace,
    x_Unlike_InvalidPlace := exm_mk eb_InvalidPlace ei_InvalidPlace et_InvalidPlace es_Unlike_InvalidPlace,
    x_InvalidDrill_InvalidRun := exm_mk eb_InvalidRun ei_InvalidRun et_InvalidRun es_InvalidDrill_InvalidRun,
    x_InvalidBeginning_InvalidRun := exm_mk eb_InvalidRun ei_InvalidRun et_InvalidRun es_InvalidBeginning_InvalidRun,
    x_InvalidMany_InvalidRun := exm_mk eb_InvalidRun ei_InvalidRun et_InvalidRun es_InvalidMany_InvalidRun,
    x_InvalidSheep_InvalidRun := exm_mk eb_InvalidRun ei_InvalidRun et_InvalidRun es_InvalidSheep_InvalidRun,
    x_Unlike_InvalidRun := exm_mk eb_InvalidRun ei_InvalidRun et_InvalidRun es_Unlike_InvalidRun,
    x_InvalidDrill_InvalidIndex := exm_mk eb_InvalidIndex ei_InvalidIndex et_InvalidIndex es_InvalidDrill_InvalidIndex,
    x_InvalidBeginning_InvalidIndex := exm_mk eb_InvalidIndex ei_InvalidIndex et_InvalidIndex es_InvalidBeginning_InvalidIndex,
    x_InvalidMany_InvalidIndex := exm_mk eb_InvalidIndex ei_InvalidIndex et_InvalidIndex es_InvalidMany_InvalidIndex,
    x_InvalidSheep_InvalidIndex := exm_mk eb_InvalidIndex ei_InvalidIndex et_InvalidIndex es_InvalidSheep_InvalidIndex,
    x_Unlike_InvalidIndex := exm_mk eb_InvalidIndex ei_InvalidIndex et_InvalidIndex es_Unlike_InvalidIndex,
    x_InvalidDrill_Unlike := exm_mk eb_Unlike ei_Unlike et_Unlike es_InvalidDrill_Unlike,
    x_InvalidBeginning_Unlike := exm_mk eb_Unlike ei_Unlike et_Unlike es_InvalidBeginning_Unlike,
    x_InvalidMany_Unlike := exm_mk eb_Unlike ei_Unlike et_Unlike es_InvalidMany_Unlike,
    x_InvalidSheep_Unlike := exm_mk eb_Unlike ei_Unlike et_Unlike es_InvalidSheep_Unlike,
    x_Unlike_Unlike := exm_mk eb_Unlike ei_Unlike et_Unlike es_Unlike_Unlike,
    x_InvalidDrill_NothingToUndo := exm_mk eb_NothingToUndo ei_NothingToUndo et_NothingToUndo es_InvalidDrill_NothingToUndo,
    x_InvalidBeginning_NothingToUndo := exm_mk eb_NothingToUndo ei_NothingToUndo et_NothingToUndo es_InvalidBeginning_NothingToUndo,
    x_InvalidMany_NothingToUndo := exm_mk eb_NothingToUndo ei_NothingToUndo et_NothingToUndo es_InvalidMany_NothingToUndo,
    x_InvalidSheep_NothingToUndo := exm_mk eb_NothingToUndo ei_NothingToUndo et_NothingToUndo es_InvalidSheep_NothingToUndo,
    x_Unlike_NothingToUndo := exm_mk eb_NothingToUndo ei_NothingToUndo et_NothingToUndo es_Unlike_NothingToUndo,
    x_InvalidDrill_DogError := exm_mk eb_DogError ei_DogError et_DogError es_InvalidDrill_DogError,
    x_InvalidBeginning_DogError := exm_mk eb_DogError ei_DogError et_DogError es_InvalidBeginning_DogError,
    x_InvalidMany_DogError := exm_mk eb_DogError ei_DogError et_DogError es_InvalidMany_DogError,
    x_InvalidSheep_DogError := exm_mk eb_DogError ei_DogError et_DogError es_InvalidSheep_DogError,
    x_Unlike_DogError := exm_mk eb_DogError ei_DogError et_DogError es_Unlike_DogError,
    x_InvalidDrill_TooMany := exm_mk eb_TooMany ei_TooMany et_TooMany es_InvalidDrill_TooMany,
    x_InvalidBeginning_TooMany := exm_mk eb_TooMany ei_TooMany et_TooMany es_InvalidBeginning_TooMany,
    x_InvalidMany_TooMany := exm_mk eb_TooMany ei_TooMany et_TooMany es_InvalidMany_TooMany,
    x_InvalidSheep_TooMany := exm_mk eb_TooMany ei_TooMany et_TooMany es_InvalidSheep_TooMany,
    x_Unlike_TooMany := exm_mk eb_TooMany ei_TooMany et_TooMany es_Unlike_TooMany,
    x_InvalidDrill_InvalidText := exm_mk eb_InvalidText ei_InvalidText et_InvalidText es_InvalidDrill_InvalidText,
    x_InvalidBeginning_InvalidText := exm_mk eb_InvalidText ei_InvalidText et_InvalidText es_InvalidBeginning_InvalidText,
    x_InvalidMany_InvalidText := exm_mk eb_InvalidText ei_InvalidText et_InvalidText es_InvalidMany_InvalidText,
    x_InvalidSheep_InvalidText := exm_mk eb_InvalidText ei_InvalidText et_InvalidText es_InvalidSheep_InvalidText,
    x_Unlike_InvalidText := exm_mk eb_InvalidText ei_InvalidText et_InvalidText es_Unlike_InvalidText,
    t_GREAT := t_GREAT, g_GREAT := PySem.W.mg_of X G v_GREAT,
    t_FAR := t_FAR, g_FAR := PySem.W.mg_of X G v_FAR,
    t_MOST_RUNS := t_MOST_RUNS, g_MOST_RUNS := PySem.W.mg_of X G v_MOST_RUNS,
    t_MOST_SHEEP := t_MOST_SHEEP, g_MOST_SHEEP := PySem.W.mg_of X G v_MOST_SHEEP,
    t_WIDEST := t_WIDEST, g_WIDEST := PySem.W.mg_of X G v_WIDEST,
    t_DEEPEST := t_DEEPEST, g_DEEPEST := PySem.W.mg_of X G v_DEEPEST,
    z_abs := PySem.W.mg_none_of X G z_abs,
    z_bool := PySem.W.mg_none_of X G z_bool,
    z_enumerate := PySem.W.mg_none_of X G z_enumerate,
    z_int := PySem.W.mg_none_of X G z_int,
    z_isinstance := PySem.W.mg_none_of X G z_isinstance,
    z_len := PySem.W.mg_none_of X G z_len,
    z_list := PySem.W.mg_none_of X G z_list,
    z_max := PySem.W.mg_none_of X G z_max,
    z_min := PySem.W.mg_none_of X G z_min,
    z_range := PySem.W.mg_none_of X G z_range,
    z_str := PySem.W.mg_none_of X G z_str,
    z_tuple := PySem.W.mg_none_of X G z_tuple,
    z_zip := PySem.W.mg_none_of X G z_zip }
  have tab1 := fun (x : Str) (c P : Addr) (d : DefRec) (t : PySem.W.tabIn K x = some (c, P)) (r : (recsOf q).find? (fun e => e.name == x) = some d) => PySem.W.tab_of T X r t
  have hT : ∀ p ∈ ([(cc64, pp64), (cc59, pp59), (cc60, pp60), (cc61, pp61), (cc62, pp62)] : List (Addr × Addr)), h.get? p.2 = some { cls := .none, data := .fields #[] } := fun p hp => by
    simp only [List.mem_cons, List.not_mem_nil, or_false] at hp
    rcases hp with rfl | rfl | rfl | rfl | rfl
    · exact (tab1 _ _ _ _ tt64 q64).2
    · exact (tab1 _ _ _ _ tt59 q59).2
    · exact (tab1 _ _ _ _ tt60 q60).2
    · exact (tab1 _ _ _ _ tt61 q61).2
    · exact (tab1 _ _ _ _ tt62 q62).2
  have hC : ∀ p ∈ ([(cc64, pp64), (cc59, pp59), (cc60, pp60), (cc61, pp61), (cc62, pp62)] : List (Addr × Addr)), PySem.W.CodeHd h p.1 p.2 := fun p hp => by
    simp only [List.mem_cons, List.not_mem_nil, or_false] at hp
    rcases hp with rfl | rfl | rfl | rfl | rfl
    · exact (tab1 _ _ _ _ tt64 q64).1
    · exact (tab1 _ _ _ _ tt59 q59).1
    · exact (tab1 _ _ _ _ tt60 q60).1
    · exact (tab1 _ _ _ _ tt61 q61).1
    · exact (tab1 _ _ _ _ tt62 q62).1
  have hN : ∀ p ∈ ([(cc64, pp64), (cc59, pp59), (cc60, pp60), (cc61, pp61), (cc62, pp62)] : List (Addr × Addr)), K.lookup p.2 = none := fun p hp => by
    simp only [List.mem_cons, List.not_mem_nil, or_false] at hp
    rcases hp with rfl | rfl | rfl | rfl | rfl
    · exact r64
    · exact r59
    · exact r60
    · exact r61
    · exact r62
  have hin : ∀ p ∈ tabsOf K, ∃ c, (c, p.1) ∈ ([(cc64, pp64), (cc59, pp59), (cc60, pp60), (cc61, pp61), (cc62, pp62)] : List (Addr × Addr)) := by
    rw [tabs]
    intro p hp
    simp only [List.mem_cons, List.not_mem_nil, or_false] at hp
    rcases hp with rfl | rfl | rfl | rfl | rfl
    · exact ⟨cc64, by simp⟩
    · exact ⟨cc59, by simp⟩
    · exact ⟨cc60, by simp⟩
    · exact ⟨cc61, by simp⟩
    · exact ⟨cc62, by simp⟩
  exact ⟨(PySem.W.fnOf "law" "law" (defArgs s_law) (defBody s_law) (defScope s_law) .none kV64 dc64 pm64 an64 (.ref cc64) ct64), [(cc64, pp64), (cc59, pp59), (cc60, pp60), (cc61, pp61), (cc62, pp62)], spD K 1 (S_law), hT, hN, hC, fun s u => .of_eq rfl, fun H a ns hl _ hH hS => law_spT0 hin (fun ns Q QX hl q => law_in ns [] Q QX hl rfl q) H a ns hl hH hS, fun base _ _ TB => ok_law M (TB (cc59, pp59) (by simp)) (TB (cc60, pp60) (by simp)) (TB (cc61, pp61) (by simp)) (TB (cc62, pp62) (by simp)) (TB (cc64, pp64) (by simp))⟩
end V
end DL
set_option Elab.async false
set_option linter.all false
set_option maxRecDepth 100000
set_option maxHeartbeats 4000000
set_option autoImplicit false
open PySem PySem.W PyProof.Rows
set_option maxHeartbeats 0 in
theorem PySem.Challenge.cw_dogruns_k16_errors_in_their_order_holds : PySem.Challenge.rw_dogruns_k16_errors_in_their_order.Holds := by
  w_on; o_law; k_head; (case hw => w_witness2)
  k_fill
  refine DL.walk_ofD (l := PySem.Challenge.rw_dogruns_k16_errors_in_their_order) (n := 63) (k := 11) (x := "_law_script") (CX := fun w => L2.CX PySem.Challenge.rw_dogruns_k16_errors_in_their_order.prog w) rfl (by decide) rfl ⟨rfl, by decide, by decide⟩ (fun w h Y => PySem.W.km_in_of Y) ?F ?X
  case F =>
    intro w mg mb fa h lo mean Y KX T hmg
    refine' DL.V.all_mk KX T hmg ?eg_Lane ?eg_InvalidDrill ?eg_InvalidBeginning ?eg_InvalidMany ?eg_InvalidSheep ?eg_Unlike ?eg_InvalidPlace ?eg_InvalidRun ?eg_InvalidIndex ?eg_NothingToUndo ?eg_DogError ?eg_TooMany ?eg_InvalidText ?a0 ?l0 ?c0 ?k0 ?a1 ?l1 ?c1 ?k1 ?a2 ?l2 ?c2 ?k2 ?a3 ?l3 ?c3 ?k3 ?a4 ?l4 ?c4 ?k4 ?a5 ?l5 ?c5 ?k5 ?a6 ?l6 ?c6 ?k6 ?a7 ?l7 ?c7 ?k7 ?a8 ?l8 ?c8 ?k8 ?a9 ?l9 ?c9 ?k9 ?a10 ?l10 ?c10 ?k10 ?a11 ?l11 ?c11 ?k11 ?a12 ?l12 ?c12 ?k12 ?a13 ?l13 ?c13 ?k13 ?a14 ?l14 ?c14 ?k14 ?a15 ?l15 ?c15 ?k15 ?a16 ?l16 ?c16 ?k16 ?a17 ?l17 ?c17 ?k17 ?a18 ?l18 ?c18 ?k18 ?a19 ?l19 ?c19 ?k19 ?a20 ?l20 ?c20 ?k20 ?a21 ?l21 ?c21 ?k21 ?a22 ?l22 ?c22 ?k22 ?a23 ?l23 ?c23 ?k23 ?a24 ?l24 ?c24 ?k24 ?a25 ?l25 ?c25 ?k25 ?a26 ?l26 ?c26 ?k26 ?a27 ?l27 ?c27 ?k27 ?ma28 ?mf28 ?mi28 ?l28 ?c28 ?k28 ?a29 ?l29 ?c29 ?k29 ?a30 ?l30 ?c30 ?k30 ?a31 ?l31 ?c31 ?k31 ?a32 ?l32 ?c32 ?k32 ?a33 ?l33 ?c33 ?k33 ?a34 ?l34 ?c34 ?k34 ?a35 ?l35 ?c35 ?k35 ?a36 ?l36 ?c36 ?k36 ?a37 ?l37 ?c37 ?k37 ?a38 ?l38 ?c38 ?k38 ?a39 ?l39 ?c39 ?k39 ?a40 ?l40 ?c40 ?k40 ?a41 ?l41 ?c41 ?k41 ?a42 ?l42 ?c42 ?k42 ?a43 ?l43 ?c43 ?k43 ?a44 ?l44 ?c44 ?k44 ?a45 ?l45 ?c45 ?k45 ?a46 ?l46 ?c46 ?k46 ?a47 ?l47 ?c47 ?k47 ?a48 ?l48 ?c48 ?k48 ?a49 ?l49 ?c49 ?k49 ?a50 ?l50 ?c50 ?k50 ?a51 ?l51 ?c51 ?k51 ?a52 ?l52 ?c52 ?k52 ?a53 ?l53 ?c53 ?k53 ?a54 ?l54 ?c54 ?k54 ?a55 ?l55 ?c55 ?k55 ?a56 ?l56 ?c56 ?k56 ?a57 ?l57 ?c57 ?k57 ?a58 ?l58 ?c58 ?k58 ?a59 ?l59 ?c59 ?k59 ?y59 ?p59 ?r59 ?q59 ?a60 ?l60 ?c60 ?k60 ?y60 ?p60 ?r60 ?q60 ?a61 ?l61 ?c61 ?k61 ?y61 ?p61 ?r61 ?q61 ?a62 ?l62 ?c62 ?k62 ?y62 ?p62 ?r62 ?q62 ?a63 ?l63 ?c63 ?k63 ?a64 ?l64 ?c64 ?k64 ?y64 ?p64 ?r64 ?q64 ?j64_59 ?j64_60 ?j64_61 ?j64_62 ?j59_60 ?j59_61 ?j59_62 ?j60_61 ?j60_62 ?j61_62 ?kpg_Lane ?khd_Lane ?kpo_Lane ?ksa_Lane ?ksf_Lane ?kmo_Lane ?kca_Lane ?kic_Lane ?kty_Lane ?ksNoneType_Lane ?ksbool_Lane ?ksint_Lane ?ksstr_Lane ?kstuple_Lane ?kslist_Lane ?kn_now_Lane ?kn_past_Lane ?kn_space_Lane ?kmk_Lane ?kkp_Lane ?krd_Lane ?kga_Lane ?kv_MOST_Lane ?u__law_lots ?u__law_tried ?u__law_signs_right ?u__law_refused ?u__law_called ?u__law_shows ?u__law_nested ?u__law_ended ?u__law_back ?u__law_full_right ?ex_InvalidDrill ?ek_InvalidDrill ?eb_InvalidDrill ?et_InvalidDrill ?ex_InvalidBeginning ?ek_InvalidBeginning ?eb_InvalidBeginning ?et_InvalidBeginning ?ex_InvalidMany ?ek_InvalidMany ?eb_InvalidMany ?et_InvalidMany ?ex_InvalidSheep ?ek_InvalidSheep ?eb_InvalidSheep ?et_InvalidSheep ?ex_Unlike ?ek_Unlike ?eb_Unlike ?et_Unlike ?ex_InvalidPlace ?ek_InvalidPlace ?eb_InvalidPlace ?et_InvalidPlace ?ex_InvalidRun ?ek_InvalidRun ?eb_InvalidRun ?et_InvalidRun ?ex_InvalidIndex ?ek_InvalidIndex ?eb_InvalidIndex ?et_InvalidIndex ?ex_NothingToUndo ?ek_NothingToUndo ?eb_NothingToUndo ?et_NothingToUndo ?ex_DogError ?ek_DogError ?eb_DogError ?et_DogError ?gn ?gt ?ec_TooMany ?ed_TooMany ?ee_TooMany ?ec_InvalidText ?ed_InvalidText ?ee_InvalidText ?hd_TooMany ?hf_TooMany ?hd_InvalidText ?hf_InvalidText ?eb_TooMany ?et_TooMany ?eb_InvalidText ?et_InvalidText ?ei_InvalidDrill ?es_InvalidDrill_InvalidDrill ?es_InvalidBeginning_InvalidDrill ?es_InvalidMany_InvalidDrill ?es_InvalidSheep_InvalidDrill ?es_Unlike_InvalidDrill ?ei_InvalidBeginning ?es_InvalidDrill_InvalidBeginning ?es_InvalidBeginning_InvalidBeginning ?es_InvalidMany_InvalidBeginning ?es_InvalidSheep_InvalidBeginning ?es_Unlike_InvalidBeginning ?ei_InvalidMany ?es_InvalidDrill_InvalidMany ?es_InvalidBeginning_InvalidMany ?es_InvalidMany_InvalidMany ?es_InvalidSheep_InvalidMany ?es_Unlike_InvalidMany ?ei_InvalidSheep ?es_InvalidDrill_InvalidSheep ?es_InvalidBeginning_InvalidSheep ?es_InvalidMany_InvalidSheep ?es_InvalidSheep_InvalidSheep ?es_Unlike_InvalidSheep ?ei_InvalidPlace ?es_InvalidDrill_InvalidPlace ?es_InvalidBeginning_InvalidPlace ?es_InvalidMany_InvalidPlace ?es_InvalidSheep_InvalidPlace ?es_Unlike_InvalidPlace ?ei_InvalidRun ?es_InvalidDrill_InvalidRun ?es_InvalidBeginning_InvalidRun ?es_InvalidMany_InvalidRun ?es_InvalidSheep_InvalidRun ?es_Unlike_InvalidRun ?ei_InvalidIndex ?es_InvalidDrill_InvalidIndex ?es_InvalidBeginning_InvalidIndex ?es_InvalidMany_InvalidIndex ?es_InvalidSheep_InvalidIndex ?es_Unlike_InvalidIndex ?ei_Unlike ?es_InvalidDrill_Unlike ?es_InvalidBeginning_Unlike ?es_InvalidMany_Unlike ?es_InvalidSheep_Unlike ?es_Unlike_Unlike ?ei_NothingToUndo ?es_InvalidDrill_NothingToUndo ?es_InvalidBeginning_NothingToUndo ?es_InvalidMany_NothingToUndo ?es_InvalidSheep_NothingToUndo ?es_Unlike_NothingToUndo ?ei_DogError ?es_InvalidDrill_DogError ?es_InvalidBeginning_DogError ?es_InvalidMany_DogError ?es_InvalidSheep_DogError ?es_Unlike_DogError ?ei_TooMany ?es_InvalidDrill_TooMany ?es_InvalidBeginning_TooMany ?es_InvalidMany_TooMany ?es_InvalidSheep_TooMany ?es_Unlike_TooMany ?ei_InvalidText ?es_InvalidDrill_InvalidText ?es_InvalidBeginning_InvalidText ?es_InvalidMany_InvalidText ?es_InvalidSheep_InvalidText ?es_Unlike_InvalidText ?v_GREAT ?v_FAR ?v_MOST_RUNS ?v_MOST_SHEEP ?v_WIDEST ?v_DEEPEST ?z_abs ?z_bool ?z_enumerate ?z_int ?z_isinstance ?z_len ?z_list ?z_max ?z_min ?z_range ?z_str ?z_tuple ?z_zip
    (case eg_Lane => k_is); (case eg_InvalidDrill => k_is); (case eg_InvalidBeginning => k_is); (case eg_InvalidMany => k_is); (case eg_InvalidSheep => k_is); (case eg_Unlike => k_is); (case eg_InvalidPlace => k_is); (case eg_InvalidRun => k_is)
    (case eg_InvalidIndex => k_is); (case eg_NothingToUndo => k_is); (case eg_DogError => k_is); (case eg_TooMany => k_is); (case eg_InvalidText => k_is); (case a0 => k_is); (case l0 => k_is); (case c0 => k_is)
    (case k0 => k_is); (case a1 => k_is); (case l1 => k_is); (case c1 => k_is); (case k1 => k_is); (case a2 => k_is); (case l2 => k_is); (case c2 => k_is)
    (case k2 => k_is); (case a3 => k_is); (case l3 => k_is); (case c3 => k_is); (case k3 => k_is); (case a4 => k_is); (case l4 => k_is); (case c4 => k_is)
    (case k4 => k_is); (case a5 => k_is); (case l5 => k_is); (case c5 => k_is); (case k5 => k_is); (case a6 => k_is); (case l6 => k_is); (case c6 => k_is)
    (case k6 => k_is); (case a7 => k_is); (case l7 => k_is); (case c7 => k_is); (case k7 => k_is); (case a8 => k_is); (case l8 => k_is); (case c8 => k_is)
    (case k8 => k_is); (case a9 => k_is); (case l9 => k_is); (case c9 => k_is); (case k9 => k_is); (case a10 => k_is); (case l10 => k_is); (case c10 => k_is)
    (case k10 => k_is); (case a11 => k_is); (case l11 => k_is); (case c11 => k_is); (case k11 => k_is); (case a12 => k_is); (case l12 => k_is); (case c12 => k_is)
    (case k12 => k_is); (case a13 => k_is); (case l13 => k_is); (case c13 => k_is); (case k13 => k_is); (case a14 => k_is); (case l14 => k_is); (case c14 => k_is)
    (case k14 => k_is); (case a15 => k_is); (case l15 => k_is); (case c15 => k_is); (case k15 => k_is); (case a16 => k_is); (case l16 => k_is); (case c16 => k_is)
    (case k16 => k_is); (case a17 => k_is); (case l17 => k_is); (case c17 => k_is); (case k17 => k_is); (case a18 => k_is); (case l18 => k_is); (case c18 => k_is)
    (case k18 => k_is); (case a19 => k_is); (case l19 => k_is); (case c19 => k_is); (case k19 => k_is); (case a20 => k_is); (case l20 => k_is); (case c20 => k_is)
    (case k20 => k_is); (case a21 => k_is); (case l21 => k_is); (case c21 => k_is); (case k21 => k_is); (case a22 => k_is); (case l22 => k_is); (case c22 => k_is)
    (case k22 => k_is); (case a23 => k_is); (case l23 => k_is); (case c23 => k_is); (case k23 => k_is); (case a24 => k_is); (case l24 => k_is); (case c24 => k_is)
    (case k24 => k_is); (case a25 => k_is); (case l25 => k_is); (case c25 => k_is); (case k25 => k_is); (case a26 => k_is); (case l26 => k_is); (case c26 => k_is)
    (case k26 => k_is); (case a27 => k_is); (case l27 => k_is); (case c27 => k_is); (case k27 => k_is); (case ma28 => k_is); (case mf28 => k_is); (case mi28 => k_is)
    (case l28 => k_is); (case c28 => k_is); (case k28 => k_is); (case a29 => k_is); (case l29 => k_is); (case c29 => k_is); (case k29 => k_is); (case a30 => k_is)
    (case l30 => k_is); (case c30 => k_is); (case k30 => k_is); (case a31 => k_is); (case l31 => k_is); (case c31 => k_is); (case k31 => k_is); (case a32 => k_is)
    (case l32 => k_is); (case c32 => k_is); (case k32 => k_is); (case a33 => k_is); (case l33 => k_is); (case c33 => k_is); (case k33 => k_is); (case a34 => k_is)
    (case l34 => k_is); (case c34 => k_is); (case k34 => k_is); (case a35 => k_is); (case l35 => k_is); (case c35 => k_is); (case k35 => k_is); (case a36 => k_is)
    (case l36 => k_is); (case c36 => k_is); (case k36 => k_is); (case a37 => k_is); (case l37 => k_is); (case c37 => k_is); (case k37 => k_is); (case a38 => k_is)
    (case l38 => k_is); (case c38 => k_is); (case k38 => k_is); (case a39 => k_is); (case l39 => k_is); (case c39 => k_is); (case k39 => k_is); (case a40 => k_is)
    (case l40 => k_is); (case c40 => k_is); (case k40 => k_is); (case a41 => k_is); (case l41 => k_is); (case c41 => k_is); (case k41 => k_is); (case a42 => k_is)
    (case l42 => k_is); (case c42 => k_is); (case k42 => k_is); (case a43 => k_is); (case l43 => k_is); (case c43 => k_is); (case k43 => k_is); (case a44 => k_is)
    (case l44 => k_is); (case c44 => k_is); (case k44 => k_is); (case a45 => k_is); (case l45 => k_is); (case c45 => k_is); (case k45 => k_is); (case a46 => k_is)
    (case l46 => k_is); (case c46 => k_is); (case k46 => k_is); (case a47 => k_is); (case l47 => k_is); (case c47 => k_is); (case k47 => k_is); (case a48 => k_is)
    (case l48 => k_is); (case c48 => k_is); (case k48 => k_is); (case a49 => k_is); (case l49 => k_is); (case c49 => k_is); (case k49 => k_is); (case a50 => k_is)
    (case l50 => k_is); (case c50 => k_is); (case k50 => k_is); (case a51 => k_is); (case l51 => k_is); (case c51 => k_is); (case k51 => k_is); (case a52 => k_is)
    (case l52 => k_is); (case c52 => k_is); (case k52 => k_is); (case a53 => k_is); (case l53 => k_is); (case c53 => k_is); (case k53 => k_is); (case a54 => k_is)
    (case l54 => k_is); (case c54 => k_is); (case k54 => k_is); (case a55 => k_is); (case l55 => k_is); (case c55 => k_is); (case k55 => k_is); (case a56 => k_is)
    (case l56 => k_is); (case c56 => k_is); (case k56 => k_is); (case a57 => k_is); (case l57 => k_is); (case c57 => k_is); (case k57 => k_is); (case a58 => k_is)
    (case l58 => k_is); (case c58 => k_is); (case k58 => k_is); (case a59 => k_is); (case l59 => k_is); (case c59 => k_is); (case k59 => k_is); (case y59 => k_is)
    (case p59 => rfl); (case r59 => first | kernel_rfl | rfl | decide +kernel); (case q59 => first | rfl | kernel_rfl); (case a60 => k_is); (case l60 => k_is); (case c60 => k_is); (case k60 => k_is); (case y60 => k_is)
    (case p60 => rfl); (case r60 => first | kernel_rfl | rfl | decide +kernel); (case q60 => first | rfl | kernel_rfl); (case a61 => k_is); (case l61 => k_is); (case c61 => k_is); (case k61 => k_is); (case y61 => k_is)
    (case p61 => rfl); (case r61 => first | kernel_rfl | rfl | decide +kernel); (case q61 => first | rfl | kernel_rfl); (case a62 => k_is); (case l62 => k_is); (case c62 => k_is); (case k62 => k_is); (case y62 => k_is)
    (case p62 => rfl); (case r62 => first | kernel_rfl | rfl | decide +kernel); (case q62 => first | rfl | kernel_rfl); (case a63 => k_is); (case l63 => k_is); (case c63 => k_is); (case k63 => k_is); (case a64 => k_is)
    (case l64 => k_is); (case c64 => k_is); (case k64 => k_is); (case y64 => k_is); (case p64 => rfl); (case r64 => first | kernel_rfl | rfl | decide +kernel); (case q64 => first | rfl | kernel_rfl); (case j64_59 => decide)
    (case j64_60 => decide); (case j64_61 => decide); (case j64_62 => decide); (case j59_60 => decide); (case j59_61 => decide); (case j59_62 => decide); (case j60_61 => decide); (case j60_62 => decide)
    (case j61_62 => decide); (case kpg_Lane => k_is); (case khd_Lane => k_is); (case kpo_Lane => k_is); (case ksa_Lane => k_is); (case ksf_Lane => k_is); (case kmo_Lane => k_is); (case kca_Lane => k_is)
    (case kic_Lane => k_is); (case kty_Lane => k_is); (case ksNoneType_Lane => k_is); (case ksbool_Lane => k_is); (case ksint_Lane => k_is); (case ksstr_Lane => k_is); (case kstuple_Lane => k_is); (case kslist_Lane => k_is)
    (case kn_now_Lane => k_is); (case kn_past_Lane => k_is); (case kn_space_Lane => k_is); (case kmk_Lane => k_is); (case kkp_Lane => k_is); (case krd_Lane => k_is); (case kga_Lane => k_is); (case kv_MOST_Lane => k_is)
    (case u__law_lots => k_is); (case u__law_tried => k_is); (case u__law_signs_right => k_is); (case u__law_refused => k_is); (case u__law_called => k_is); (case u__law_shows => k_is); (case u__law_nested => k_is); (case u__law_ended => k_is)
    (case u__law_back => k_is); (case u__law_full_right => k_is); (case ex_InvalidDrill => k_exc); (case ek_InvalidDrill => k_is); (case eb_InvalidDrill => k_is); (case et_InvalidDrill => k_is); (case ex_InvalidBeginning => k_exc); (case ek_InvalidBeginning => k_is)
    (case eb_InvalidBeginning => k_is); (case et_InvalidBeginning => k_is); (case ex_InvalidMany => k_exc); (case ek_InvalidMany => k_is); (case eb_InvalidMany => k_is); (case et_InvalidMany => k_is); (case ex_InvalidSheep => k_exc); (case ek_InvalidSheep => k_is)
    (case eb_InvalidSheep => k_is); (case et_InvalidSheep => k_is); (case ex_Unlike => k_exc); (case ek_Unlike => k_is); (case eb_Unlike => k_is); (case et_Unlike => k_is); (case ex_InvalidPlace => k_exc); (case ek_InvalidPlace => k_is)
    (case eb_InvalidPlace => k_is); (case et_InvalidPlace => k_is); (case ex_InvalidRun => k_exc); (case ek_InvalidRun => k_is); (case eb_InvalidRun => k_is); (case et_InvalidRun => k_is); (case ex_InvalidIndex => k_exc); (case ek_InvalidIndex => k_is)
    (case eb_InvalidIndex => k_is); (case et_InvalidIndex => k_is); (case ex_NothingToUndo => k_exc); (case ek_NothingToUndo => k_is); (case eb_NothingToUndo => k_is); (case et_NothingToUndo => k_is); (case ex_DogError => k_exc); (case ek_DogError => k_is)
    (case eb_DogError => k_is); (case et_DogError => k_is); (case gn => k_is); (case gt => k_is); (case ec_TooMany => k_is); (case ed_TooMany => k_is); (case ee_TooMany => k_is); (case ec_InvalidText => k_is)
    (case ed_InvalidText => k_is); (case ee_InvalidText => k_is); (case hd_TooMany => k_is); (case hf_TooMany => k_is); (case hd_InvalidText => k_is); (case hf_InvalidText => k_is); (case eb_TooMany => k_is); (case et_TooMany => k_is)
    (case eb_InvalidText => k_is); (case et_InvalidText => k_is); (case ei_InvalidDrill => k_is); (case es_InvalidDrill_InvalidDrill => first | k_is | rfl); (case es_InvalidBeginning_InvalidDrill => first | k_is | rfl); (case es_InvalidMany_InvalidDrill => first | k_is | rfl); (case es_InvalidSheep_InvalidDrill => first | k_is | rfl); (case es_Unlike_InvalidDrill => first | k_is | rfl)
    (case ei_InvalidBeginning => k_is); (case es_InvalidDrill_InvalidBeginning => first | k_is | rfl); (case es_InvalidBeginning_InvalidBeginning => first | k_is | rfl); (case es_InvalidMany_InvalidBeginning => first | k_is | rfl); (case es_InvalidSheep_InvalidBeginning => first | k_is | rfl); (case es_Unlike_InvalidBeginning => first | k_is | rfl); (case ei_InvalidMany => k_is); (case es_InvalidDrill_InvalidMany => first | k_is | rfl)
    (case es_InvalidBeginning_InvalidMany => first | k_is | rfl); (case es_InvalidMany_InvalidMany => first | k_is | rfl); (case es_InvalidSheep_InvalidMany => first | k_is | rfl); (case es_Unlike_InvalidMany => first | k_is | rfl); (case ei_InvalidSheep => k_is); (case es_InvalidDrill_InvalidSheep => first | k_is | rfl); (case es_InvalidBeginning_InvalidSheep => first | k_is | rfl); (case es_InvalidMany_InvalidSheep => first | k_is | rfl)
    (case es_InvalidSheep_InvalidSheep => first | k_is | rfl); (case es_Unlike_InvalidSheep => first | k_is | rfl); (case ei_InvalidPlace => k_is); (case es_InvalidDrill_InvalidPlace => first | k_is | rfl); (case es_InvalidBeginning_InvalidPlace => first | k_is | rfl); (case es_InvalidMany_InvalidPlace => first | k_is | rfl); (case es_InvalidSheep_InvalidPlace => first | k_is | rfl); (case es_Unlike_InvalidPlace => first | k_is | rfl)
    (case ei_InvalidRun => k_is); (case es_InvalidDrill_InvalidRun => first | k_is | rfl); (case es_InvalidBeginning_InvalidRun => first | k_is | rfl); (case es_InvalidMany_InvalidRun => first | k_is | rfl); (case es_InvalidSheep_InvalidRun => first | k_is | rfl); (case es_Unlike_InvalidRun => first | k_is | rfl); (case ei_InvalidIndex => k_is); (case es_InvalidDrill_InvalidIndex => first | k_is | rfl)
    (case es_InvalidBeginning_InvalidIndex => first | k_is | rfl); (case es_InvalidMany_InvalidIndex => first | k_is | rfl); (case es_InvalidSheep_InvalidIndex => first | k_is | rfl); (case es_Unlike_InvalidIndex => first | k_is | rfl); (case ei_Unlike => k_is); (case es_InvalidDrill_Unlike => first | k_is | rfl); (case es_InvalidBeginning_Unlike => first | k_is | rfl); (case es_InvalidMany_Unlike => first | k_is | rfl)
    (case es_InvalidSheep_Unlike => first | k_is | rfl); (case es_Unlike_Unlike => first | k_is | rfl); (case ei_NothingToUndo => k_is); (case es_InvalidDrill_NothingToUndo => first | k_is | rfl); (case es_InvalidBeginning_NothingToUndo => first | k_is | rfl); (case es_InvalidMany_NothingToUndo => first | k_is | rfl); (case es_InvalidSheep_NothingToUndo => first | k_is | rfl); (case es_Unlike_NothingToUndo => first | k_is | rfl)
    (case ei_DogError => k_is); (case es_InvalidDrill_DogError => first | k_is | rfl); (case es_InvalidBeginning_DogError => first | k_is | rfl); (case es_InvalidMany_DogError => first | k_is | rfl); (case es_InvalidSheep_DogError => first | k_is | rfl); (case es_Unlike_DogError => first | k_is | rfl); (case ei_TooMany => k_is); (case es_InvalidDrill_TooMany => first | k_is | rfl)
    (case es_InvalidBeginning_TooMany => first | k_is | rfl); (case es_InvalidMany_TooMany => first | k_is | rfl); (case es_InvalidSheep_TooMany => first | k_is | rfl); (case es_Unlike_TooMany => first | k_is | rfl); (case ei_InvalidText => k_is); (case es_InvalidDrill_InvalidText => first | k_is | rfl); (case es_InvalidBeginning_InvalidText => first | k_is | rfl); (case es_InvalidMany_InvalidText => first | k_is | rfl)
    (case es_InvalidSheep_InvalidText => first | k_is | rfl); (case es_Unlike_InvalidText => first | k_is | rfl); (case v_GREAT => k_is); (case v_FAR => k_is); (case v_MOST_RUNS => k_is); (case v_MOST_SHEEP => k_is); (case v_WIDEST => k_is); (case v_DEEPEST => k_is)
    (case z_abs => k_is); (case z_bool => k_is); (case z_enumerate => k_is); (case z_int => k_is); (case z_isinstance => k_is); (case z_len => k_is); (case z_list => k_is); (case z_max => k_is)
    (case z_min => k_is); (case z_range => k_is); (case z_str => k_is); (case z_tuple => k_is); (case z_zip => k_is)
  case X =>
    intro w H s e s' h
    exact DL.cx_none h
